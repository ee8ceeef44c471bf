import PyProof.Rows.All
import Wide.All
import OpenK.AllK
import Wide.FinOn
import HandS.ForMost
import HandS.ForExc
import HandS.Wide
import HandS.IsInst
import HandS.CallSlots
import HandS.ExcInit
import HandS.TryOnly
import HandS.TupAny
import HandS.Style
import HandS.SortInts
import HandS.Comp
import HandS.Small
import HandS.WordsExc
import HandS.EndBits
import HandS.TryMany
import HandS.Text
import HandS.More
import HandS.Conv
import KE.KDictPairs
import HandS.DictComp
import KE.GoesMore
import PyProof.DictCopy
import HandS.Deep
import PySem.Challenge.RW_elderalike_k31_whole_form_of
set_option Elab.async false
set_option linter.all false
set_option maxRecDepth 100000
set_option maxHeartbeats 4000000
namespace Mi
open PySem PySem.Spec PyProof.Rows L2

/- data; the flag at a list, a dict, an instance: nothing else holds it -/
inductive D where
  | non | bl (b : Bool) | int (i : Int) | str (s : Str) | ty (n : String) | fn (x : Str) | scr (l : List Int)
  | tup (l : List D)
  | lst (o : Bool) (l : List D)
  | dic (o : Bool) (ks ws : List D)
  | ins (o : Bool) (c : Str) (ns : List Str) (ws : List D)
  deriving Inhabited

mutual
def fz : D → Bool
  | .tup l => fzL l
  | .lst o l => !o && fzL l
  | .dic o ks ws => !o && (fzL ks && fzL ws)
  | .ins o _ _ ws => !o && fzL ws
  | _ => true
def fzL : List D → Bool
  | [] => true
  | d :: r => fz d && fzL r
end
mutual
def frz : D → D
  | .tup l => .tup (frzL l)
  | .lst _ l => .lst false (frzL l)
  | .dic _ ks ws => .dic false ks (frzL ws)
  | .ins _ c ns ws => .ins false c ns (frzL ws)
  | .non => .non | .bl b => .bl b | .int i => .int i | .str s => .str s | .ty n => .ty n | .fn x => .fn x | .scr l => .scr l
def frzL : List D → List D
  | [] => []
  | d :: r => frz d :: frzL r
end
abbrev Tag := Nat × List Nat
structure Wd where
  F : Hp
  H : Hp
  t : Addr → Option Tag
structure KM where
  P : Program
  w : World
  K : PySem.W.Frag
  mg : Str → Option Value

/- a dict's object: its keys and values -/
inductive DCell : HO → List V → List V → Prop where
  | dk (kvs : List (Key × V)) : DCell (.dK kvs) (kvs.map fun p => kV p.1) (kvs.map (·.2))

/- a tuple's object, exactly one (no dict of its own) -/
def XT (K : PySem.W.Frag) (F : Hp) (x : Addr) (vs : List V) : Prop := (∃ ob : Obj, F x = some (.frz ob (.tup vs)) ∧ ob.dict = none ∧ ob.cls = .type "tuple") ∨
  ∃ (o : Obj) (its : Array Value) (n : Nat), K.lookup x = some o ∧ o.cls = .type "tuple" ∧ o.dict = none ∧ o.data = .seq its n ∧ its.size ≤ sizeLine ∧ Vals vs its.toList
theorem XT.sq {K : PySem.W.Frag} {F : Hp} {x : Addr} {vs : List V} (h : XT K F x vs) : SqT K F x vs := by
  rcases h with ⟨ob, h, _⟩ | ⟨o, its, n, h1, h2, _, h3, h4, h5⟩
  · exact .inl (.inr ⟨ob, h⟩)
  · exact .inr ⟨o, its, n, h1, h2, h3, h4, h5⟩
theorem xt_mono {K : PySem.W.Frag} {F G : Hp} (h : ∀ x o, F x = some o → G x = some o) {x : Addr} {vs : List V} (q : XT K F x vs) : XT K G x vs := by
  rcases q with ⟨ob, q, z⟩ | q
  · exact .inl ⟨ob, h _ _ q, z⟩
  · exact .inr q
mutual
def Rep (C : KM) (a : Wd) (r : Nat) (p : List Nat) (v : V) : D → Prop
  | .non => v = .non
  | .bl b => v = .bl b
  | .int i => v = .int i
  | .str s => v = .str s
  | .ty n => v = .ty n
  | .fn x => ∃ u, C.mg x = some (.ref u) ∧ v = .ref u
  | .scr l => ∃ x, v = .ref x ∧ SqL C.K a.F x (l.map V.int)
  | .tup l => ∃ x vs, v = .ref x ∧ XT C.K a.F x vs ∧ RepL C a r p 0 vs l
  | .lst o l => ∃ x vs, v = .ref x ∧ (if o = true then a.t x = some (r, p) ∧ a.H x = some (.lst vs) else a.F x = some (.lst vs) ∧ fzL l = true) ∧ RepL C a r p 0 vs l
  | .dic o ks ws => ∃ x h kv vs, v = .ref x ∧ (if o = true then a.t x = some (r, p) ∧ a.H x = some h else a.F x = some h ∧ fzL ws = true) ∧ DCell h kv vs ∧ fzL ks = true ∧ RepL C a r p 0 kv ks ∧ RepL C a r p 0 vs ws
  | .ins o c ns ws => ∃ x u dx vs, v = .ref x ∧ C.mg c = some (.ref u) ∧ vs.length = ns.length ∧
      (if o = true then a.t x = some (r, p) ∧ a.H x = some (.ins u dx (ns.zip vs)) else a.F x = some (.ins u dx (ns.zip vs)) ∧ fzL ws = true) ∧ RepL C a r p 0 vs ws
def RepL (C : KM) (a : Wd) (r : Nat) (p : List Nat) (n : Nat) (vs : List V) : List D → Prop
  | [] => vs = []
  | d :: ds => ∃ v us, vs = v :: us ∧ Rep C a r (n :: p) v d ∧ RepL C a r p (n + 1) us ds
end

structure Ok (a : Wd) : Prop where
  sub : ∀ x o, a.F x = some o → a.H x = some o
  own : ∀ x t, a.t x = some t → a.F x = none ∧ ∃ o, a.H x = some o
/- nothing is changed, things may be new -/
structure Grow (a b : Wd) : Prop where
  h : ∀ x o, a.H x = some o → b.H x = some o ∧ b.t x = a.t x ∧ b.F x = a.F x
/- what is not owned stays -/
def Step (a b : Wd) : Prop := ∀ x o, a.H x = some o → a.t x = none → b.H x = some o ∧ b.t x = none ∧ b.F x = a.F x
theorem Grow.refl (a : Wd) : Grow a a := ⟨fun _ _ h => ⟨h, rfl, rfl⟩⟩
theorem Grow.trans {a b c : Wd} (x : Grow a b) (y : Grow b c) : Grow a c := ⟨fun z o h => by
  obtain ⟨h1, h2, h3⟩ := x.h z o h
  obtain ⟨g1, g2, g3⟩ := y.h z o h1
  exact ⟨g1, g2.trans h2, g3.trans h3⟩⟩
theorem Step.refl (a : Wd) : Step a a := fun _ _ h t => ⟨h, t, rfl⟩
theorem Step.trans {a b c : Wd} (x : Step a b) (y : Step b c) : Step a c := fun z o h t => by
  obtain ⟨h1, h2, h3⟩ := x z o h t
  obtain ⟨g1, g2, g3⟩ := y z o h1 h2
  exact ⟨g1, g2, g3.trans h3⟩
theorem Grow.step {a b : Wd} (x : Grow a b) : Step a b := fun z o h t => by
  obtain ⟨h1, h2, h3⟩ := x.h z o h
  exact ⟨h1, h2.trans t, h3⟩
theorem Ok.tn {a : Wd} (k : Ok a) {x : Addr} {o : HO} (h : a.F x = some o) : a.t x = none := by
  cases e : a.t x with
  | none => rfl
  | some t => have := (k.own x t e).1; rw [h] at this; cases this
theorem Step.f {a b : Wd} (s : Step a b) (k : Ok a) {x : Addr} {o : HO} (h : a.F x = some o) : b.F x = some o := by
  rw [(s x o (k.sub x o h) (k.tn h)).2.2]; exact h
theorem Grow.f {a b : Wd} (s : Grow a b) (k : Ok a) {x : Addr} {o : HO} (h : a.F x = some o) : b.F x = some o := by
  rw [(s.h x o (k.sub x o h)).2.2]; exact h

theorem sql_mono {K : PySem.W.Frag} {F G : Hp} (h : ∀ x o, F x = some o → G x = some o) {x : Addr} {vs : List V} (q : SqL K F x vs) : SqL K G x vs := by
  rcases q with (q | ⟨o, q⟩) | q
  · exact .inl (.inl (h _ _ q))
  · exact .inl (.inr ⟨o, h _ _ q⟩)
  · exact .inr q
theorem sqt_mono {K : PySem.W.Frag} {F G : Hp} (h : ∀ x o, F x = some o → G x = some o) {x : Addr} {vs : List V} (q : SqT K F x vs) : SqT K G x vs := by
  rcases q with (q | ⟨o, q⟩) | q
  · exact .inl (.inl (h _ _ q))
  · exact .inl (.inr ⟨o, h _ _ q⟩)
  · exact .inr q

/-! the general transport: F grows, owned nodes of the tree keep their cell and get the new tag -/
mutual
theorem Rep.to {C : KM} {a b : Wd} {r s : Nat} {p q : List Nat} (hf : ∀ x o, a.F x = some o → b.F x = some o)
    (ho : ∀ x z o, a.t x = some (r, z ++ p) → a.H x = some o → b.t x = some (s, z ++ q) ∧ b.H x = some o) :
    ∀ (d : D) (z : List Nat) (v : V), Rep C a r (z ++ p) v d → Rep C b s (z ++ q) v d
  | .non, z, v, h => h
  | .bl _, z, v, h => h
  | .int _, z, v, h => h
  | .str _, z, v, h => h
  | .ty _, z, v, h => h
  | .fn _, z, v, h => h
  | .scr _, z, v, ⟨x, e, h⟩ => ⟨x, e, sql_mono hf h⟩
  | .tup l, z, v, ⟨x, vs, e, h, k⟩ => ⟨x, vs, e, xt_mono hf h, RepL.to hf ho l z 0 vs k⟩
  | .lst true l, z, v, ⟨x, vs, e, h, k⟩ => ⟨x, vs, e, by rw [if_pos rfl] at h ⊢; exact ho x z _ h.1 h.2, RepL.to hf ho l z 0 vs k⟩
  | .lst false l, z, v, ⟨x, vs, e, h, k⟩ => ⟨x, vs, e, by rw [if_neg Bool.false_ne_true] at h ⊢; exact ⟨hf _ _ h.1, h.2⟩, RepL.to hf ho l z 0 vs k⟩
  | .dic true ks ws, z, v, ⟨x, u, kv, vs, e, h, c, f, k1, k2⟩ => ⟨x, u, kv, vs, e, by rw [if_pos rfl] at h ⊢; exact ho x z _ h.1 h.2, c, f, RepL.to hf ho ks z 0 kv k1, RepL.to hf ho ws z 0 vs k2⟩
  | .dic false ks ws, z, v, ⟨x, u, kv, vs, e, h, c, f, k1, k2⟩ => ⟨x, u, kv, vs, e, by rw [if_neg Bool.false_ne_true] at h ⊢; exact ⟨hf _ _ h.1, h.2⟩, c, f, RepL.to hf ho ks z 0 kv k1, RepL.to hf ho ws z 0 vs k2⟩
  | .ins true c ns ws, z, v, ⟨x, u, dx, vs, e, m, l, h, k⟩ => ⟨x, u, dx, vs, e, m, l, by rw [if_pos rfl] at h ⊢; exact ho x z _ h.1 h.2, RepL.to hf ho ws z 0 vs k⟩
  | .ins false c ns ws, z, v, ⟨x, u, dx, vs, e, m, l, h, k⟩ => ⟨x, u, dx, vs, e, m, l, by rw [if_neg Bool.false_ne_true] at h ⊢; exact ⟨hf _ _ h.1, h.2⟩, RepL.to hf ho ws z 0 vs k⟩
theorem RepL.to {C : KM} {a b : Wd} {r s : Nat} {p q : List Nat} (hf : ∀ x o, a.F x = some o → b.F x = some o)
    (ho : ∀ x z o, a.t x = some (r, z ++ p) → a.H x = some o → b.t x = some (s, z ++ q) ∧ b.H x = some o) :
    ∀ (l : List D) (z : List Nat) (n : Nat) (vs : List V), RepL C a r (z ++ p) n vs l → RepL C b s (z ++ q) n vs l
  | [], z, n, vs, h => h
  | d :: l, z, n, vs, ⟨v, us, e, h1, h2⟩ => ⟨v, us, e, Rep.to hf ho d (n :: z) v h1, RepL.to hf ho l z (n + 1) us h2⟩
end
/-! frozen data stands at any tag -/
mutual
theorem Rep.fz {C : KM} {a b : Wd} {r s : Nat} (hf : ∀ x o, a.F x = some o → b.F x = some o) :
    ∀ (d : D) (p q : List Nat) (v : V), fz d = true → Rep C a r p v d → Rep C b s q v d
  | .non, p, q, v, _, h => h
  | .bl _, p, q, v, _, h => h
  | .int _, p, q, v, _, h => h
  | .str _, p, q, v, _, h => h
  | .ty _, p, q, v, _, h => h
  | .fn _, p, q, v, _, h => h
  | .scr _, p, q, v, _, ⟨x, e, h⟩ => ⟨x, e, sql_mono hf h⟩
  | .tup l, p, q, v, z, ⟨x, vs, e, h, k⟩ => ⟨x, vs, e, xt_mono hf h, RepL.fz hf l p q 0 vs z k⟩
  | .lst true l, p, q, v, z, _ => by simp [Mi.fz] at z
  | .lst false l, p, q, v, z, ⟨x, vs, e, h, k⟩ => by
    have z : fzL l = true := by simpa [Mi.fz] using z
    exact ⟨x, vs, e, by rw [if_neg Bool.false_ne_true] at h ⊢; exact ⟨hf _ _ h.1, h.2⟩, RepL.fz hf l p q 0 vs z k⟩
  | .dic true ks ws, p, q, v, z, _ => by simp [Mi.fz] at z
  | .dic false ks ws, p, q, v, z, ⟨x, u, kv, vs, e, h, c, f, k1, k2⟩ => by
    have z : fzL ks = true ∧ fzL ws = true := by simpa [Mi.fz] using z
    exact ⟨x, u, kv, vs, e, by rw [if_neg Bool.false_ne_true] at h ⊢; exact ⟨hf _ _ h.1, h.2⟩, c, f, RepL.fz hf ks p q 0 kv z.1 k1, RepL.fz hf ws p q 0 vs z.2 k2⟩
  | .ins true c ns ws, p, q, v, z, _ => by simp [Mi.fz] at z
  | .ins false c ns ws, p, q, v, z, ⟨x, u, dx, vs, e, m, l, h, k⟩ => by
    have z : fzL ws = true := by simpa [Mi.fz] using z
    exact ⟨x, u, dx, vs, e, m, l, by rw [if_neg Bool.false_ne_true] at h ⊢; exact ⟨hf _ _ h.1, h.2⟩, RepL.fz hf ws p q 0 vs z k⟩
theorem RepL.fz {C : KM} {a b : Wd} {r s : Nat} (hf : ∀ x o, a.F x = some o → b.F x = some o) :
    ∀ (l : List D) (p q : List Nat) (n : Nat) {m : Nat} (vs : List V), fzL l = true → RepL C a r p n vs l → RepL C b s q m vs l
  | [], p, q, n, m, vs, _, h => h
  | d :: l, p, q, n, m, vs, z, ⟨v, us, e, h1, h2⟩ => by
    have z : Mi.fz d = true ∧ fzL l = true := by simpa [Mi.fzL] using z
    exact ⟨v, us, e, Rep.fz hf d (n :: p) (m :: q) v z.1 h1, RepL.fz hf l p q (n + 1) us z.2 h2⟩
end
/-! a tree is frozen: its nodes go into F -/
mutual
theorem Rep.frz {C : KM} {a b : Wd} {r s : Nat} (hf : ∀ x o, a.F x = some o → b.F x = some o) (ho : ∀ x z o, a.t x = some (r, z) → a.H x = some o → b.F x = some o) :
    ∀ (d : D) (p q : List Nat) (v : V), Rep C a r p v d → Mi.fz (Mi.frz d) = true ∧ Rep C b s q v (Mi.frz d)
  | .non, p, q, v, h => ⟨rfl, h⟩
  | .bl _, p, q, v, h => ⟨rfl, h⟩
  | .int _, p, q, v, h => ⟨rfl, h⟩
  | .str _, p, q, v, h => ⟨rfl, h⟩
  | .ty _, p, q, v, h => ⟨rfl, h⟩
  | .fn _, p, q, v, h => ⟨rfl, h⟩
  | .scr _, p, q, v, ⟨x, e, h⟩ => ⟨rfl, x, e, sql_mono hf h⟩
  | .tup l, p, q, v, ⟨x, vs, e, h, k⟩ => by
    obtain ⟨z, k'⟩ := RepL.frz (s := s) hf ho l p q 0 vs k
    exact ⟨by simpa [Mi.fz, Mi.frz] using z, x, vs, e, xt_mono hf h, k'⟩
  | .lst o l, p, q, v, ⟨x, vs, e, h, k⟩ => by
    obtain ⟨z, k'⟩ := RepL.frz (s := s) hf ho l p q 0 vs k
    refine ⟨by simpa [Mi.fz, Mi.frz] using z, x, vs, e, ?_, k'⟩
    rw [if_neg Bool.false_ne_true]
    cases o with
    | true => rw [if_pos rfl] at h; exact ⟨ho x _ _ h.1 h.2, z⟩
    | false => rw [if_neg Bool.false_ne_true] at h; exact ⟨hf _ _ h.1, z⟩
  | .dic o ks ws, p, q, v, ⟨x, u, kv, vs, e, h, c, f, k1, k2⟩ => by
    obtain ⟨z, k'⟩ := RepL.frz (s := s) hf ho ws p q 0 vs k2
    refine ⟨by simp [Mi.fz, Mi.frz, z, f], x, u, kv, vs, e, ?_, c, f, RepL.fz hf ks p q 0 kv f k1, k'⟩
    rw [if_neg Bool.false_ne_true]
    cases o with
    | true => rw [if_pos rfl] at h; exact ⟨ho x _ _ h.1 h.2, z⟩
    | false => rw [if_neg Bool.false_ne_true] at h; exact ⟨hf _ _ h.1, z⟩
  | .ins o c ns ws, p, q, v, ⟨x, u, dx, vs, e, m, l, h, k⟩ => by
    obtain ⟨z, k'⟩ := RepL.frz (s := s) hf ho ws p q 0 vs k
    refine ⟨by simpa [Mi.fz, Mi.frz] using z, x, u, dx, vs, e, m, l, ?_, k'⟩
    rw [if_neg Bool.false_ne_true]
    cases o with
    | true => rw [if_pos rfl] at h; exact ⟨ho x _ _ h.1 h.2, z⟩
    | false => rw [if_neg Bool.false_ne_true] at h; exact ⟨hf _ _ h.1, z⟩
theorem RepL.frz {C : KM} {a b : Wd} {r s : Nat} (hf : ∀ x o, a.F x = some o → b.F x = some o) (ho : ∀ x z o, a.t x = some (r, z) → a.H x = some o → b.F x = some o) :
    ∀ (l : List D) (p q : List Nat) (n : Nat) {m : Nat} (vs : List V), RepL C a r p n vs l → fzL (frzL l) = true ∧ RepL C b s q m vs (frzL l)
  | [], p, q, n, m, vs, h => ⟨rfl, h⟩
  | d :: l, p, q, n, m, vs, ⟨v, us, e, h1, h2⟩ => by
    obtain ⟨z1, k1⟩ := Rep.frz (s := s) hf ho d (n :: p) (m :: q) v h1
    obtain ⟨z2, k2⟩ := RepL.frz (s := s) hf ho l p q (n + 1) (m := m + 1) us h2
    exact ⟨by simp [Mi.frzL, Mi.fzL, z1, z2], v, us, e, k1, k2⟩
end
end Mi
namespace Mi
open PySem PySem.Spec PyProof.Rows L2

mutual
theorem frz_fz : ∀ d : D, fz d = true → frz d = d
  | .non, _ => rfl
  | .bl _, _ => rfl
  | .int _, _ => rfl
  | .str _, _ => rfl
  | .ty _, _ => rfl
  | .fn _, _ => rfl
  | .scr _, _ => rfl
  | .tup l, h => by simp only [frz, frzL_fz l (by simpa [fz] using h)]
  | .lst o l, h => by
    have h : o = false ∧ fzL l = true := by simpa [fz] using h
    simp only [frz, frzL_fz l h.2, h.1]
  | .dic o ks ws, h => by
    have h : o = false ∧ fzL ks = true ∧ fzL ws = true := by simpa [fz] using h
    simp only [frz, frzL_fz ws h.2.2, h.1]
  | .ins o c ns ws, h => by
    have h : o = false ∧ fzL ws = true := by simpa [fz] using h
    simp only [frz, frzL_fz ws h.2, h.1]
theorem frzL_fz : ∀ l : List D, fzL l = true → frzL l = l
  | [], _ => rfl
  | d :: l, h => by
    have h : fz d = true ∧ fzL l = true := by simpa [fzL] using h
    simp only [frzL, frz_fz d h.1, frzL_fz l h.2]
end

/-! ### the worlds behind a freezing, a move -/
def frzW (a : Wd) (r : Nat) : Wd where
  F := fun x => match a.t x with | some (s, _) => if s = r then a.H x else a.F x | none => a.F x
  H := a.H
  t := fun x => match a.t x with | some (s, q) => if s = r then none else some (s, q) | none => none
def mvW (a : Wd) (r k : Nat) : Wd where
  F := a.F
  H := a.H
  t := fun x => match a.t x with | some (s, q) => if s = r then some (k, q) else some (s, q) | none => none
section
variable {a b : Wd} {C : KM} {r k s : Nat} {d : D} {v : V} {p q : List Nat}
theorem frzW_f (k : Ok a) : ∀ x o, a.F x = some o → (frzW a r).F x = some o := fun x o h => by
  show (match a.t x with | some (s, _) => if s = r then a.H x else a.F x | none => a.F x) = _
  rw [k.tn h]; exact h
theorem frzW_o (r : Nat) : ∀ x z o, a.t x = some (r, z) → a.H x = some o → (frzW a r).F x = some o := fun x z o h e => by
  show (match a.t x with | some (s, _) => if s = r then a.H x else a.F x | none => a.F x) = _
  rw [h]; simpa using e
theorem frzW_ok (k : Ok a) : Ok (frzW a r) := by
  refine ⟨fun x o h => ?_, fun x t h => ?_⟩
  · have h : (match a.t x with | some (s, _) => if s = r then a.H x else a.F x | none => a.F x) = some o := h
    show a.H x = some o
    split at h
    · split at h
      · exact h
      · exact k.sub x o h
    · exact k.sub x o h
  · have h : (match a.t x with | some (s, q) => if s = r then none else some (s, q) | none => none) = some t := h
    split at h
    · rename_i s q e
      split at h
      · cases h
      · rename_i ne
        obtain ⟨h1, h2⟩ := k.own x _ e
        refine ⟨?_, h2⟩
        show (match a.t x with | some (s, _) => if s = r then a.H x else a.F x | none => a.F x) = none
        rw [e]; simp [ne, h1]
    · cases h
theorem frzW_step : Step a (frzW a r) := fun x o h t => by
  refine ⟨h, ?_, ?_⟩
  · show (match a.t x with | some (s, q) => if s = r then none else some (s, q) | none => none) = none
    rw [t]
  · show (match a.t x with | some (s, _) => if s = r then a.H x else a.F x | none => a.F x) = a.F x
    rw [t]
theorem frzW_rep (k : Ok a) (h : Rep C a r p v d) : fz (frz d) = true ∧ Rep C (frzW a r) s q v (frz d) := Rep.frz (frzW_f k) (frzW_o r) d p q v h
theorem frzW_else (k : Ok a) (ne : s ≠ r) (h : Rep C a s p v d) : Rep C (frzW a r) s p v d := by
  have := Rep.to (C := C) (a := a) (b := frzW a r) (r := s) (s := s) (p := p) (q := p) (frzW_f k) (fun x z o h e => ⟨by
    show (match a.t x with | some (s, q) => if s = r then none else some (s, q) | none => none) = _
    rw [h]; simp [ne], e⟩) d [] v
  exact this h
theorem mvW_ok (k : Ok a) {r m : Nat} : Ok (mvW a r m) := by
  refine ⟨k.sub, fun x t h => ?_⟩
  have h : (match a.t x with | some (s, q) => if s = r then some (m, q) else some (s, q) | none => none) = some t := h
  split at h
  · rename_i s q e; exact k.own x _ e
  · cases h
theorem mvW_step {r m : Nat} : Step a (mvW a r m) := fun x o h t => by
  refine ⟨h, ?_, rfl⟩
  show (match a.t x with | some (s, q) => if s = r then some (m, q) else some (s, q) | none => none) = none
  rw [t]
theorem mvW_rep {m : Nat} (h : Rep C a r p v d) : Rep C (mvW a r m) m p v d := by
  have := Rep.to (C := C) (a := a) (b := mvW a r m) (r := r) (s := m) (p := p) (q := p) (fun _ _ h => h) (fun x z o h e => ⟨by
    show (match a.t x with | some (s, q) => if s = r then some (m, q) else some (s, q) | none => none) = _
    rw [h]; simp, e⟩) d [] v
  exact this h
theorem mvW_else {m : Nat} (ne : s ≠ r) (h : Rep C a s p v d) : Rep C (mvW a r m) s p v d := by
  have := Rep.to (C := C) (a := a) (b := mvW a r m) (r := s) (s := s) (p := p) (q := p) (fun _ _ h => h) (fun x z o h e => ⟨by
    show (match a.t x with | some (s, q) => if s = r then some (m, q) else some (s, q) | none => none) = _
    rw [h]; simp [ne], e⟩) d [] v
  exact this h
theorem Rep.grow (k : Ok a) (g : Grow a b) (h : Rep C a r p v d) : Rep C b r p v d := by
  have := Rep.to (C := C) (a := a) (b := b) (r := r) (s := r) (p := p) (q := p) (fun x o h => g.f k h) (fun x z o h e => ⟨((g.h x o e).2.1).trans h, (g.h x o e).1⟩) d [] v
  exact this h
theorem Rep.step (k : Ok a) (st : Step a b) (z : Mi.fz d = true) (h : Rep C a r p v d) : Rep C b s q v d := Rep.fz (fun x o h => st.f k h) d p q v z h
theorem Rep.stepL {l : List D} {vs : List V} {n m : Nat} (k : Ok a) (st : Step a b) (z : fzL l = true) (h : RepL C a r p n vs l) : RepL C b s q m vs l := RepL.fz (fun x o h => st.f k h) l p q n vs z h
/- a new thing, frozen, owned -/
theorem grow_f {o : HO} {x : Addr} (k : Ok a) (hx : a.H x = none) : Grow a ⟨upd a.F x o, upd a.H x o, a.t⟩ ∧ Ok ⟨upd a.F x o, upd a.H x o, a.t⟩ := by
  have tx : a.t x = none := by
    cases e : a.t x with
    | none => rfl
    | some t => obtain ⟨_, o, h⟩ := k.own x t e; rw [hx] at h; cases h
  refine ⟨⟨fun y u h => ?_⟩, ⟨fun y u h => ?_, fun y t h => ?_⟩⟩
  · have ne : y ≠ x := by rintro rfl; rw [hx] at h; cases h
    exact ⟨by show upd a.H x o y = _; rw [upd_ne ne]; exact h, rfl, by show upd a.F x o y = _; rw [upd_ne ne]⟩
  · by_cases e : y = x
    · subst e
      have h : upd a.F y o y = some u := h
      rw [upd_same] at h
      show upd a.H y o y = some u
      rw [upd_same]; exact h
    · have h : upd a.F x o y = some u := h
      rw [upd_ne e] at h
      show upd a.H x o y = some u
      rw [upd_ne e]; exact k.sub y u h
  · have ne : y ≠ x := by rintro rfl; have h : a.t y = some t := h; rw [tx] at h; cases h
    obtain ⟨h1, u, h2⟩ := k.own y t h
    exact ⟨by show upd a.F x o y = _; rw [upd_ne ne]; exact h1, u, by show upd a.H x o y = _; rw [upd_ne ne]; exact h2⟩
theorem grow_o {o : HO} {x : Addr} (T : Tag) (k : Ok a) (hx : a.H x = none) : Grow a ⟨a.F, upd a.H x o, fun y => if y = x then some T else a.t y⟩ ∧ Ok ⟨a.F, upd a.H x o, fun y => if y = x then some T else a.t y⟩ := by
  have fx : a.F x = none := by
    cases e : a.F x with
    | none => rfl
    | some u => have := k.sub x u e; rw [hx] at this; cases this
  refine ⟨⟨fun y u h => ?_⟩, ⟨fun y u h => ?_, fun y t h => ?_⟩⟩
  · have ne : y ≠ x := by rintro rfl; rw [hx] at h; cases h
    exact ⟨by show upd a.H x o y = _; rw [upd_ne ne]; exact h, if_neg ne, rfl⟩
  · have ne : y ≠ x := by rintro rfl; have h : a.F y = some u := h; rw [fx] at h; cases h
    show upd a.H x o y = _
    rw [upd_ne ne]; exact k.sub y u h
  · have h : (if y = x then some T else a.t y) = some t := h
    by_cases e : y = x
    · subst e
      exact ⟨fx, o, upd_same⟩
    · rw [if_neg e] at h
      obtain ⟨h1, u, h2⟩ := k.own y t h
      exact ⟨h1, u, by show upd a.H x o y = _; rw [upd_ne e]; exact h2⟩
end

/-! ### results, frames -/
abbrev EnvD := List (Option D)
structure Exc where
  cls : Str
  ns : List Str
  ws : List D
inductive Res (α : Type) where
  | ok (a : α) | exc (x : Exc) (e : EnvD) | bad
def Res.bind {α β : Type} (m : Res α) (k : α → Res β) : Res β := match m with
  | .ok a => k a
  | .exc x e => .exc x e
  | .bad => .bad
instance : Monad Res where
  pure := .ok
  bind := Res.bind
structure Gm where
  C : KM
  vs0 : List V
  io : List Nat
structure RelE (G : Gm) (a : Wd) (σ : L2.St) (env : EnvD) : Prop where
  ok : Ok a
  len : env.length = σ.length
  slot : ∀ i d, env[i]? = some (some d) → ∃ v, σ[i]? = some (some v) ∧ Rep G.C a (i + 1) [] v d
  prm : ∀ i ∈ G.io, ∀ v, G.vs0[i]? = some v → σ[i]? = some (some v)
def ExcRep (C : KM) (a : Wd) (x : Exc) (cls : Value) (dd : Option Addr) : Prop :=
  C.mg x.cls = some cls ∧ ((x.ns = [] ∧ x.ws = [] ∧ dd = none) ∨ ∃ u vs, dd = some u ∧ a.F u = some (.xd (x.ns.zip vs)) ∧ vs.length = x.ns.length ∧ fzL x.ws = true ∧ RepL C a 0 [] 0 vs x.ws)

section
variable {G : Gm} {W : WX} {σ : L2.St} {a b : Wd} {env : EnvD} {α β : Type}
theorem RelE.grow (r : RelE G a σ env) (g : Grow a b) (k : Ok b) : RelE G b σ env :=
  ⟨k, r.len, fun i d h => let ⟨v, e, q⟩ := r.slot i d h; ⟨v, e, q.grow r.ok g⟩, r.prm⟩
/- behind an expression -/
def PostR (G : Gm) (W : WX) (σ : L2.St) (a : Wd) (r : Res (α × EnvD)) (K : α → EnvD → Wd → Prop) : Prop :=
  match r with
  | .ok (x, e) => ∀ b, Step a b → RelE G b σ e → K x e b
  | .exc x e => ∀ b cls dd, Step a b → RelE G b σ e → ExcRep G.C b x cls dd → W cls dd σ b.H
  | .bad => False
theorem PostR.step {r : Res (α × EnvD)} {K : α → EnvD → Wd → Prop} (st : Step a b) (h : PostR G W σ a r K) : PostR G W σ b r K := by
  cases r with
  | ok x => exact fun c s k => h c (st.trans s) k
  | exc x e => exact fun c cls dd s k => h c cls dd (st.trans s) k
  | bad => exact h
theorem PostR.imp {r : Res (α × EnvD)} {K K' : α → EnvD → Wd → Prop} (h : PostR G W σ a r K) (f : ∀ x e b, Step a b → RelE G b σ e → K x e b → K' x e b) : PostR G W σ a r K' := by
  cases r with
  | ok x => exact fun c s k => f _ _ _ s k (h c s k)
  | exc x e => exact h
  | bad => exact h
theorem PostR.bind {m : Res (α × EnvD)} {k : α × EnvD → Res (β × EnvD)} {K : β → EnvD → Wd → Prop} (h : PostR G W σ a (m.bind k) K) :
    PostR G W σ a m (fun x e b => PostR G W σ b (k (x, e)) K) := by
  cases m with
  | ok x => exact fun c s _ => PostR.step s h
  | exc x e => exact h
  | bad => exact h
end

abbrev EM (α : Type) := EnvD → Res (α × EnvD)
/- an operand: a name's slot, or frozen data -/
inductive Arg where
  | var (i : Nat) | val (d : D)
def Arg.get (e : EnvD) : Arg → Option D
  | .val d => some d
  | .var i => match e[i]? with | some (some d) => some d | _ => none
def ArgRep (C : KM) (a : Wd) (σ : L2.St) (x : Arg) (v : V) : Prop := match x with
  | .val d => fz d = true ∧ Rep C a 0 [] v d
  | .var i => σ[i]? = some (some v)
theorem ArgRep.step {C : KM} {a b : Wd} {σ : L2.St} {x : Arg} {v : V} (k : Ok a) (s : Step a b) (h : ArgRep C a σ x v) : ArgRep C b σ x v := by
  cases x with
  | val d => exact ⟨h.1, h.2.step k s h.1⟩
  | var i => exact h
theorem ArgRep.rep {G : Gm} {a : Wd} {σ : L2.St} {env : EnvD} {x : Arg} {v : V} {d : D} (rel : RelE G a σ env) (h : ArgRep G.C a σ x v) (e : x.get env = some d) : ∃ r, Rep G.C a r [] v d := by
  cases x with
  | val d' => cases e; exact ⟨0, h.2⟩
  | var i =>
    have e : (match env[i]? with | some (some d) => some d | _ => none) = some d := e
    split at e
    · rename_i d' q
      cases e
      obtain ⟨v', h1, h2⟩ := rel.slot i d q
      have h : σ[i]? = some (some v) := h
      rw [h] at h1; cases h1
      exact ⟨_, h2⟩
    · cases e

/-! ### readings -/
section
variable (G : Gm) (W : WX)
def tE (m : EM D) : TE := fun σ H Q => ∃ a env, a.H = H ∧ RelE G a σ env ∧ PostR G W σ a (m env) fun d _ b => ∀ v, Rep G.C b 0 [] v d → Q v b.H
def tArg (m : EM Arg) : TE := fun σ H Q => ∃ a env, a.H = H ∧ RelE G a σ env ∧ PostR G W σ a (m env) fun x _ b => ∀ v, ArgRep G.C b σ x v → Q v b.H
def tArgs (m : EM (List Arg)) : TA := fun σ H Q => ∃ a env, a.H = H ∧ RelE G a σ env ∧ PostR G W σ a (m env) fun xs _ b => ∀ vs, Paired (ArgRep G.C b σ) xs vs → Q vs b.H
def tT (m : EM Bool) : TT := fun σ H Q => ∃ a env, a.H = H ∧ RelE G a σ env ∧ PostR G W σ a (m env) fun x _ b => Q x b.H
end
theorem PE.weak {X : Cx} {e : Expr} {t u : TE} (h : PE X e t) (w : ∀ σ H Q, u σ H Q → t σ H Q) : PE X e u := ⟨fun pins s σ H Q I q => h.run pins s σ H Q I (w σ H Q q)⟩
theorem PT.weak {X : Cx} {e : Expr} {t u : TT} (h : PT X e t) (w : ∀ σ H Q, u σ H Q → t σ H Q) : PT X e u := ⟨fun pins s σ H Q I q => h.run pins s σ H Q I (w σ H Q q)⟩
theorem PW.weak {X : Cx} {e : Expr} {t u : TT} (h : PW X e t) (w : ∀ σ H Q, u σ H Q → t σ H Q) : PW X e u := ⟨fun wh pins s σ H Q I q => h.run wh pins s σ H Q I (w σ H Q q)⟩
theorem PA.weak {X : Cx} {e : List Expr} {t u : TA} (h : PA X e t) (w : ∀ σ H Q, u σ H Q → t σ H Q) : PA X e u := ⟨fun p pins s σ H Q I q => h.run p pins s σ H Q I (w σ H Q q)⟩
theorem PS.weak {X : Cx} {e : Stmt} {t u : TS} (h : PS X e t) (w : ∀ D σ H, u D σ H → t D σ H) : PS X e u := ⟨fun pins s σ H D I q => h.run pins s σ H D I (w D σ H q)⟩
theorem PSs.weak {X : Cx} {e : List Stmt} {t u : TS} (h : PSs X e t) (w : ∀ D σ H, u D σ H → t D σ H) : PSs X e u := ⟨fun pins s σ H D I q => h.run pins s σ H D I (w D σ H q)⟩

section
variable {G : Gm} {W : WX} {σ : L2.St} {a : Wd} {env : EnvD} {β : Type} {K : β → EnvD → Wd → Prop}
theorem tArg_of {m : EM Arg} {k : Arg × EnvD → Res (β × EnvD)} {R : VK} (rel : RelE G a σ env) (h : PostR G W σ a ((m env).bind k) K)
    (hq : ∀ x e b v, Step a b → RelE G b σ e → ArgRep G.C b σ x v → PostR G W σ b (k (x, e)) K → R v b.H) : tArg G W m σ a.H R :=
  ⟨a, env, rfl, rel, h.bind.imp fun x e b s r p v q => hq x e b v s r q p⟩
theorem tE_of {m : EM D} {k : D × EnvD → Res (β × EnvD)} {R : VK} (rel : RelE G a σ env) (h : PostR G W σ a ((m env).bind k) K)
    (hq : ∀ x e b v, Step a b → RelE G b σ e → Rep G.C b 0 [] v x → PostR G W σ b (k (x, e)) K → R v b.H) : tE G W m σ a.H R :=
  ⟨a, env, rfl, rel, h.bind.imp fun x e b s r p v q => hq x e b v s r q p⟩
theorem tArgs_of {m : EM (List Arg)} {k : List Arg × EnvD → Res (β × EnvD)} {R : List V → Hp → Prop} (rel : RelE G a σ env) (h : PostR G W σ a ((m env).bind k) K)
    (hq : ∀ x e b v, Step a b → RelE G b σ e → Paired (ArgRep G.C b σ) x v → PostR G W σ b (k (x, e)) K → R v b.H) : tArgs G W m σ a.H R :=
  ⟨a, env, rfl, rel, h.bind.imp fun x e b s r p v q => hq x e b v s r q p⟩
theorem tT_of {m : EM Bool} {k : Bool × EnvD → Res (β × EnvD)} {R : Bool → Hp → Prop} (rel : RelE G a σ env) (h : PostR G W σ a ((m env).bind k) K)
    (hq : ∀ x e b, Step a b → RelE G b σ e → PostR G W σ b (k (x, e)) K → R x b.H) : tT G W m σ a.H R :=
  ⟨a, env, rfl, rel, h.bind.imp fun x e b s r p => hq x e b s r p⟩
/- what is handed on -/
theorem PostR.get {x : β} {e : EnvD} (h : PostR G W σ a (.ok (x, e)) K) (rel : RelE G a σ e) : K x e a := h a (Step.refl a) rel
end

/-! ### operations on values -/
/- a two-place operation that changes nothing, by data -/
def rD (C : KM) (g : D → D → Option D) : R2 := fun x y H Q => ∃ a d1 d2 r1 r2 d, a.H = H ∧ Ok a ∧ Rep C a r1 [] x d1 ∧ Rep C a r2 [] y d2 ∧ g d1 d2 = some d ∧ ∀ z b, Grow a b → Ok b → Rep C b 0 [] z d → Q z b.H
def uD (C : KM) (g : D → Option D) : V → Hp → VK → Prop := fun x H Q => ∃ a d1 r1 d, a.H = H ∧ Ok a ∧ Rep C a r1 [] x d1 ∧ g d1 = some d ∧ ∀ z b, Grow a b → Ok b → Rep C b 0 [] z d → Q z b.H
/- a call of a builtin on values -/
def cD (C : KM) (g : List D → Option D) : List V → Hp → VK → Prop := fun xs H Q => ∃ a ds d, a.H = H ∧ Ok a ∧ Paired (fun d v => ∃ r, Rep C a r [] v d) ds xs ∧ g ds = some d ∧ ∀ z b, Grow a b → Ok b → Rep C b 0 [] z d → Q z b.H

def mLift (o : Option D) (e : EnvD) : Res (D × EnvD) := match o with
  | some d => .ok (d, e)
  | none => .bad
def mBin (g : D → D → Option D) (ma mb : EM Arg) : EM D := fun env => (ma env).bind fun (x, e1) => (mb e1).bind fun (y, e2) =>
  match x.get e2, y.get e2 with
  | some d1, some d2 => mLift (g d1 d2) e2
  | _, _ => .bad
def mUn (g : D → Option D) (ma : EM Arg) : EM D := fun env => (ma env).bind fun (x, e1) =>
  match x.get e1 with
  | some d1 => mLift (g d1) e1
  | _ => .bad
def Arg.gets (e : EnvD) : List Arg → Option (List D)
  | [] => some []
  | x :: r => match x.get e, Arg.gets e r with
    | some d, some ds => some (d :: ds)
    | _, _ => none
def mCB (g : List D → Option D) (ma : EM (List Arg)) : EM D := fun env => (ma env).bind fun (xs, e1) =>
  match Arg.gets e1 xs with
  | some ds => mLift (g ds) e1
  | _ => .bad
section
variable {G : Gm} {W : WX} {σ : L2.St} {H : Hp} {Q : VK} {ma mb : EM Arg} {g : D → D → Option D}
theorem PostR.lift {a : Wd} {o : Option D} {e : EnvD} {K : D → EnvD → Wd → Prop} (h : PostR G W σ a (mLift o e) K) (rel : RelE G a σ e) : ∃ d, o = some d ∧ ∀ b, Grow a b → Ok b → K d e b := by
  cases o with
  | none => exact (show False from h).elim
  | some d => exact ⟨d, rfl, fun b g k => h b g.step (rel.grow g k)⟩
theorem bin_w (h : tE G W (mBin g ma mb) σ H Q) : tOp (rD G.C g) (tArg G W ma) (tArg G W mb) σ H Q := by
  obtain ⟨a, env, rfl, rel, post⟩ := h
  refine tArg_of rel post fun x e1 b v s1 rel1 ar1 post1 => ?_
  refine tArg_of rel1 post1 fun y e2 c u s2 rel2 ar2 post2 => ?_
  have ar1 := ar1.step rel1.ok s2
  cases hx : x.get e2 with
  | none => simp only [hx] at post2; exact (show False from post2).elim
  | some d1 =>
    cases hy : y.get e2 with
    | none => simp only [hx, hy] at post2; exact (show False from post2).elim
    | some d2 =>
      simp only [hx, hy] at post2
      obtain ⟨d, hd, k⟩ := post2.lift rel2
      obtain ⟨r1, p1⟩ := ar1.rep rel2 hx
      obtain ⟨r2, p2⟩ := ar2.rep rel2 hy
      exact ⟨c, d1, d2, r1, r2, d, rfl, rel2.ok, p1, p2, hd, fun z b' gr ok rp => k b' gr ok z rp⟩
theorem un_w {g : D → Option D} (h : tE G W (mUn g ma) σ H Q) : tUn (uD G.C g) (tArg G W ma) σ H Q := by
  obtain ⟨a, env, rfl, rel, post⟩ := h
  refine tArg_of rel post fun x e1 b v s1 rel1 ar1 post1 => ?_
  cases hx : x.get e1 with
  | none => simp only [hx] at post1; exact (show False from post1).elim
  | some d1 =>
    simp only [hx] at post1
    obtain ⟨d, hd, k⟩ := post1.lift rel1
    obtain ⟨r1, p1⟩ := ar1.rep rel1 hx
    exact ⟨b, d1, r1, d, rfl, rel1.ok, p1, hd, fun z b' gr ok rp => k b' gr ok z rp⟩
theorem gets_rep {a : Wd} {env : EnvD} (rel : RelE G a σ env) : ∀ {xs : List Arg} {vs : List V} {ds : List D}, Paired (ArgRep G.C a σ) xs vs → Arg.gets env xs = some ds → Paired (fun d v => ∃ r, Rep G.C a r [] v d) ds vs
  | _, _, _, .nil, e => by cases e; exact .nil
  | x :: xs, v :: vs, ds, .cons h t, e => by
    simp only [Arg.gets] at e
    cases hx : x.get env with
    | none => simp [hx] at e
    | some d =>
      cases hr : Arg.gets env xs with
      | none => simp [hx, hr] at e
      | some dr =>
        simp [hx, hr] at e
        subst e
        exact .cons (h.rep rel hx) (gets_rep rel t hr)
theorem cb_w {g : List D → Option D} {ma : EM (List Arg)} (h : tE G W (mCB g ma) σ H Q) : tCB (cD G.C g) (tArgs G W ma) σ H Q := by
  obtain ⟨a, env, rfl, rel, post⟩ := h
  refine tArgs_of rel post fun x e1 b v s1 rel1 ar1 post1 => ?_
  cases hx : Arg.gets e1 x with
  | none => simp only [hx] at post1; exact (show False from post1).elim
  | some ds =>
    simp only [hx] at post1
    obtain ⟨d, hd, k⟩ := post1.lift rel1
    exact ⟨b, ds, d, rfl, rel1.ok, gets_rep rel1 ar1 hx, hd, fun z b' gr ok rp => k b' gr ok z rp⟩
end

/-! ### lists of operands -/
def mArgs : List (EM Arg) → EM (List Arg)
  | [] => fun env => .ok ([], env)
  | m :: ms => fun env => (m env).bind fun (x, e1) => (mArgs ms e1).bind fun (xs, e2) => .ok (x :: xs, e2)
section
variable {G : Gm} {W : WX} {σ : L2.St} {H : Hp}
theorem args_nil_w {Q : List V → Hp → Prop} (h : tArgs G W (mArgs []) σ H Q) : tNil σ H Q := by
  obtain ⟨a, env, rfl, rel, post⟩ := h
  exact post a (Step.refl a) rel [] .nil
theorem args_cons_w {Q : List V → Hp → Prop} {m : EM Arg} {ms : List (EM Arg)} (h : tArgs G W (mArgs (m :: ms)) σ H Q) : tCons (tArg G W m) (tArgs G W (mArgs ms)) σ H Q := by
  obtain ⟨a, env, rfl, rel, post⟩ := h
  refine tArg_of rel post fun x e1 b v s1 rel1 ar1 post1 => ?_
  refine tArgs_of rel1 post1 fun xs e2 c vs s2 rel2 ar2 post2 => ?_
  exact post2 c (Step.refl c) rel2 (v :: vs) (.cons (ar1.step rel1.ok s2) ar2)
end
end Mi
namespace Mi
open PySem PySem.Spec PyProof.Rows L2

/-! ### names -/
def mVarA (i : Nat) : EM Arg := fun env => match env[i]? with
  | some (some _) => .ok (.var i, env)
  | _ => .bad
def frzQ (d : D) : D := if fz d = true then d else frz d
def mVarE (i : Nat) : EM D := fun env => match env[i]? with
  | some (some d) => if fz d = true then .ok (d, env) else .ok (frz d, env.set i (some (frz d)))
  | _ => .bad
/- a name handed out for good (not a parameter's) -/
def mVarM (np i : Nat) : EM D := fun env => match env[i]? with
  | some (some d) => if fz d = true then .ok (d, env) else if i < np then .ok (frz d, env.set i (some (frz d))) else .ok (d, env.set i none)
  | _ => .bad
def mFrz (m : EM D) : EM Arg := fun env => (m env).bind fun (d, e) => .ok (.val (frzQ d), e)
theorem frzQ_rep {C : KM} {a : Wd} {r s : Nat} {p q : List Nat} {d : D} {v : V} (k : Ok a) (h : Rep C a r p v d) : fz (frzQ d) = true ∧ Rep C (frzW a r) s q v (frzQ d) := by
  unfold frzQ
  by_cases z : fz d = true
  · rw [if_pos z]; exact ⟨z, h.step k frzW_step z⟩
  · rw [if_neg z]; exact frzW_rep k h
section
variable {G : Gm} {W : WX} {σ : L2.St} {H : Hp} {Q : VK} {a : Wd} {env : EnvD}
theorem RelE.frz0 (r : RelE G a σ env) : RelE G (frzW a 0) σ env :=
  ⟨frzW_ok r.ok, r.len, fun i d h => let ⟨v, e, q⟩ := r.slot i d h; ⟨v, e, frzW_else r.ok (Nat.succ_ne_zero i) q⟩, r.prm⟩
theorem RelE.frzS (r : RelE G a σ env) {i : Nat} {d : D} (h : env[i]? = some (some d)) : RelE G (frzW a (i + 1)) σ (env.set i (some (frz d))) := by
  refine ⟨frzW_ok r.ok, by rw [List.length_set]; exact r.len, fun j e hj => ?_, r.prm⟩
  by_cases ij : i = j
  · subst ij
    have hi : i < env.length := (List.getElem?_eq_some_iff.mp h).1
    rw [List.getElem?_set_self hi] at hj
    cases hj
    obtain ⟨v, e, q⟩ := r.slot i d h
    exact ⟨v, e, (frzW_rep r.ok q).2⟩
  · rw [List.getElem?_set_ne ij] at hj
    obtain ⟨v, e', q⟩ := r.slot j e hj
    exact ⟨v, e', frzW_else r.ok (fun z => ij (Nat.succ.inj z).symm) q⟩
theorem RelE.kill (r : RelE G a σ env) (i : Nat) : RelE G a σ (env.set i none) := by
  refine ⟨r.ok, by rw [List.length_set]; exact r.len, fun j e hj => ?_, r.prm⟩
  by_cases ij : i = j
  · subst ij
    by_cases hi : i < env.length
    · rw [List.getElem?_set_self hi] at hj; cases hj
    · rw [List.getElem?_eq_none (by rw [List.length_set]; omega)] at hj; cases hj
  · rw [List.getElem?_set_ne ij] at hj
    exact r.slot j e hj
theorem varA_w {i : Nat} (h : tArg G W (mVarA i) σ H Q) : tVar i σ H Q := by
  obtain ⟨a, env, rfl, rel, post⟩ := h
  unfold mVarA at post
  split at post
  · rename_i d e
    obtain ⟨v, hv, _⟩ := rel.slot i d e
    exact ⟨v, hv, post a (Step.refl a) rel v hv⟩
  · exact (show False from post).elim
theorem varE_w {i : Nat} (h : tE G W (mVarE i) σ H Q) : tVar i σ H Q := by
  obtain ⟨a, env, rfl, rel, post⟩ := h
  unfold mVarE at post
  split at post
  · rename_i d e
    obtain ⟨v, hv, rp⟩ := rel.slot i d e
    by_cases z : fz d = true
    · rw [if_pos z] at post
      exact ⟨v, hv, post a (Step.refl a) rel v (rp.step rel.ok (Step.refl a) z)⟩
    · rw [if_neg z] at post
      exact ⟨v, hv, post (frzW a (i + 1)) frzW_step (rel.frzS e) v (frzW_rep rel.ok rp).2⟩
  · exact (show False from post).elim
theorem varM_w {np i : Nat} (h : tE G W (mVarM np i) σ H Q) : tVar i σ H Q := by
  obtain ⟨a, env, rfl, rel, post⟩ := h
  unfold mVarM at post
  split at post
  · rename_i d e
    obtain ⟨v, hv, rp⟩ := rel.slot i d e
    by_cases z : fz d = true
    · rw [if_pos z] at post
      exact ⟨v, hv, post a (Step.refl a) rel v (rp.step rel.ok (Step.refl a) z)⟩
    · rw [if_neg z] at post
      by_cases y : i < np
      · rw [if_pos y] at post
        exact ⟨v, hv, post (frzW a (i + 1)) frzW_step (rel.frzS e) v (frzW_rep rel.ok rp).2⟩
      · rw [if_neg y] at post
        have k0 := rel.kill i
        have R : RelE G (mvW a (i + 1) 0) σ (env.set i none) := by
          refine ⟨mvW_ok rel.ok, k0.len, fun j e' hj => ?_, k0.prm⟩
          obtain ⟨v', e2, q⟩ := k0.slot j e' hj
          refine ⟨v', e2, mvW_else (fun ij => ?_) q⟩
          have ij : j = i := Nat.succ.inj ij
          subst ij
          have hi : j < env.length := (List.getElem?_eq_some_iff.mp e).1
          rw [List.getElem?_set_self hi] at hj
          cases hj
        exact ⟨v, hv, post (mvW a (i + 1) 0) mvW_step R v (mvW_rep rp)⟩
  · exact (show False from post).elim
theorem frz_w {m : EM D} (h : tArg G W (mFrz m) σ H Q) : tE G W m σ H Q := by
  obtain ⟨a, env, rfl, rel, post⟩ := h
  refine tE_of rel post fun d e b v s r rp p => ?_
  have k := p (frzW b 0) frzW_step r.frz0 v (frzQ_rep r.ok rp)
  exact k

/-! ### constants -/
def mC (d : D) : EM D := fun env => .ok (d, env)
def atomV : D → Option V
  | .non => some .non
  | .bl b => some (.bl b)
  | .int i => some (.int i)
  | .str s => some (.str s)
  | .ty n => some (.ty n)
  | _ => none
theorem atom_rep {C : KM} {a : Wd} {r : Nat} {p : List Nat} {d : D} {v : V} (h : atomV d = some v) : Rep C a r p v d := by
  cases d <;> simp [atomV] at h <;> subst h <;> simp [Rep]
theorem c_w {d : D} {v : V} (hv : ∀ a, Ok a → Rep G.C a 0 [] v d) (h : tE G W (mC d) σ H Q) : tC v σ H Q := by
  obtain ⟨a, env, rfl, rel, post⟩ := h
  exact post a (Step.refl a) rel v (hv a rel.ok)

/-! ### tests -/
def D.bool : D → Option Bool
  | .bl b => some b
  | _ => none
def mLiftT (o : Option Bool) (e : EnvD) : Res (Bool × EnvD) := match o with
  | some d => .ok (d, e)
  | none => .bad
/- a value that is a flag -/
def mTB (m : EM D) : EM Bool := fun env => (m env).bind fun (d, e) => mLiftT d.bool e
theorem rep_bl {C : KM} {a : Wd} {r : Nat} {p : List Nat} {v : V} {b : Bool} (h : Rep C a r p v (.bl b)) : v = .bl b := h
theorem rep_int {C : KM} {a : Wd} {r : Nat} {p : List Nat} {v : V} {b : Int} (h : Rep C a r p v (.int b)) : v = .int b := h
theorem rep_str {C : KM} {a : Wd} {r : Nat} {p : List Nat} {v : V} {b : Str} (h : Rep C a r p v (.str b)) : v = .str b := h
theorem rep_non {C : KM} {a : Wd} {r : Nat} {p : List Nat} {v : V} (h : Rep C a r p v .non) : v = .non := h
theorem D.bool_eq {d : D} {b : Bool} (h : d.bool = some b) : d = .bl b := by
  cases d <;> simp [D.bool] at h
  rw [h]
theorem tb_w {m : EM D} {R : Bool → Hp → Prop} (h : tT G W (mTB m) σ H R) : tTest (tE G W m) σ H R := by
  obtain ⟨a, env, rfl, rel, post⟩ := h
  refine tE_of rel post fun d e b v s r rp p => ?_
  cases hb : d.bool with
  | none => simp only [hb] at p; exact (show False from p).elim
  | some c =>
    simp only [hb] at p
    have e1 := D.bool_eq hb
    subst e1
    exact ⟨c, rep_bl rp, p b (Step.refl b) r⟩
def mAndT (m n : EM Bool) : EM Bool := fun env => (m env).bind fun (c, e) => if c = true then n e else .ok (false, e)
def mOrT (m n : EM Bool) : EM Bool := fun env => (m env).bind fun (c, e) => if c = true then .ok (true, e) else n e
def mNotT (m : EM Bool) : EM Bool := fun env => (m env).bind fun (c, e) => .ok (!c, e)
section
variable {m n : EM Bool} {R : Bool → Hp → Prop}
theorem and_w (h : tT G W (mAndT m n) σ H R) : tAnd (tT G W m) (tT G W n) σ H R := by
  obtain ⟨a, env, rfl, rel, post⟩ := h
  refine tT_of rel post fun c e b s r p => ?_
  cases c with
  | true => simp only [if_true] at p ⊢; exact ⟨b, e, rfl, r, p⟩
  | false => simp only [if_false, Bool.false_eq_true] at p ⊢; exact p b (Step.refl b) r
theorem or_w (h : tT G W (mOrT m n) σ H R) : tOr (tT G W m) (tT G W n) σ H R := by
  obtain ⟨a, env, rfl, rel, post⟩ := h
  refine tT_of rel post fun c e b s r p => ?_
  cases c with
  | true => simp only [if_true] at p ⊢; exact p b (Step.refl b) r
  | false => simp only [if_false, Bool.false_eq_true] at p ⊢; exact ⟨b, e, rfl, r, p⟩
theorem not_w (h : tT G W (mNotT m) σ H R) : tNot (tT G W m) σ H R := by
  obtain ⟨a, env, rfl, rel, post⟩ := h
  exact tT_of rel post fun c e b s r p => p b (Step.refl b) r
end
/- and, or, not as values: flags -/
def mAndV (m n : EM D) : EM D := fun env => (m env).bind fun (c, e) => match c.bool with
  | some true => n e
  | some false => .ok (.bl false, e)
  | none => .bad
def mOrV (m n : EM D) : EM D := fun env => (m env).bind fun (c, e) => match c.bool with
  | some true => .ok (.bl true, e)
  | some false => n e
  | none => .bad
def mNotV (m : EM D) : EM D := fun env => (m env).bind fun (c, e) => match c.bool with
  | some b => .ok (.bl (!b), e)
  | none => .bad
theorem rep_ofbl {C : KM} {a : Wd} {r : Nat} {p : List Nat} {b : Bool} : Rep C a r p (.bl b) (.bl b) := by simp [Rep]
theorem andV_w {m n : EM D} (h : tE G W (mAndV m n) σ H Q) : tAndV (tE G W m) (tE G W n) σ H Q := by
  obtain ⟨a, env, rfl, rel, post⟩ := h
  refine tE_of rel post fun d e b v s r rp p => ?_
  cases hb : d.bool with
  | none => simp only [hb] at p; exact (show False from p).elim
  | some c =>
    simp only [hb] at p
    have e1 := D.bool_eq hb
    subst e1
    refine ⟨c, rep_bl rp, ?_⟩
    cases c with
    | true => simp only [if_true] at p ⊢; exact ⟨b, e, rfl, r, p⟩
    | false => simp only [if_false, Bool.false_eq_true] at p ⊢; exact p b (Step.refl b) r _ rep_ofbl
theorem orV_w {m n : EM D} (h : tE G W (mOrV m n) σ H Q) : tOrV (tE G W m) (tE G W n) σ H Q := by
  obtain ⟨a, env, rfl, rel, post⟩ := h
  refine tE_of rel post fun d e b v s r rp p => ?_
  cases hb : d.bool with
  | none => simp only [hb] at p; exact (show False from p).elim
  | some c =>
    simp only [hb] at p
    have e1 := D.bool_eq hb
    subst e1
    refine ⟨c, rep_bl rp, ?_⟩
    cases c with
    | true => simp only [if_true] at p ⊢; exact p b (Step.refl b) r _ rep_ofbl
    | false => simp only [if_false, Bool.false_eq_true] at p ⊢; exact ⟨b, e, rfl, r, p⟩
theorem notV_w {m : EM D} (h : tE G W (mNotV m) σ H Q) : tNotV (tE G W m) σ H Q := by
  obtain ⟨a, env, rfl, rel, post⟩ := h
  refine tE_of rel post fun d e b v s r rp p => ?_
  cases hb : d.bool with
  | none => simp only [hb] at p; exact (show False from p).elim
  | some c =>
    simp only [hb] at p
    have e1 := D.bool_eq hb
    subst e1
    exact ⟨c, rep_bl rp, p b (Step.refl b) r _ rep_ofbl⟩
def mIfE (t : EM Bool) (m n : EM D) : EM D := fun env => (t env).bind fun (c, e) => if c = true then m e else n e
theorem ifE_w {t : EM Bool} {m n : EM D} (h : tE G W (mIfE t m n) σ H Q) : tIf (tT G W t) (tE G W m) (tE G W n) σ H Q := by
  obtain ⟨a, env, rfl, rel, post⟩ := h
  refine tT_of rel post fun c e b s r p => ?_
  cases c with
  | true => simp only [if_true] at p ⊢; exact ⟨b, e, rfl, r, p⟩
  | false => simp only [if_false, Bool.false_eq_true] at p ⊢; exact ⟨b, e, rfl, r, p⟩
end

/-! ### truth -/
def truD : D → Option Bool
  | .non => some false
  | .bl b => some b
  | .int i => some (i != 0)
  | .str s => if s.length ≤ sizeLine then some ((s.length : Int) != 0) else none
  | .tup l => some (!l.isEmpty)
  | .lst _ l => some (!l.isEmpty)
  | .dic _ ks _ => some (!ks.isEmpty)
  | _ => none
def mTru (m : EM Arg) : EM Bool := fun env => (m env).bind fun (x, e) => match x.get e with
  | some d => mLiftT (truD d) e
  | none => .bad
theorem RepL.empty {C : KM} {a : Wd} {r : Nat} {p : List Nat} {n : Nat} {vs : List V} {l : List D} (h : RepL C a r p n vs l) : vs.isEmpty = l.isEmpty := by
  cases l with
  | nil => simp only [RepL] at h; rw [h]; rfl
  | cons d l => simp only [RepL] at h; obtain ⟨v, us, e, _⟩ := h; rw [e]; rfl
theorem RepL.len {C : KM} {a : Wd} {r : Nat} {p : List Nat} : ∀ {l : List D} {n : Nat} {vs : List V}, RepL C a r p n vs l → vs.length = l.length
  | [], n, vs, h => by simp only [RepL] at h; rw [h]; rfl
  | d :: l, n, vs, h => by
    simp only [RepL] at h
    obtain ⟨v, us, e, _, h2⟩ := h
    rw [e, List.length_cons, List.length_cons, RepL.len h2]
theorem RepL.get {C : KM} {a : Wd} {r : Nat} {p : List Nat} : ∀ {l : List D} {n : Nat} {vs : List V} {i : Nat} {d : D}, RepL C a r p n vs l → l[i]? = some d → ∃ v, vs[i]? = some v ∧ Rep C a r ((n + i) :: p) v d
  | [], n, vs, i, d, h, e => by simp at e
  | d' :: l, n, vs, 0, d, h, e => by
    simp only [RepL] at h
    obtain ⟨v, us, e1, h1, h2⟩ := h
    simp at e; subst e
    exact ⟨v, by rw [e1]; rfl, h1⟩
  | d' :: l, n, vs, i + 1, d, h, e => by
    simp only [RepL] at h
    obtain ⟨v, us, e1, h1, h2⟩ := h
    simp at e
    obtain ⟨u, g1, g2⟩ := RepL.get h2 e
    refine ⟨u, by rw [e1]; simpa using g1, ?_⟩
    rw [show n + (i + 1) = n + 1 + i by omega]
    exact g2
/- the object of an owned or a frozen list, read -/
theorem rep_lst {C : KM} {a : Wd} {r : Nat} {p : List Nat} {v : V} {o : Bool} {l : List D} (k : Ok a) (h : Rep C a r p v (.lst o l)) : ∃ x vs, v = .ref x ∧ a.H x = some (.lst vs) ∧ RepL C a r p 0 vs l := by
  simp only [Rep] at h
  obtain ⟨x, vs, e, c, h⟩ := h
  refine ⟨x, vs, e, ?_, h⟩
  cases o with
  | true => rw [if_pos rfl] at c; exact c.2
  | false => rw [if_neg Bool.false_ne_true] at c; exact k.sub _ _ c.1
theorem rep_scr {C : KM} {a : Wd} {r : Nat} {p : List Nat} {v : V} {l : List Int} (k : Ok a) (h : Rep C a r p v (.scr l)) : ∃ x, v = .ref x ∧ SqL C.K a.H x (l.map V.int) := by
  simp only [Rep] at h
  obtain ⟨x, e, h⟩ := h
  exact ⟨x, e, sql_mono k.sub h⟩
theorem rep_tup {C : KM} {a : Wd} {r : Nat} {p : List Nat} {v : V} {l : List D} (k : Ok a) (h : Rep C a r p v (.tup l)) : ∃ x vs, v = .ref x ∧ SqT C.K a.H x vs ∧ RepL C a r p 0 vs l := by
  simp only [Rep] at h
  obtain ⟨x, vs, e, c, h⟩ := h
  exact ⟨x, vs, e, sqt_mono k.sub c.sq, h⟩
theorem rep_dic {C : KM} {a : Wd} {r : Nat} {p : List Nat} {v : V} {o : Bool} {ks ws : List D} (k : Ok a) (h : Rep C a r p v (.dic o ks ws)) :
    ∃ x u kv vs, v = .ref x ∧ a.H x = some u ∧ DCell u kv vs ∧ fzL ks = true ∧ RepL C a r p 0 kv ks ∧ RepL C a r p 0 vs ws := by
  simp only [Rep] at h
  obtain ⟨x, u, kv, vs, e, c, dc, f, k1, k2⟩ := h
  refine ⟨x, u, kv, vs, e, ?_, dc, f, k1, k2⟩
  cases o with
  | true => rw [if_pos rfl] at c; exact c.2
  | false => rw [if_neg Bool.false_ne_true] at c; exact k.sub _ _ c.1
theorem tru_rep {C : KM} {a : Wd} {r : Nat} {p : List Nat} {v : V} {d : D} {b : Bool} (k : Ok a) (h : Rep C a r p v d) (e : truD d = some b) : TruV C.K v a.H b := by
  cases d with
  | non => cases rep_non h; cases e; rfl
  | bl x => cases rep_bl h; cases e; rfl
  | int i => cases rep_int h; simp [truD] at e; subst e; rfl
  | str s =>
    cases rep_str h
    simp only [truD] at e
    split at e
    · rename_i z; cases e; exact ⟨z, rfl⟩
    · cases e
  | tup l =>
    obtain ⟨x, vs, rfl, q, hl⟩ := rep_tup k h
    simp only [truD, Option.some.injEq] at e; subst e
    exact .inr (.inl ⟨vs, q, by rw [hl.empty]⟩)
  | lst o l =>
    obtain ⟨x, vs, rfl, q, hl⟩ := rep_lst k h
    simp only [truD, Option.some.injEq] at e; subst e
    exact .inl ⟨vs, SqL.of q, by rw [hl.empty]⟩
  | dic o ks ws =>
    obtain ⟨x, u, kv, vs, rfl, q, dc, f, hk, hw⟩ := rep_dic k h
    simp only [truD, Option.some.injEq] at e; subst e
    cases dc with
    | dk kvs =>
      refine .inr (.inr ⟨kvs, q, ?_⟩)
      rw [← hk.empty]; cases kvs <;> rfl
  | _ => simp [truD] at e
theorem tru_w {G : Gm} {W : WX} {σ : L2.St} {H : Hp} {m : EM Arg} {R : Bool → Hp → Prop} (h : tT G W (mTru m) σ H R) : (tArg G W m) σ H fun x H' => ∃ k, TruV G.C.K x H' k ∧ R k H' := by
  obtain ⟨a, env, rfl, rel, post⟩ := h
  refine tArg_of rel post fun x e b v s r ar p => ?_
  cases hx : x.get e with
  | none => simp only [hx] at p; exact (show False from p).elim
  | some d =>
    simp only [hx] at p
    cases ht : truD d with
    | none => simp only [ht] at p; exact (show False from p).elim
    | some c =>
      simp only [ht] at p
      obtain ⟨r', rp⟩ := ar.rep r hx
      exact ⟨c, tru_rep r.ok rp ht, p b (Step.refl b) r⟩
end Mi
namespace Mi
open PySem PySem.Spec PyProof.Rows L2

/-! ### new things -/
section
variable {C : KM} {a : Wd} {Q : VK}
theorem new_lst {r : Nat} {p : List Nat} {n : Nat} {vs : List V} {l : List D} (k : Ok a) (z : fzL l = true) (h : RepL C a r p n vs l) (q : ∀ z b, Grow a b → Ok b → Rep C b 0 [] z (.lst true l) → Q z b.H) :
    ∀ x, a.H x = none → Q (.ref x) (upd a.H x (.lst vs)) := fun x hx => by
  obtain ⟨g, o⟩ := grow_o (o := .lst vs) (0, []) k hx
  refine q (.ref x) _ g o ⟨x, vs, rfl, ?_, RepL.fz (fun y u e => g.f k e) l p [] n vs z h⟩
  rw [if_pos rfl]
  exact ⟨if_pos rfl, upd_same⟩
theorem new_tup {r : Nat} {p : List Nat} {n : Nat} {vs : List V} {l : List D} (k : Ok a) (z : fzL l = true) (h : RepL C a r p n vs l) (q : ∀ z b, Grow a b → Ok b → Rep C b 0 [] z (.tup l) → Q z b.H) :
    ∀ (x : Addr) (ob : Obj), a.H x = none → ob.dict = none → ob.cls = .type "tuple" → Q (.ref x) (upd a.H x (.frz ob (.tup vs))) := fun x ob hx h1 h2 => by
  obtain ⟨g, o⟩ := grow_f (o := .frz ob (.tup vs)) k hx
  exact q (.ref x) _ g o ⟨x, vs, rfl, .inl ⟨ob, upd_same, h1, h2⟩, RepL.fz (fun y u e => g.f k e) l p [] n vs z h⟩
theorem new_dic {r : Nat} {p : List Nat} {kvs : List (Key × V)} {ks ws : List D} (k : Ok a) (zk : fzL ks = true) (zw : fzL ws = true) (hk : RepL C a r p 0 (kvs.map fun p => kV p.1) ks) (hw : RepL C a r p 0 (kvs.map (·.2)) ws)
    (q : ∀ z b, Grow a b → Ok b → Rep C b 0 [] z (.dic true ks ws) → Q z b.H) : ∀ x, a.H x = none → Q (.ref x) (upd a.H x (.dK kvs)) := fun x hx => by
  obtain ⟨g, o⟩ := grow_o (o := .dK kvs) (0, []) k hx
  refine q (.ref x) _ g o ⟨x, .dK kvs, _, _, rfl, ?_, .dk kvs, zk, RepL.fz (fun y u e => g.f k e) ks p [] 0 _ zk hk, RepL.fz (fun y u e => g.f k e) ws p [] 0 _ zw hw⟩
  rw [if_pos rfl]
  exact ⟨if_pos rfl, upd_same⟩
end
theorem RepL.app {C : KM} {a : Wd} {r : Nat} {p : List Nat} : ∀ {l m : List D} {n : Nat} {vs us : List V}, RepL C a r p n vs l → RepL C a r p (n + l.length) us m → RepL C a r p n (vs ++ us) (l ++ m)
  | [], m, n, vs, us, h, g => by simp only [RepL] at h; subst h; exact g
  | d :: l, m, n, vs, us, h, g => by
    simp only [RepL] at h
    obtain ⟨v, vr, rfl, h1, h2⟩ := h
    exact ⟨v, vr ++ us, rfl, h1, RepL.app h2 (by rw [show n + 1 + l.length = n + (d :: l).length by simp only [List.length_cons]; omega]; exact g)⟩
theorem fzL_append {l m : List D} : fzL (l ++ m) = (fzL l && fzL m) := by
  induction l with
  | nil => rfl
  | cons d l ih => simp only [List.cons_append, fzL, ih, Bool.and_assoc]
theorem fzL_mem {l : List D} (h : fzL l = true) : ∀ d ∈ l, fz d = true := by
  induction l with
  | nil => intro d hd; cases hd
  | cons x l ih =>
    simp only [fzL, Bool.and_eq_true] at h
    intro d hd
    rcases List.mem_cons.mp hd with rfl | hd
    · exact h.1
    · exact ih h.2 d hd
theorem fzL_all {l : List D} (h : ∀ d ∈ l, fz d = true) : fzL l = true := by
  induction l with
  | nil => rfl
  | cons x l ih =>
    simp only [fzL, Bool.and_eq_true]
    exact ⟨h x List.mem_cons_self, ih fun d hd => h d (List.mem_cons_of_mem _ hd)⟩
/- frozen lists, by any tags -/
theorem RepL.appz {C : KM} {a : Wd} {r s : Nat} {p q : List Nat} {l m : List D} {n k : Nat} {vs us : List V} (zl : fzL l = true) (zm : fzL m = true) (h : RepL C a r p n vs l) (g : RepL C a s q k us m) : RepL C a 0 [] 0 (vs ++ us) (l ++ m) :=
  RepL.app (RepL.fz (s := 0) (fun _ _ e => e) l p [] n vs zl h) (RepL.fz (s := 0) (fun _ _ e => e) m q [] k us zm g)

/-! ### tuples laid -/
abbrev TupNew (Q : VK) (H : Hp) (xs : List V) : Prop := ∀ (p : Addr) (ob : Obj), H p = none → ob.dict = none → ob.cls = .type "tuple" → Q (.ref p) (upd H p (.frz ob (.tup xs)))
section
variable {X : Cx} {pins : List (Addr × Obj)} {σ : L2.St} {H : Hp} {s : Shared} {Q : VK} {xs : List V} {its : List Value}
theorem lay_tup (I : Inv X pins σ H s) (r : Vals xs its) (hz : xs.length ≤ sizeLine) (q : TupNew Q H xs) :
    EP X pins σ Q (.ref s.heap.objs.size) { s with heap := s.heap.push { cls := .type "tuple", data := .seq its.toArray } } :=
  ⟨.ref s.heap.objs.size, _, I.laid (t' := s.toks) (o := .frz { cls := .type "tuple", data := .seq its.toArray } (.tup xs)) (fun b ob q => Heap.get?_push_of_some _ q) (Nat.le_refl _)
    ⟨Heap.get?_push_size _ rfl, hz, its, r, IsTup.new _ _⟩, rfl, q _ _ (I.hok.fresh (Nat.le_refl _)) rfl rfl⟩
end
def tTupX (t : TA) : TE := fun σ H Q => t σ H fun xs H1 => xs.length ≤ sizeLine ∧ TupNew Q H1 xs
theorem pe_tupX {X : Cx} {es : List Expr} {t : TA} {k : Nat} {pos : Pos} (h : PA X es t) : PE X (.Tuple es k pos) (tTupX t) := by
  refine ⟨fun pins s σ H Q I hq => wpAny_Tuple_spliced (thn (h.run pos pins s σ H _ I hq) fun us s1 ⟨xs, H1, I1, r, z, q⟩ => ⟨by rw [← r.length]; exact z, ?_⟩)⟩
  exact lay_tup I1 r z q
def rCatX (K : PySem.W.Frag) : R2 := fun x y H Q => ∃ a b xs ys, x = .ref a ∧ y = .ref b ∧ SqT K H a xs ∧ SqT K H b ys ∧ xs.length + ys.length ≤ sizeLine ∧
  (xs = [] → Q (.ref b) H) ∧ (xs ≠ [] → ys = [] → Q (.ref a) H) ∧ (xs ≠ [] → ys ≠ [] → TupNew Q H (xs ++ ys))
theorem op_catX {X : Cx} : OpR X (binaryOp .Add) (rCatX X.K) := by
  intro pins s σ H x y v u Q I rx ry h
  obtain ⟨a, b, xs, ys, rfl, rfl, ha, hb, hz, q0, q1, q2⟩ := h
  by_cases hx : xs = []
  · exact op_catA pins s σ H _ _ v u Q I rx ry ⟨a, b, xs, ys, rfl, rfl, ha, hb, hz, q0, fun z => absurd hx z, fun z => absurd hx z⟩
  by_cases hy : ys = []
  · exact op_catA pins s σ H _ _ v u Q I rx ry ⟨a, b, xs, ys, rfl, rfl, ha, hb, hz, q0, q1, fun _ z => absurd hy z⟩
  cases rx; cases ry
  obtain ⟨its, r1, p1, _⟩ := I.tuple ha
  obtain ⟨its2, r2, p2, _⟩ := I.tuple hb
  refine HT.cat_tup p1 p2 (fun z => hx (r1.nil_iff.mp z)) (fun z => absurd (r2.nil_iff.mp z) hy) (fun z => ?_) (by rw [← r1.length, ← r2.length]; exact hz)
  exact lay_tup I (r1.append r2) (by rw [List.length_append]; exact hz) (q2 hx hy)

/-! ### arithmetic -/
def addD : D → D → Option D
  | .int i, .int j => some (.int (i + j))
  | .str s, .str t => if s.length + t.length ≤ sizeLine then some (.str (s ++ t)) else none
  | .lst _ l, .lst _ m => if fzL l && fzL m && decide (l.length + m.length ≤ sizeLine) then some (.lst true (l ++ m)) else none
  | .tup l, .tup m => if fzL l && fzL m && decide (l.length + m.length ≤ sizeLine) then some (.tup (l ++ m)) else none
  | _, _ => none
def subD : D → D → Option D
  | .int i, .int j => some (.int (i - j))
  | _, _ => none
def mulD : D → D → Option D
  | .int i, .int j => if i.natAbs.log2 + j.natAbs.log2 < 1000000 then some (.int (i * j)) else if j.natAbs < 18446744073709551616 then some (.int (i * j)) else if i.natAbs < 18446744073709551616 then some (.int (i * j)) else none
  | _, _ => none
def fdivD : D → D → Option D
  | .int i, .int j => if 0 < j ∧ j.natAbs.log2 < 9000 then some (.int (i / j)) else none
  | _, _ => none
def modD : D → D → Option D
  | .int i, .int j => if 0 < j then some (.int (i % j)) else if j ≠ 0 then some (.int (i.fmod j)) else none
  | _, _ => none
def powD : D → D → Option D
  | .int i, .int j => if 0 ≤ j ∧ j ≤ 1000000 ∧ i.natAbs < 2 ^ 64 then some (.int (i ^ j.toNat)) else none
  | _, _ => none
def negD : D → Option D
  | .int i => some (.int (-i))
  | _ => none
theorem nab {x : Int} (h : x.natAbs < 18446744073709551616) : -(2 ^ 64) < x ∧ x < 2 ^ 64 := by
  have e : (2 : Int) ^ 64 = 18446744073709551616 := by decide
  rw [e]; omega
section
variable {X : Cx} {C : KM} (hC : C.K = X.K)
include hC
theorem op_addD : OpR X (binaryOp .Add) (rD C addD) := by
  intro pins s σ H x y v u Q I rx ry h
  obtain ⟨a, d1, d2, r1, r2, d, rfl, k, p1, p2, hd, q⟩ := h
  cases d1 <;> cases d2 <;> simp only [addD] at hd <;> try (cases hd; done)
  case int.int i j =>
    cases hd; cases rep_int p1; cases rep_int p2
    exact op_add pins s σ a.H _ _ v u Q I rx ry ⟨i, j, rfl, rfl, q _ a (Grow.refl a) k (by simp [Rep])⟩
  case str.str i j =>
    split at hd
    · rename_i z; cases hd; cases rep_str p1; cases rep_str p2
      exact op_add_str pins s σ a.H _ _ v u Q I rx ry ⟨i, j, rfl, rfl, z, q _ a (Grow.refl a) k (by simp [Rep])⟩
    · cases hd
  case tup.tup l m =>
    split at hd
    · rename_i z; cases hd
      simp only [Bool.and_eq_true, decide_eq_true_eq] at z
      obtain ⟨x1, vs, rfl, q1, h1⟩ := rep_tup k p1
      obtain ⟨x2, us, rfl, q2, h2⟩ := rep_tup k p2
      rw [hC] at q1 q2
      have n1 := h1.len
      have n2 := h2.len
      refine op_catX pins s σ a.H _ _ v u Q I rx ry ⟨x1, x2, vs, us, rfl, rfl, q1, q2, by omega, fun e => ?_, fun e1 e2 => ?_, fun _ _ => new_tup k (by rw [fzL_append, z.1.1, z.1.2]; rfl) (RepL.appz z.1.1 z.1.2 h1 h2) q⟩
      · have el : l = [] := by cases l with | nil => rfl | cons _ _ => rw [e] at n1; simp at n1
        subst el
        exact q _ a (Grow.refl a) k (p2.step k (Step.refl a) (by simpa [fz] using z.1.2))
      · have el : m = [] := by cases m with | nil => rfl | cons _ _ => rw [e2] at n2; simp at n2
        subst el
        rw [List.append_nil] at q
        exact q _ a (Grow.refl a) k (p1.step k (Step.refl a) (by simpa [fz] using z.1.1))
    · cases hd
  case lst.lst o l o' m =>
    split at hd
    · rename_i z; cases hd
      simp only [Bool.and_eq_true, decide_eq_true_eq] at z
      obtain ⟨x1, vs, rfl, q1, h1⟩ := rep_lst k p1
      obtain ⟨x2, us, rfl, q2, h2⟩ := rep_lst k p2
      have n1 := h1.len
      have n2 := h2.len
      exact op_cat pins s σ a.H _ _ v u Q I rx ry ⟨x1, x2, vs, us, rfl, rfl, q1, q2, by omega, new_lst k (by rw [fzL_append, z.1.1, z.1.2]; rfl) (RepL.appz z.1.1 z.1.2 h1 h2) q⟩
    · cases hd
omit hC in
theorem op_subD : OpR X (binaryOp .Sub) (rD C subD) := by
  intro pins s σ H x y v u Q I rx ry h
  obtain ⟨a, d1, d2, r1, r2, d, rfl, k, p1, p2, hd, q⟩ := h
  cases d1 <;> cases d2 <;> simp only [subD] at hd <;> try (cases hd; done)
  case int.int i j =>
    cases hd; cases rep_int p1; cases rep_int p2
    exact op_sub pins s σ a.H _ _ v u Q I rx ry ⟨i, j, rfl, rfl, q _ a (Grow.refl a) k (by simp [Rep])⟩
omit hC in
theorem op_mulD : OpR X (binaryOp .Mult) (rD C mulD) := by
  intro pins s σ H x y v u Q I rx ry h
  obtain ⟨a, d1, d2, r1, r2, d, rfl, k, p1, p2, hd, q⟩ := h
  cases d1 <;> cases d2 <;> simp only [mulD] at hd <;> try (cases hd; done)
  case int.int i j =>
    cases rep_int p1; cases rep_int p2
    split at hd
    · rename_i z
      cases hd
      exact op_mulW pins s σ a.H _ _ v u Q I rx ry ⟨i, j, rfl, rfl, z, q _ a (Grow.refl a) k (by simp [Rep])⟩
    · split at hd
      · rename_i z; cases hd
        exact op_mul pins s σ a.H _ _ v u Q I rx ry ⟨i, j, rfl, rfl, .inr (nab z), q _ a (Grow.refl a) k (by simp [Rep])⟩
      · split at hd
        · rename_i z; cases hd
          exact op_mul pins s σ a.H _ _ v u Q I rx ry ⟨i, j, rfl, rfl, .inl (nab z), q _ a (Grow.refl a) k (by simp [Rep])⟩
        · cases hd
omit hC in
theorem op_fdivD : OpR X (binaryOp .FloorDiv) (rD C fdivD) := by
  intro pins s σ H x y v u Q I rx ry h
  obtain ⟨a, d1, d2, r1, r2, d, rfl, k, p1, p2, hd, q⟩ := h
  cases d1 <;> cases d2 <;> simp only [fdivD] at hd <;> try (cases hd; done)
  case int.int i j =>
    split at hd
    · rename_i z; cases hd; cases rep_int p1; cases rep_int p2
      exact op_fdivW pins s σ a.H _ _ v u Q I rx ry ⟨i, j, rfl, rfl, z, q _ a (Grow.refl a) k (by simp [Rep])⟩
    · cases hd
omit hC in
theorem op_modD : OpR X (binaryOp .Mod) (rD C modD) := by
  intro pins s σ H x y v u Q I rx ry h
  obtain ⟨a, d1, d2, r1, r2, d, rfl, k, p1, p2, hd, q⟩ := h
  cases d1 <;> cases d2 <;> simp only [modD] at hd <;> try (cases hd; done)
  case int.int i j =>
    cases rep_int p1; cases rep_int p2
    split at hd
    · rename_i z; cases hd
      exact op_mod pins s σ a.H _ _ v u Q I rx ry ⟨i, j, rfl, rfl, z, q _ a (Grow.refl a) k (by simp [Rep])⟩
    · split at hd
      · rename_i z; cases hd
        exact op_modN pins s σ a.H _ _ v u Q I rx ry ⟨i, j, rfl, rfl, z, q _ a (Grow.refl a) k (by simp [Rep])⟩
      · cases hd
omit hC in
theorem op_powD : OpR X (binaryOp .Pow) (rD C powD) := by
  intro pins s σ H x y v u Q I rx ry h
  obtain ⟨a, d1, d2, r1, r2, d, rfl, k, p1, p2, hd, q⟩ := h
  cases d1 <;> cases d2 <;> simp only [powD] at hd <;> try (cases hd; done)
  case int.int i j =>
    split at hd
    · rename_i z; cases hd; cases rep_int p1; cases rep_int p2
      exact op_pow pins s σ a.H _ _ v u Q I rx ry ⟨i, j, rfl, rfl, z, q _ a (Grow.refl a) k (by simp [Rep])⟩
    · cases hd
omit hC in
theorem un_negD : UnR X (unaryOp .USub) (uD C negD) := by
  intro pins s σ H x v Q I rx h
  obtain ⟨a, d1, r1, d, rfl, k, p1, hd, q⟩ := h
  cases d1 <;> simp only [negD] at hd <;> try (cases hd; done)
  case int i =>
    cases hd; cases rep_int p1
    exact un_neg pins s σ a.H _ v Q I rx ⟨i, rfl, q _ a (Grow.refl a) k (by simp [Rep])⟩
end
def binD : Operator → Option (D → D → Option D)
  | .Add => some addD
  | .Sub => some subD
  | .Mult => some mulD
  | .FloorDiv => some fdivD
  | .Mod => some modD
  | .Pow => some powD
  | _ => none
theorem op_binD {X : Cx} {C : KM} (hC : C.K = X.K) {op : Operator} {g : D → D → Option D} (h : binD op = some g) : OpR X (binaryOp op) (rD C g) := by
  cases op <;> simp only [binD] at h <;> cases h
  · exact op_addD hC
  · exact op_subD
  · exact op_mulD
  · exact op_modD
  · exact op_powD
  · exact op_fdivD

/-! ### == -/
mutual
def okP : Nat → D → Bool
  | _, .non | _, .bl _ | _, .int _ => true
  | _, .str s => PyData.strOk s
  | 0, .tup _ | 0, .lst _ _ => false
  | n + 1, .tup l => okPL n l
  | n + 1, .lst _ l => okPL n l
  | _, _ => false
def okPL : Nat → List D → Bool
  | _, [] => true
  | n, d :: l => okP n d && okPL n l
end
mutual
def toP : D → PyData
  | .bl b => .bool b
  | .int i => .int i
  | .str s => .str s
  | .tup l => .tuple (toPL l)
  | .lst _ l => .list (toPL l)
  | _ => .none
def toPL : List D → List PyData
  | [] => []
  | d :: l => toP d :: toPL l
end
mutual
theorem okP_shape : ∀ (d : D) (n : Nat), okP n d = true → (toP d).canLay0 = true ∧ (toP d).depth ≤ n
  | .non, n, h => by simp [toP, PyData.canLay0, PyData.depth]
  | .bl _, n, h => by simp [toP, PyData.canLay0, PyData.depth]
  | .int _, n, h => by simp [toP, PyData.canLay0, PyData.depth]
  | .str s, n, h => by
    have h : PyData.strOk s = true := by cases n <;> simpa [okP] using h
    simp [toP, PyData.canLay0, PyData.depth, h]
  | .tup l, 0, h => by simp [okP] at h
  | .lst _ l, 0, h => by simp [okP] at h
  | .tup l, n + 1, h => by
    obtain ⟨h1, h2⟩ := okPL_shape l n (by simpa [okP] using h)
    exact ⟨by simpa [toP, PyData.canLay0] using h1, by simp only [toP, PyData.depth]; omega⟩
  | .lst _ l, n + 1, h => by
    obtain ⟨h1, h2⟩ := okPL_shape l n (by simpa [okP] using h)
    exact ⟨by simpa [toP, PyData.canLay0] using h1, by simp only [toP, PyData.depth]; omega⟩
  | .ty _, n, h => by simp [okP] at h
  | .fn _, n, h => by simp [okP] at h
  | .scr _, n, h => by simp [okP] at h
  | .dic _ _ _, n, h => by simp [okP] at h
  | .ins _ _ _ _, n, h => by simp [okP] at h
theorem okPL_shape : ∀ (l : List D) (n : Nat), okPL n l = true → PyData.canLayAll0 (toPL l) = true ∧ PyData.depthAll (toPL l) ≤ n
  | [], n, h => by simp [toPL, PyData.canLayAll0, PyData.depthAll]
  | d :: l, n, h => by
    simp only [okPL, Bool.and_eq_true] at h
    obtain ⟨h1, h2⟩ := okP_shape d n h.1
    obtain ⟨h3, h4⟩ := okPL_shape l n h.2
    exact ⟨by simp [toPL, PyData.canLayAll0, h1, h3], by simp only [toPL, PyData.depthAll]; omega⟩
end
mutual
theorem okP_dp {C : KM} {a : Wd} (k : Ok a) : ∀ (d : D) (n : Nat) (r : Nat) (p : List Nat) (v : V), okP n d = true → Rep C a r p v d → Dp C.K a.H v (toP d)
  | .non, n, r, p, v, h, q => by cases rep_non q; simp only [toP]; exact .non
  | .bl b, n, r, p, v, h, q => by cases rep_bl q; simp only [toP]; exact .bl b
  | .int i, n, r, p, v, h, q => by cases rep_int q; simp only [toP]; exact .int i
  | .str s, n, r, p, v, h, q => by cases rep_str q; simp only [toP]; exact .str s
  | .tup l, 0, r, p, v, h, q => by simp [okP] at h
  | .lst _ l, 0, r, p, v, h, q => by simp [okP] at h
  | .tup l, n + 1, r, p, v, h, q => by
    obtain ⟨x, vs, rfl, h1, h2⟩ := rep_tup k q
    simp only [toP]
    exact .tup h1 (okPL_dp k l n r p 0 vs (by simpa [okP] using h) h2)
  | .lst _ l, n + 1, r, p, v, h, q => by
    obtain ⟨x, vs, rfl, h1, h2⟩ := rep_lst k q
    simp only [toP]
    exact .lst (SqL.of h1) (okPL_dp k l n r p 0 vs (by simpa [okP] using h) h2)
  | .ty _, n, r, p, v, h, q => by simp [okP] at h
  | .fn _, n, r, p, v, h, q => by simp [okP] at h
  | .scr _, n, r, p, v, h, q => by simp [okP] at h
  | .dic _ _ _, n, r, p, v, h, q => by simp [okP] at h
  | .ins _ _ _ _, n, r, p, v, h, q => by simp [okP] at h
theorem okPL_dp {C : KM} {a : Wd} (k : Ok a) : ∀ (l : List D) (n : Nat) (r : Nat) (p : List Nat) (m : Nat) (vs : List V), okPL n l = true → RepL C a r p m vs l → DpAll C.K a.H vs (toPL l)
  | [], n, r, p, m, vs, h, q => by simp only [RepL] at q; subst q; simp only [toPL]; exact .nil
  | d :: l, n, r, p, m, vs, h, q => by
    simp only [okPL, Bool.and_eq_true] at h
    simp only [RepL] at q
    obtain ⟨v, us, rfl, h1, h2⟩ := q
    simp only [toPL]
    exact .cons (okP_dp k d n r (m :: p) v h.1 h1) (okPL_dp k l n r p (m + 1) us h.2 h2)
end
def eqB (d e : D) : Bool := PyData.eqv (toP d) (toP e)
/- scalars -/
def scalD : D → D → Option Bool
  | .non, .non => some true
  | .int i, .int j => some (i == j)
  | .str s, .str t => some (s == t)
  | .bl a, .bl b => some (a == b)
  | .non, .int _ | .int _, .non | .non, .bl _ | .bl _, .non | .non, .str _ | .str _, .non => some false
  | .int _, .str _ | .str _, .int _ | .bl _, .str _ | .str _, .bl _ => some false
  | _, _ => none
def eqQ (d e : D) : Option Bool := match scalD d e with
  | some b => some b
  | none => if okP 64 d && okP 64 e then some (eqB d e) else none
def eqD (d e : D) : Option D := (eqQ d e).map .bl
def neD (d e : D) : Option D := (eqQ d e).map fun b => .bl (!b)
theorem scalD_eq {C : KM} {a : Wd} {r s : Nat} {x y : V} {d e : D} {b : Bool} (h : scalD d e = some b) (p : Rep C a r [] x d) (q : Rep C a s [] y e) : scal x y = true ∧ decide (x = y) = b := by
  cases d <;> cases e <;> simp only [scalD] at h <;> (try (cases h; done)) <;> (simp only [Option.some.injEq] at h; subst h) <;> (simp only [Rep] at p q; subst p q) <;> simp [scal] <;> (rw [Bool.eq_iff_iff]; simp)
section
variable {X : Cx} {C : KM} (hC : C.K = X.K)
include hC
theorem op_eqDD (hu : X.A.units + 64 < cLine) : OpR X (compareOp .Eq) (rD C eqD) := by
  intro pins s σ H x y v u Q I rx ry h
  obtain ⟨a, d1, d2, r1, r2, d, rfl, k, p1, p2, hd, q⟩ := h
  unfold eqD eqQ at hd
  cases hs : scalD d1 d2 with
  | some b =>
    rw [hs] at hd
    cases hd
    obtain ⟨h1, h2⟩ := scalD_eq hs p1 p2
    exact op_eq pins s σ a.H _ _ v u Q I rx ry ⟨h1, by rw [h2]; exact q _ a (Grow.refl a) k rep_ofbl⟩
  | none =>
    rw [hs] at hd
    dsimp only at hd
    split at hd
    · rename_i z
      cases hd
      simp only [Bool.and_eq_true] at z
      obtain ⟨s1, s2⟩ := okP_shape d1 64 z.1
      obtain ⟨s3, s4⟩ := okP_shape d2 64 z.2
      refine op_eqD hu pins s σ a.H _ _ v u Q I rx ry ⟨toP d1, toP d2, ?_, ?_, by simp [SeqAt.shaped, s1, s2], by simp [SeqAt.shaped, s3, s4], q _ a (Grow.refl a) k rep_ofbl⟩
      · rw [← hC]; exact okP_dp k d1 64 _ _ _ z.1 p1
      · rw [← hC]; exact okP_dp k d2 64 _ _ _ z.2 p2
    · cases hd
theorem op_neDD (hu : X.A.units + 64 < cLine) : OpR X (compareOp .NotEq) (rD C neD) := by
  intro pins s σ H x y v u Q I rx ry h
  obtain ⟨a, d1, d2, r1, r2, d, rfl, k, p1, p2, hd, q⟩ := h
  unfold neD eqQ at hd
  cases hs : scalD d1 d2 with
  | some b =>
    rw [hs] at hd
    cases hd
    obtain ⟨h1, h2⟩ := scalD_eq hs p1 p2
    exact op_ne pins s σ a.H _ _ v u Q I rx ry ⟨h1, by rw [h2]; exact q _ a (Grow.refl a) k rep_ofbl⟩
  | none =>
    rw [hs] at hd
    dsimp only at hd
    split at hd
    · rename_i z
      cases hd
      simp only [Bool.and_eq_true] at z
      obtain ⟨s1, s2⟩ := okP_shape d1 64 z.1
      obtain ⟨s3, s4⟩ := okP_shape d2 64 z.2
      refine op_neD hu pins s σ a.H _ _ v u Q I rx ry ⟨toP d1, toP d2, ?_, ?_, by simp [SeqAt.shaped, s1, s2], by simp [SeqAt.shaped, s3, s4], q _ a (Grow.refl a) k rep_ofbl⟩
      · rw [← hC]; exact okP_dp k d1 64 _ _ _ z.1 p1
      · rw [← hC]; exact okP_dp k d2 64 _ _ _ z.2 p2
    · cases hd
end

/-! ### order, in, is -/
def ltD : D → D → Option D
  | .int i, .int j => some (.bl (decide (i < j)))
  | .str s, .str t => some (.bl (decide (s.cps.toList < t.cps.toList)))
  | _, _ => none
def leD : D → D → Option D
  | .int i, .int j => some (.bl (decide (i ≤ j)))
  | .str s, .str t => some (.bl (!decide (t.cps.toList < s.cps.toList)))
  | _, _ => none
def gtD : D → D → Option D
  | .int i, .int j => some (.bl (decide (j < i)))
  | .str s, .str t => some (.bl (decide (t.cps.toList < s.cps.toList)))
  | _, _ => none
def geD : D → D → Option D
  | .int i, .int j => some (.bl (decide (j ≤ i)))
  | .str s, .str t => some (.bl (!decide (s.cps.toList < t.cps.toList)))
  | _, _ => none
/- atoms as values -/
def flatD : D → Bool
  | .non | .bl _ | .int _ | .str _ => true
  | _ => false
def eqF : D → D → Bool
  | .non, .non => true
  | .bl a, .bl b => a == b
  | .bl a, .int b => (if a then 1 else 0) == b
  | .int a, .bl b => a == (if b then 1 else 0)
  | .int a, .int b => a == b
  | .str a, .str b => a == b
  | _, _ => false
def keyD : D → Option Key
  | .int i => some (.inl i)
  | .str s => some (.inr s)
  | _ => none
def unkD : Key → D
  | .inl i => .int i
  | .inr s => .str s
/- the value at a key -/
def getK : List D → List D → Key → Option D
  | k :: ks, w :: ws, x => if keyD k = some x then some w else getK ks ws x
  | _, _, _ => none
def inQ : D → D → Option Bool
  | .str s, .str t => match s.cps.toList with
    | [c] => some (decide (c ∈ t.cps.toList))
    | _ => some (!(Builtin.Str.occurrences t s 0 t.length 1).isEmpty)
  | x, .dic _ ks ws => match keyD x with
    | some k => some (getK ks ws k).isSome
    | none => none
  | x, .lst _ l => if flatD x && l.all flatD then some (l.any fun y => eqF y x) else none
  | x, .tup l => if flatD x && l.all flatD then some (l.any fun y => eqF y x) else none
  | _, _ => none
def inD (d e : D) : Option D := (inQ d e).map .bl
def ninD (d e : D) : Option D := (inQ d e).map fun b => .bl (!b)
def isQ : D → D → Option Bool
  | .non, .non => some true
  | .int _, .non | .str _, .non | .bl _, .non | .tup _, .non | .lst _ _, .non | .dic _ _ _, .non | .ins _ _ _ _, .non => some false
  | .bl a, .bl b => some (a == b)
  | .non, .bl _ | .int _, .bl _ | .str _, .bl _ | .tup _, .bl _ | .lst _ _, .bl _ | .dic _ _ _, .bl _ | .ins _ _ _ _, .bl _ => some false
  | _, _ => none
def isD (d e : D) : Option D := (isQ d e).map .bl
def nisD (d e : D) : Option D := (isQ d e).map fun b => .bl (!b)
end Mi
namespace Mi
open PySem PySem.Spec PyProof.Rows L2

/-! ### keys -/
theorem rep_key {C : KM} {a : Wd} {r : Nat} {p : List Nat} {d : D} {k : Key} (h : Rep C a r p (kV k) d) : d = unkD k := by
  cases k with
  | inl i => cases d <;> simp only [Rep, kV] at h <;> first | (cases h; done) | (cases h; rfl) | (obtain ⟨_, h⟩ := h; first | (cases h; done) | (obtain ⟨h, _⟩ := h; cases h; done) | (obtain ⟨_, h⟩ := h; first | (cases h; done) | (obtain ⟨h, _⟩ := h; cases h; done) | (obtain ⟨_, _, h, _⟩ := h; cases h; done)))
  | inr i => cases d <;> simp only [Rep, kV] at h <;> first | (cases h; done) | (cases h; rfl) | (obtain ⟨_, h⟩ := h; first | (cases h; done) | (obtain ⟨h, _⟩ := h; cases h; done) | (obtain ⟨_, h⟩ := h; first | (cases h; done) | (obtain ⟨h, _⟩ := h; cases h; done) | (obtain ⟨_, _, h, _⟩ := h; cases h; done)))
theorem keyD_unk (k : Key) : keyD (unkD k) = some k := by cases k <;> rfl
theorem keyD_rep {C : KM} {a : Wd} {r : Nat} {p : List Nat} {d : D} {v : V} {k : Key} (h : keyD d = some k) (q : Rep C a r p v d) : v = kV k := by
  cases d <;> simp only [keyD] at h <;> (try (cases h; done)) <;> cases h
  · exact rep_int q
  · exact rep_str q
theorem getK_rep {C : KM} {a : Wd} {r : Nat} {p : List Nat} (x : Key) : ∀ {kvs : List (Key × V)} {ks ws : List D} {n m : Nat}, RepL C a r p n (kvs.map fun q => kV q.1) ks → RepL C a r p m (kvs.map (·.2)) ws →
    match getK ks ws x with
    | some w => ∃ v j, valV kvs x = some v ∧ Rep C a r (j :: p) v w
    | none => valV kvs x = none
  | [], ks, ws, n, m, h, g => by
    have e : ks = [] := by cases ks with | nil => rfl | cons _ _ => simp only [RepL, List.map_nil] at h; obtain ⟨_, _, e, _⟩ := h; cases e
    subst e
    simp [getK, valV]
  | (k, v) :: kvs, ks, ws, n, m, h, g => by
    cases ks with
    | nil => simp only [RepL, List.map_cons] at h; cases h
    | cons d ks =>
      cases ws with
      | nil => simp only [RepL, List.map_cons] at g; cases g
      | cons w ws =>
        simp only [RepL, List.map_cons] at h g
        obtain ⟨v1, us, e1, h1, h2⟩ := h
        obtain ⟨v2, us', e2, g1, g2⟩ := g
        cases e1; cases e2
        have ed := rep_key h1
        subst ed
        simp only [getK, keyD_unk]
        by_cases e : k = x
        · subst e
          simp only [if_true]
          exact ⟨v, m, valV_pos rfl, g1⟩
        · have ne : ¬ (some k : Option Key) = some x := fun z => e (Option.some.inj z)
          simp only [if_neg ne]
          have ih := getK_rep (C := C) (a := a) (r := r) (p := p) x (kvs := kvs) (ks := ks) (ws := ws) h2 g2
          rw [valV_neg (p := (k, v)) e]
          exact ih

/-! ### order -/
section
variable {X : Cx} {C : KM}
theorem op_ltD : OpR X (compareOp .Lt) (rD C ltD) := by
  intro pins s σ H x y v u Q I rx ry h
  obtain ⟨a, d1, d2, r1, r2, d, rfl, k, p1, p2, hd, q⟩ := h
  cases d1 <;> cases d2 <;> simp only [ltD] at hd <;> try (cases hd; done)
  case int.int i j => cases hd; cases rep_int p1; cases rep_int p2; exact op_lt pins s σ a.H _ _ v u Q I rx ry ⟨i, j, rfl, rfl, q _ a (Grow.refl a) k rep_ofbl⟩
  case str.str i j => cases hd; cases rep_str p1; cases rep_str p2; exact op_lt_str pins s σ a.H _ _ v u Q I rx ry ⟨i, j, rfl, rfl, q _ a (Grow.refl a) k rep_ofbl⟩
theorem op_leD : OpR X (compareOp .LtE) (rD C leD) := by
  intro pins s σ H x y v u Q I rx ry h
  obtain ⟨a, d1, d2, r1, r2, d, rfl, k, p1, p2, hd, q⟩ := h
  cases d1 <;> cases d2 <;> simp only [leD] at hd <;> try (cases hd; done)
  case int.int i j => cases hd; cases rep_int p1; cases rep_int p2; exact op_le pins s σ a.H _ _ v u Q I rx ry ⟨i, j, rfl, rfl, q _ a (Grow.refl a) k rep_ofbl⟩
  case str.str i j => cases hd; cases rep_str p1; cases rep_str p2; exact op_le_str pins s σ a.H _ _ v u Q I rx ry ⟨i, j, rfl, rfl, q _ a (Grow.refl a) k rep_ofbl⟩
theorem op_gtD : OpR X (compareOp .Gt) (rD C gtD) := by
  intro pins s σ H x y v u Q I rx ry h
  obtain ⟨a, d1, d2, r1, r2, d, rfl, k, p1, p2, hd, q⟩ := h
  cases d1 <;> cases d2 <;> simp only [gtD] at hd <;> try (cases hd; done)
  case int.int i j => cases hd; cases rep_int p1; cases rep_int p2; exact op_gt pins s σ a.H _ _ v u Q I rx ry ⟨i, j, rfl, rfl, q _ a (Grow.refl a) k rep_ofbl⟩
  case str.str i j => cases hd; cases rep_str p1; cases rep_str p2; exact op_gt_str pins s σ a.H _ _ v u Q I rx ry ⟨i, j, rfl, rfl, q _ a (Grow.refl a) k rep_ofbl⟩
theorem op_geD : OpR X (compareOp .GtE) (rD C geD) := by
  intro pins s σ H x y v u Q I rx ry h
  obtain ⟨a, d1, d2, r1, r2, d, rfl, k, p1, p2, hd, q⟩ := h
  cases d1 <;> cases d2 <;> simp only [geD] at hd <;> try (cases hd; done)
  case int.int i j => cases hd; cases rep_int p1; cases rep_int p2; exact op_ge pins s σ a.H _ _ v u Q I rx ry ⟨i, j, rfl, rfl, q _ a (Grow.refl a) k rep_ofbl⟩
  case str.str i j => cases hd; cases rep_str p1; cases rep_str p2; exact op_ge_str pins s σ a.H _ _ v u Q I rx ry ⟨i, j, rfl, rfl, q _ a (Grow.refl a) k rep_ofbl⟩
end

/-! ### in -/
theorem flat_rep {C : KM} {a : Wd} {r : Nat} {p : List Nat} {d : D} {v : V} (h : flatD d = true) (q : Rep C a r p v d) : flatV v = true := by
  cases d <;> simp only [flatD] at h <;> (try (cases h; done)) <;> (simp only [Rep] at q; subst q; rfl)
theorem eqF_rep {C : KM} {a : Wd} {r s : Nat} {p p' : List Nat} {d e : D} {v u : V} (h : flatD d = true) (h' : flatD e = true) (q : Rep C a r p v d) (q' : Rep C a s p' u e) : eqV v u = eqF d e := by
  cases d <;> simp only [flatD] at h <;> (try (cases h; done)) <;> cases e <;> simp only [flatD] at h' <;> (try (cases h'; done)) <;> (simp only [Rep] at q q'; subst q q'; rfl)
theorem flats_rep {C : KM} {a : Wd} {r : Nat} {p : List Nat} : ∀ {l : List D} {n : Nat} {vs : List V}, l.all flatD = true → RepL C a r p n vs l → vs.all flatV = true
  | [], n, vs, h, q => by simp only [RepL] at q; subst q; rfl
  | d :: l, n, vs, h, q => by
    simp only [List.all_cons, Bool.and_eq_true] at h
    simp only [RepL] at q
    obtain ⟨v, us, rfl, q1, q2⟩ := q
    rw [List.all_cons, flat_rep h.1 q1, flats_rep h.2 q2]; rfl
theorem anyF_rep {C : KM} {a : Wd} {r s : Nat} {p p' : List Nat} {x : D} {v : V} (hx : flatD x = true) (qx : Rep C a s p' v x) : ∀ {l : List D} {n : Nat} {vs : List V}, l.all flatD = true → RepL C a r p n vs l → inV v vs = l.any fun y => eqF y x
  | [], n, vs, h, q => by simp only [RepL] at q; subst q; rfl
  | d :: l, n, vs, h, q => by
    simp only [List.all_cons, Bool.and_eq_true] at h
    simp only [RepL] at q
    obtain ⟨u, us, rfl, q1, q2⟩ := q
    have ih := anyF_rep hx qx h.2 q2
    unfold inV at ih ⊢
    rw [List.any_cons, List.any_cons, eqF_rep h.1 hx q1 qx, ih]
section
variable {X : Cx} {C : KM} (hC : C.K = X.K)
theorem sign_of {s : Str} {c : Nat} (h : s.cps.toList = [c]) : s = ⟨#[c]⟩ := by
  obtain ⟨a⟩ := s
  have e : a = #[c] := by
    apply Array.ext'
    simpa using h
  rw [e]
include hC
/- in, by its truth b; f the comparison, g what it tells of b -/
theorem op_inG {op : CmpOp} {g : Bool → Bool} (hop : (op = .In ∧ g = id) ∨ (op = .NotIn ∧ g = (!·))) (hu : X.A.units + 1 < cLine) : OpR X (compareOp op) (rD C fun d e => (inQ d e).map fun b => .bl (g b)) := by
  intro pins s σ H x y v u Q I rx ry h
  obtain ⟨a, d1, d2, r1, r2, d, rfl, k, p1, p2, hd, q⟩ := h
  cases hb : inQ d1 d2 with
  | none => simp only [hb] at hd; cases hd
  | some b =>
    simp only [hb] at hd
    cases hd
    have fin : ∀ s', Inv X pins σ a.H s' → EP X pins σ Q (.bool (g b)) s' := fun s' I' => ⟨.bl (g b), a.H, I', rfl, q _ a (Grow.refl a) k rep_ofbl⟩
    have qv : Q (.bl (g b)) a.H := q _ a (Grow.refl a) k rep_ofbl
    have seq : ∀ {x2 : Addr} {us : List V} {l : List D}, y = .ref x2 → (SqL X.K a.H x2 us ∨ SqT X.K a.H x2 us) → RepL C a r2 [] 0 us l → (if flatD d1 && l.all flatD then some (l.any fun y => eqF y d1) else none) = some b →
        wpAny (model X.prog X.w) X.A (compareOp op v u) (EP X pins σ Q) X.xe s := fun {x2 us l} e1 hs hl e2 => by
      split at e2
      · rename_i z
        simp only [Bool.and_eq_true] at z
        cases e2
        subst e1
        have ei := anyF_rep z.1 p1 z.2 hl
        rcases hop with ⟨rfl, rfl⟩ | ⟨rfl, rfl⟩
        · exact op_in_seq pins s σ a.H _ _ v u Q I rx ry ⟨x2, us, rfl, hs, flat_rep z.1 p1, flats_rep z.2 hl, by rw [ei]; exact qv⟩
        · exact op_notIn_seq pins s σ a.H _ _ v u Q I rx ry ⟨x2, us, rfl, hs, flat_rep z.1 p1, flats_rep z.2 hl, by rw [ei]; exact qv⟩
      · cases e2
    have dic : ∀ {o : Bool} {ks ws : List D}, Rep C a r2 [] y (.dic o ks ws) → (match keyD d1 with | some k => some (getK ks ws k).isSome | none => none) = some b → wpAny (model X.prog X.w) X.A (compareOp op v u) (EP X pins σ Q) X.xe s := fun {o ks ws} rp e => by
      cases hk : keyD d1 with
      | none => rw [hk] at e; cases e
      | some key =>
        rw [hk] at e
        cases e
        obtain ⟨x2, ho, kv, vs, rfl, h1, dc, f, hk1, hk2⟩ := rep_dic k rp
        cases dc with
        | dk kvs =>
          have ex := keyD_rep hk p1
          subst ex
          obtain rfl : u = Value.ref x2 := ry
          have gk := getK_rep key hk1 hk2
          have ei : (valV kvs key).isSome = (getK ks ws key).isSome := by
            cases e : getK ks ws key with
            | none => rw [e] at gk; rw [gk]; rfl
            | some w => rw [e] at gk; obtain ⟨v', j, e', _⟩ := gk; rw [e']; rfl
          rcases hop with ⟨rfl, rfl⟩ | ⟨rfl, rfl⟩
          · exact d_in hu I (DGet.k h1) rx fun s3 I3 => by rw [ei]; exact fin s3 I3
          · exact d_notIn hu I (DGet.k h1) rx fun s3 I3 => by rw [ei]; exact fin s3 I3
    cases d2
    case str t =>
      cases d1 <;> simp only [inQ] at hb <;> try (cases hb; done)
      case str z =>
        cases rep_str p1; cases rep_str p2
        split at hb
        · rename_i c e
          cases hb
          have ez := sign_of e
          subst ez
          rcases hop with ⟨rfl, rfl⟩ | ⟨rfl, rfl⟩
          · exact op_in_sign pins s σ a.H _ _ v u Q I rx ry ⟨c, t, rfl, rfl, qv⟩
          · exact op_notIn_sign pins s σ a.H _ _ v u Q I rx ry ⟨c, t, rfl, rfl, qv⟩
        · cases hb
          rcases hop with ⟨rfl, rfl⟩ | ⟨rfl, rfl⟩
          · exact op_in_str pins s σ a.H _ _ v u Q I rx ry ⟨z, t, rfl, rfl, qv⟩
          · exact L2.op_notIn_str pins s σ a.H _ _ v u Q I rx ry ⟨z, t, rfl, rfl, qv⟩
    case dic o ks ws => cases d1 <;> simp only [inQ] at hb <;> exact dic p2 hb
    case lst o l =>
      obtain ⟨x2, us, e, h1, h2⟩ := rep_lst k p2
      cases d1 <;> simp only [inQ] at hb <;> exact seq e (.inl (SqL.of h1)) h2 hb
    case tup l =>
      obtain ⟨x2, us, e, h1, h2⟩ := rep_tup k p2
      rw [hC] at h1
      cases d1 <;> simp only [inQ] at hb <;> exact seq e (.inr h1) h2 hb
    all_goals (cases d1 <;> simp only [inQ] at hb <;> cases hb)
theorem op_inD (hu : X.A.units + 1 < cLine) : OpR X (compareOp .In) (rD C inD) := op_inG hC (g := id) (.inl ⟨rfl, rfl⟩) hu
theorem op_ninD (hu : X.A.units + 1 < cLine) : OpR X (compareOp .NotIn) (rD C ninD) := op_inG hC (g := (!·)) (.inr ⟨rfl, rfl⟩) hu
omit hC in
theorem op_isG {op : CmpOp} {g : Bool → Bool} (hop : (op = .Is ∧ g = id) ∨ (op = .IsNot ∧ g = (!·))) : OpR X (compareOp op) (rD C fun d e => (isQ d e).map fun b => .bl (g b)) := by
  intro pins s σ H x y v u Q I rx ry h
  obtain ⟨a, d1, d2, r1, r2, d, rfl, k, p1, p2, hd, q⟩ := h
  cases hb : isQ d1 d2 with
  | none => simp only [hb] at hd; cases hd
  | some b =>
    simp only [hb] at hd
    cases hd
    have qv : Q (.bl (g b)) a.H := q _ a (Grow.refl a) k rep_ofbl
    cases d2 <;> (try (cases d1 <;> simp only [isQ] at hb <;> cases hb; done))
    case non =>
      cases rep_non p2
      have ex : decide (x = .non) = b := by
        cases d1 <;> simp only [isQ] at hb <;> (try (cases hb; done)) <;> cases hb <;> simp only [Rep] at p1
        · subst p1; rfl
        · subst p1; rfl
        · subst p1; rfl
        · subst p1; rfl
        · obtain ⟨_, _, rfl, _⟩ := p1; rfl
        · obtain ⟨_, _, rfl, _⟩ := p1; rfl
        · obtain ⟨_, _, _, _, rfl, _⟩ := p1; rfl
        · obtain ⟨_, _, _, _, rfl, _⟩ := p1; rfl
      rcases hop with ⟨rfl, rfl⟩ | ⟨rfl, rfl⟩
      · exact op_isN pins s σ a.H _ _ v u Q I rx ry ⟨rfl, by rw [ex]; exact qv⟩
      · exact op_notN pins s σ a.H _ _ v u Q I rx ry ⟨rfl, by rw [ex]; exact qv⟩
    case bl c =>
      cases rep_bl p2
      cases d1 <;> simp only [isQ] at hb <;> (try (cases hb; done))
      case bl c' =>
        cases hb; cases rep_bl p1
        have e : decide (c' = c) = (c' == c) := by rw [Bool.eq_iff_iff]; simp
        rcases hop with ⟨rfl, rfl⟩ | ⟨rfl, rfl⟩
        · exact op_isBl pins s σ a.H _ _ v u Q I rx ry ⟨c', c, rfl, rfl, by rw [e]; exact qv⟩
        · exact op_notBl pins s σ a.H _ _ v u Q I rx ry ⟨c', c, rfl, rfl, by rw [e]; exact qv⟩
      all_goals
        cases hb
        have hv : plainIs v (.bool c) = true ∧ (v == .bool c) = false := by
          simp only [Rep] at p1
          first
            | (subst p1; cases rx; exact ⟨rfl, rfl⟩)
            | (subst p1; obtain ⟨t, rfl⟩ := rx; exact ⟨rfl, rfl⟩)
            | (obtain ⟨_, _, rfl, _⟩ := p1; cases rx; exact ⟨rfl, rfl⟩)
            | (obtain ⟨_, _, _, _, rfl, _⟩ := p1; cases rx; exact ⟨rfl, rfl⟩)
        obtain rfl : u = Value.bool c := ry
        rcases hop with ⟨rfl, rfl⟩ | ⟨rfl, rfl⟩
        · exact wpAny_is_plain hv.1 (by rw [hv.2]; exact ⟨.bl false, a.H, I, rfl, qv⟩)
        · exact wpAny_isNot_plain hv.1 (by rw [hv.2]; exact ⟨.bl true, a.H, I, rfl, qv⟩)
theorem op_isD : OpR X (compareOp .Is) (rD C isD) := op_isG (g := id) (.inl ⟨rfl, rfl⟩)
theorem op_nisD : OpR X (compareOp .IsNot) (rD C nisD) := op_isG (g := (!·)) (.inr ⟨rfl, rfl⟩)
end
end Mi
namespace Mi
open PySem PySem.Spec PyProof.Rows L2

/-! ### subscripts -/
def pick (o : Option D) : Option D := match o with
  | some d => if fz d = true then some d else none
  | none => none
theorem pick_eq {o : Option D} {d : D} (h : pick o = some d) : o = some d ∧ fz d = true := by
  unfold pick at h
  split at h
  · split at h
    · rename_i z; cases h; exact ⟨rfl, z⟩
    · cases h
  · cases h
def ixD : D → D → Option D
  | .lst _ l, .int i => pick (atI l i)
  | .tup l, .int i => pick (atI l i)
  | .scr l, .int i => (atI l i).map .int
  | .str s, .int i => if s.length ≤ sizeLine then (atI s.cps.toList i).map fun c => .str ⟨#[c]⟩ else none
  | .dic _ ks ws, x => match keyD x with
    | some k => pick (getK ks ws k)
    | none => none
  | _, _ => none
theorem atI_rep {C : KM} {a : Wd} {r : Nat} {p : List Nat} {l : List D} {n : Nat} {vs : List V} {i : Int} {d : D} (h : RepL C a r p n vs l) (e : atI l i = some d) : ∃ v j, atI vs i = some v ∧ Rep C a r (j :: p) v d := by
  unfold atI at e ⊢
  rw [h.len]
  cases hx : ixN l.length i with
  | none => rw [hx] at e; cases e
  | some j =>
    rw [hx] at e
    obtain ⟨v, h1, h2⟩ := h.get (show l[j]? = some d from e)
    exact ⟨v, n + j, h1, h2⟩
section
variable {X : Cx} {C : KM} (hC : C.K = X.K)
include hC
theorem ix_D (hu : X.A.units + 1 < cLine) : IxR X (rD C ixD) := by
  intro value slice pins s σ H x y v u Q I rx ry h hs
  obtain ⟨a, d1, d2, r1, r2, d, rfl, k, p1, p2, hd, q⟩ := h
  have fz_ok : ∀ {z : V} {r : Nat} {p : List Nat}, Rep C a r p z d → fz d = true → Q z a.H := fun {z r p} h e => q z a (Grow.refl a) k (h.step k (Step.refl a) e)
  have dic : ∀ {o : Bool} {ks ws : List D}, Rep C a r1 [] x (.dic o ks ws) → (match keyD d2 with | some k => pick (getK ks ws k) | none => none) = some d → wpAny (model X.prog X.w) X.A (subscriptTail value slice v u) (EP X pins σ Q) X.xe s := fun {o ks ws} rp e => by
    cases hk : keyD d2 with
    | none => rw [hk] at e; cases e
    | some key =>
      rw [hk] at e
      obtain ⟨e1, z⟩ := pick_eq e
      obtain ⟨x2, ho, kv, vs, rfl, h1, dc, f, hk1, hk2⟩ := rep_dic k rp
      cases dc with
      | dk kvs =>
        have ex := keyD_rep hk p2
        subst ex
        obtain rfl : v = Value.ref x2 := rx
        have gk := getK_rep key hk1 hk2
        rw [e1] at gk
        obtain ⟨w, j, ew, rw'⟩ := gk
        have g : DGet a.H x2 (kV key) (some w) := by rw [← ew]; exact DGet.k h1
        exact tail_any (dict_typeIs I g) PySem.F.slot_dict_getitem.lookup (d_getItem hu I g ry fun w' s3 I3 r3 => ⟨w, a.H, I3, r3, fz_ok rw' z⟩) hs
  cases d1
  case lst o l =>
    cases d2 <;> simp only [ixD] at hd <;> (try (cases hd; done))
    case int i =>
      obtain ⟨e1, z⟩ := pick_eq hd
      obtain ⟨x1, vs, rfl, h1, h2⟩ := rep_lst k p1
      cases rep_int p2
      obtain ⟨w, j, ew, rw'⟩ := atI_rep h2 e1
      exact ix_list value slice pins s σ a.H _ _ v u Q I rx ry ⟨x1, vs, i, w, rfl, rfl, SqL.of h1, ew, fz_ok rw' z⟩ hs
  case tup l =>
    cases d2 <;> simp only [ixD] at hd <;> (try (cases hd; done))
    case int i =>
      obtain ⟨e1, z⟩ := pick_eq hd
      obtain ⟨x1, vs, rfl, h1, h2⟩ := rep_tup k p1
      cases rep_int p2
      rw [hC] at h1
      obtain ⟨w, j, ew, rw'⟩ := atI_rep h2 e1
      exact ix_tup value slice pins s σ a.H _ _ v u Q I rx ry ⟨x1, vs, i, w, rfl, rfl, h1, ew, fz_ok rw' z⟩ hs
  case scr l =>
    cases d2 <;> simp only [ixD] at hd <;> (try (cases hd; done))
    case int i =>
      obtain ⟨x1, rfl, h1⟩ := rep_scr k p1
      cases rep_int p2
      rw [hC] at h1
      cases e1 : atI l i with
      | none => rw [e1] at hd; cases hd
      | some n =>
        rw [e1] at hd
        cases hd
        have ew : atI (l.map V.int) i = some (.int n) := by
          unfold atI at e1 ⊢
          rw [List.length_map]
          cases hx : ixN l.length i with
          | none => rw [hx] at e1; cases e1
          | some j =>
            rw [hx] at e1
            have e1 : l[j]? = some n := e1
            show (l.map V.int)[j]? = some (.int n)
            rw [List.getElem?_map, e1]; rfl
        exact ix_list value slice pins s σ a.H _ _ v u Q I rx ry ⟨x1, _, i, .int n, rfl, rfl, h1, ew, fz_ok (r := 0) (p := []) (by simp [Rep]) rfl⟩ hs
  case str z =>
    cases d2 <;> simp only [ixD] at hd <;> (try (cases hd; done))
    case int i =>
      split at hd
      · rename_i hz
        cases rep_int p2
        cases rep_str p1
        cases e1 : atI z.cps.toList i with
        | none => rw [e1] at hd; cases hd
        | some n =>
          rw [e1] at hd
          cases hd
          exact ix_str value slice pins s σ a.H _ _ v u Q I rx ry ⟨z, i, n, rfl, rfl, hz, e1, fz_ok (r := 0) (p := []) (by simp [Rep]) rfl⟩ hs
      · cases hd
  case dic o ks ws => cases d2 <;> simp only [ixD] at hd <;> exact dic p1 hd
  all_goals (cases d2 <;> simp only [ixD] at hd <;> cases hd)
end

/-! ### slices -/
def cutD {α : Type} (xs : List α) (lo hi : Option Int) : List α := (xs.drop (HT.sIx xs.length 0 lo)).take (HT.sIx xs.length xs.length hi - HT.sIx xs.length 0 lo)
def slD (d : D) (lo hi : Option Int) : Option D := match d with
  | .lst _ l => if fzL l then some (.lst true (cutD l lo hi)) else none
  | .tup l => if fzL l then some (.tup (cutD l lo hi)) else none
  | .scr l => some (.lst true ((cutD l lo hi).map .int))
  | .str s => if s.length ≤ sizeLine then some (.str (cutS s lo hi)) else none
  | _ => none
theorem RepL.cut {C : KM} {a : Wd} {r s : Nat} {p q : List Nat} : ∀ {l : List D} {n m : Nat} {vs : List V} (i k : Nat), fzL l = true → RepL C a r p n vs l → RepL C a s q m ((vs.drop i).take k) ((l.drop i).take k)
  | [], n, m, vs, i, k, _, h => by simp only [RepL] at h; subst h; simp [RepL]
  | d :: l, n, m, vs, i, 0, _, h => by simp [RepL]
  | d :: l, n, m, vs, 0, k + 1, z, h => by
    simp only [RepL] at h
    obtain ⟨v, us, rfl, h1, h2⟩ := h
    simp only [fzL, Bool.and_eq_true] at z
    simp only [List.drop_zero, List.take_succ_cons]
    have ih := RepL.cut (s := s) (q := q) (m := m + 1) 0 k z.2 h2
    exact ⟨v, _, rfl, Rep.fz (fun _ _ e => e) d _ _ v z.1 h1, ih⟩
  | d :: l, n, m, vs, i + 1, k + 1, z, h => by
    simp only [RepL] at h
    obtain ⟨v, us, rfl, h1, h2⟩ := h
    simp only [fzL, Bool.and_eq_true] at z
    simp only [List.drop_succ_cons]
    exact RepL.cut i (k + 1) z.2 h2
theorem fzL_take {l : List D} (h : fzL l = true) (k : Nat) : fzL (l.take k) = true := fzL_all fun d hd => fzL_mem h d (List.mem_of_mem_take hd)
theorem fzL_drop {l : List D} (h : fzL l = true) (k : Nat) : fzL (l.drop k) = true := fzL_all fun d hd => fzL_mem h d (List.mem_of_mem_drop hd)
theorem repL_ints {C : KM} {a : Wd} {r : Nat} {p : List Nat} : ∀ (l : List Int) (n : Nat), RepL C a r p n (l.map V.int) (l.map D.int)
  | [], n => by simp [RepL]
  | i :: l, n => ⟨.int i, l.map V.int, rfl, by simp [Rep], repL_ints l (n + 1)⟩
theorem fzL_ints : ∀ l : List Int, fzL (l.map D.int) = true
  | [] => rfl
  | i :: l => by simp only [List.map_cons, fzL, fz, fzL_ints l]; rfl
theorem map_cut {α β : Type} (f : α → β) (l : List α) (lo hi : Option Int) : cutD (l.map f) lo hi = (cutD l lo hi).map f := by
  unfold cutD
  rw [List.length_map, List.map_take, List.map_drop]
def rSD (C : KM) : V → Option Int → Option Int → Hp → VK → Prop := fun x lo hi H Q => ∃ a d1 r1 d, a.H = H ∧ Ok a ∧ Rep C a r1 [] x d1 ∧ slD d1 lo hi = some d ∧ ∀ z b, Grow a b → Ok b → Rep C b 0 [] z d → Q z b.H
def rSlX (K : PySem.W.Frag) : V → Option Int → Option Int → Hp → VK → Prop := fun x lo hi H Q => ∃ a xs, x = .ref a ∧ SqT K H a xs ∧
  (HT.sIx xs.length 0 lo = 0 ∧ HT.sIx xs.length xs.length hi = xs.length → Q (.ref a) H) ∧ (¬ (HT.sIx xs.length 0 lo = 0 ∧ HT.sIx xs.length xs.length hi = xs.length) → TupNew Q H (cutV xs lo hi))
theorem sl_tupX {X : Cx} : SlR X (rSlX X.K) := by
  intro pins s σ H x v vl vu lo hi sl Q I rx hs pl pu h
  obtain ⟨a, xs, rfl, hx, q1, q2⟩ := h
  by_cases hw : HT.sIx xs.length 0 lo = 0 ∧ HT.sIx xs.length xs.length hi = xs.length
  · exact sl_tupA pins s σ H _ v vl vu lo hi sl Q I rx hs pl pu ⟨a, xs, rfl, hx, q1, fun z => absurd hw z⟩
  cases rx
  obtain ⟨its, r, ht, hz⟩ := I.tuple hx
  have hlen : its.toArray.size = xs.length := by rw [List.size_toArray]; exact r.length.symm
  refine ⟨"tuple", _, PyProof.Rows.slot_tuple_getitem.lookup, ht.typeIs, HT.getItem_tuple_cut ht hs pl pu (by rw [hlen]; exact hw) ?_ (by rw [hlen]; exact hz)⟩
  rw [hlen]
  exact lay_tup I ((r.drop (HT.sIx xs.length 0 lo)).take (HT.sIx xs.length xs.length hi - HT.sIx xs.length 0 lo)) (Nat.le_trans (cutV_length xs lo hi) hz) (q2 hw)
theorem call_tupleX {X : Cx} : CallR X (.type "tuple") (fun xs H Q => ∃ p ys, xs = [.ref p] ∧ SqL X.K H p ys ∧ TupNew Q H ys) := by
  intro pins s σ H xs us Q I r h
  obtain ⟨p, ys, rfl, hq, q⟩ := h
  obtain ⟨u, rfl, rx⟩ := vals1 r
  cases rx
  obtain ⟨its, r', pl, hz⟩ := I.list hq
  have hlen := r'.length
  refine call_tuple_list pl.isList (fun h' kp => ?_) (by simp only [List.size_toArray] <;> omega)
  have I1 : Inv X pins σ H { s with heap := h' } := I.kept (t' := s.toks) kp
  exact lay_tup I1 r' hz q
section
variable {X : Cx} {C : KM} (hC : C.K = X.K)
include hC
theorem sl_D : SlR X (rSD C) := by
  intro pins s σ H x v vl vu lo hi sl Q I rx hs pl pu h
  obtain ⟨a, d1, r1, d, rfl, k, p1, hd, q⟩ := h
  cases d1 <;> simp only [slD] at hd <;> (try (cases hd; done))
  case str z =>
    split at hd
    · rename_i hz; cases hd; cases rep_str p1
      exact sl_str pins s σ a.H _ v vl vu lo hi sl Q I rx hs pl pu ⟨z, rfl, hz, q _ a (Grow.refl a) k (by simp [Rep])⟩
    · cases hd
  case scr l =>
    cases hd
    obtain ⟨x1, rfl, h1⟩ := rep_scr k p1
    rw [hC] at h1
    refine sl_list pins s σ a.H _ v vl vu lo hi sl Q I rx hs pl pu ⟨x1, _, rfl, h1, ?_⟩
    rw [show cutV (l.map V.int) lo hi = (cutD l lo hi).map V.int from map_cut V.int l lo hi]
    exact new_lst k (fzL_ints _) (repL_ints (r := 0) (p := []) _ 0) q
  case lst o l =>
    split at hd
    · rename_i hz; cases hd
      obtain ⟨x1, vs, rfl, h1, h2⟩ := rep_lst k p1
      refine sl_list pins s σ a.H _ v vl vu lo hi sl Q I rx hs pl pu ⟨x1, vs, rfl, SqL.of h1, ?_⟩
      unfold cutV
      rw [h2.len]
      exact new_lst k (fzL_take (fzL_drop hz _) _) (RepL.cut (s := 0) (q := []) (m := 0) _ _ hz h2) q
    · cases hd
  case tup l =>
    split at hd
    · rename_i hz; cases hd
      obtain ⟨x1, vs, rfl, h1, h2⟩ := rep_tup k p1
      rw [hC] at h1
      refine sl_tupX pins s σ a.H _ v vl vu lo hi sl Q I rx hs pl pu ⟨x1, vs, rfl, h1, fun e => ?_, fun _ => ?_⟩
      · rw [h2.len] at e
        have e2 : cutD l lo hi = l := by unfold cutD; rw [e.1, e.2]; simp
        rw [e2] at q
        exact q _ a (Grow.refl a) k (p1.step k (Step.refl a) (by simpa [fz] using hz))
      · unfold cutV
        rw [h2.len]
        exact new_tup k (fzL_take (fzL_drop hz _) _) (RepL.cut (s := 0) (q := []) (m := 0) _ _ hz h2) q
    · cases hd
end

/-! ### calls of builtins -/
def lenD : List D → Option D
  | [.str s] => if s.length ≤ sizeLine then some (.int s.length) else none
  | [.lst _ l] => some (.int l.length)
  | [.tup l] => some (.int l.length)
  | [.scr l] => some (.int l.length)
  | [.dic _ ks _] => some (.int ks.length)
  | _ => none
def absD : List D → Option D
  | [.int i] => some (.int (if i < 0 then -i else i))
  | _ => none
def intD : List D → Option D
  | [.int i] => some (.int i)
  | [.bl b] => some (.int (if b then 1 else 0))
  | _ => none
def minD : List D → Option D
  | [.int i, .int j] => some (.int (if j < i then j else i))
  | _ => none
def maxD : List D → Option D
  | [.int i, .int j] => some (.int (if j > i then j else i))
  | _ => none
def strD : List D → Option D
  | [.int i] => if i.natAbs.log2 < 1920 then some (.str (toString i)) else none
  | _ => none
def listD : List D → Option D
  | [.lst _ l] => if fzL l then some (.lst true l) else none
  | [.tup l] => if fzL l then some (.lst true l) else none
  | [.scr l] => some (.lst true (l.map .int))
  | _ => none
def tupleD : List D → Option D
  | [.lst _ l] => if fzL l then some (.tup l) else none
  | [.tup l] => if fzL l then some (.tup l) else none
  | _ => none
def blsOf : List D → Option (List Bool)
  | [] => some []
  | .bl b :: l => (blsOf l).map (b :: ·)
  | _ => none
def allD : List D → Option D
  | [.lst _ l] => (blsOf l).map fun bs => .bl (bs.all id)
  | _ => none
def anyD : List D → Option D
  | [.lst _ l] => (blsOf l).map fun bs => .bl (bs.any id)
  | _ => none
def intsOf : List D → Option (List Int)
  | [] => some []
  | .int b :: l => (intsOf l).map (b :: ·)
  | _ => none
def sumD : List D → Option D
  | [.lst _ l] => (intsOf l).map fun bs => .int bs.sum
  | _ => none
theorem one_rep {P : D → V → Prop} {d : D} {xs : List V} (h : Paired P [d] xs) : ∃ v, xs = [v] ∧ P d v := by
  cases h with
  | cons h t => cases t; exact ⟨_, rfl, h⟩
theorem two_rep {P : D → V → Prop} {d e : D} {xs : List V} (h : Paired P [d, e] xs) : ∃ v u, xs = [v, u] ∧ P d v ∧ P e u := by
  cases h with
  | cons h t => cases t with
    | cons h2 t => cases t; exact ⟨_, _, rfl, h, h2⟩
theorem bls_rep {C : KM} {a : Wd} {r : Nat} {p : List Nat} : ∀ {l : List D} {n : Nat} {vs : List V} {bs : List Bool}, blsOf l = some bs → RepL C a r p n vs l → vs = bs.map V.bl
  | [], n, vs, bs, h, q => by simp only [RepL] at q; subst q; cases h; rfl
  | d :: l, n, vs, bs, h, q => by
    simp only [RepL] at q
    obtain ⟨v, us, rfl, q1, q2⟩ := q
    cases d <;> simp only [blsOf] at h <;> (try (cases h; done))
    case bl b =>
      cases hl : blsOf l with
      | none => rw [hl] at h; cases h
      | some cs =>
        rw [hl] at h
        cases h
        rw [rep_bl q1, bls_rep hl q2]; rfl
theorem ints_rep {C : KM} {a : Wd} {r : Nat} {p : List Nat} : ∀ {l : List D} {n : Nat} {vs : List V} {bs : List Int}, intsOf l = some bs → RepL C a r p n vs l → vs = bs.map V.int
  | [], n, vs, bs, h, q => by simp only [RepL] at q; subst q; cases h; rfl
  | d :: l, n, vs, bs, h, q => by
    simp only [RepL] at q
    obtain ⟨v, us, rfl, q1, q2⟩ := q
    cases d <;> simp only [intsOf] at h <;> (try (cases h; done))
    case int b =>
      cases hl : intsOf l with
      | none => rw [hl] at h; cases h
      | some cs =>
        rw [hl] at h
        cases h
        rw [rep_int q1, ints_rep hl q2]; rfl
section
variable {X : Cx} {C : KM} (hC : C.K = X.K)
include hC
theorem call_lenDD : CallR X (.builtin "len") (cD C lenD) := by
  intro pins s σ H xs us Q I r h
  obtain ⟨a, ds, d, rfl, k, ps, hd, q⟩ := h
  match ds, hd with
  | [d1], hd =>
    obtain ⟨v, rfl, r1, p1⟩ := one_rep ps
    cases d1 <;> simp only [lenD] at hd <;> (try (cases hd; done))
    case str z =>
      split at hd
      · rename_i hz; cases hd; cases rep_str p1
        exact call_len pins s σ a.H _ us Q I r ⟨_, _, rfl, ⟨hz, rfl⟩, q _ a (Grow.refl a) k (by simp [Rep])⟩
      · cases hd
    case lst o l =>
      cases hd
      obtain ⟨x1, vs, rfl, h1, h2⟩ := rep_lst k p1
      exact call_len pins s σ a.H _ us Q I r ⟨_, _, rfl, .inl ⟨vs, SqL.of h1, rfl⟩, q _ a (Grow.refl a) k (by simp [Rep, h2.len])⟩
    case tup l =>
      cases hd
      obtain ⟨x1, vs, rfl, h1, h2⟩ := rep_tup k p1
      rw [hC] at h1
      exact call_len pins s σ a.H _ us Q I r ⟨_, _, rfl, .inr ⟨vs, h1, rfl⟩, q _ a (Grow.refl a) k (by simp [Rep, h2.len])⟩
    case scr l =>
      cases hd
      obtain ⟨x1, rfl, h1⟩ := rep_scr k p1
      rw [hC] at h1
      exact call_len pins s σ a.H _ us Q I r ⟨_, _, rfl, .inl ⟨_, h1, rfl⟩, q _ a (Grow.refl a) k (by simp [Rep])⟩
    case dic o ks ws =>
      cases hd
      obtain ⟨x1, ho, kv, vs, rfl, h1, dc, f, hk1, hk2⟩ := rep_dic k p1
      cases dc with
      | dk kvs =>
        have hl : kvs.length = ks.length := by have := hk1.len; simpa using this
        exact call_lenD pins s σ a.H _ us Q I r ⟨x1, kvs, rfl, h1, q _ a (Grow.refl a) k (by simp [Rep, hl])⟩
  | [], hd => simp [lenD] at hd
  | _ :: _ :: _, hd => simp [lenD] at hd
omit hC in
theorem call_absD : CallR X (.builtin "abs") (cD C absD) := by
  intro pins s σ H xs us Q I r h
  obtain ⟨a, ds, d, rfl, k, ps, hd, q⟩ := h
  match ds, hd with
  | [.int i], hd =>
    obtain ⟨v, rfl, r1, p1⟩ := one_rep ps
    simp only [absD] at hd
    cases hd; cases rep_int p1
    exact call_abs pins s σ a.H _ us Q I r ⟨i, rfl, q _ a (Grow.refl a) k (by simp [Rep])⟩
omit hC in
theorem call_intD : CallR X (.type "int") (cD C intD) := by
  intro pins s σ H xs us Q I r h
  obtain ⟨a, ds, d, rfl, k, ps, hd, q⟩ := h
  match ds, hd with
  | [.int i], hd =>
    obtain ⟨v, rfl, r1, p1⟩ := one_rep ps
    simp only [intD] at hd
    cases hd; cases rep_int p1
    exact call_int1 pins s σ a.H _ us Q I r (.inl ⟨i, rfl, q _ a (Grow.refl a) k (by simp [Rep])⟩)
  | [.bl i], hd =>
    obtain ⟨v, rfl, r1, p1⟩ := one_rep ps
    simp only [intD] at hd
    cases hd; cases rep_bl p1
    exact call_int1 pins s σ a.H _ us Q I r (.inr ⟨i, rfl, q _ a (Grow.refl a) k (by simp [Rep])⟩)
omit hC in
theorem call_minD (hc : X.calm = true) : CallR X (.builtin "min") (cD C minD) := by
  intro pins s σ H xs us Q I r h
  obtain ⟨a, ds, d, rfl, k, ps, hd, q⟩ := h
  match ds, hd with
  | [.int i, .int j], hd =>
    obtain ⟨v, w, rfl, ⟨_, p1⟩, ⟨_, p2⟩⟩ := two_rep ps
    simp only [minD] at hd
    cases hd; cases rep_int p1; cases rep_int p2
    exact call_min2 hc pins s σ a.H _ us Q I r ⟨i, j, rfl, q _ a (Grow.refl a) k (by simp [Rep])⟩
omit hC in
theorem call_maxD (hc : X.calm = true) : CallR X (.builtin "max") (cD C maxD) := by
  intro pins s σ H xs us Q I r h
  obtain ⟨a, ds, d, rfl, k, ps, hd, q⟩ := h
  match ds, hd with
  | [.int i, .int j], hd =>
    obtain ⟨v, w, rfl, ⟨_, p1⟩, ⟨_, p2⟩⟩ := two_rep ps
    simp only [maxD] at hd
    cases hd; cases rep_int p1; cases rep_int p2
    exact call_max2 hc pins s σ a.H _ us Q I r ⟨i, j, rfl, q _ a (Grow.refl a) k (by simp [Rep])⟩
omit hC in
theorem call_strD : CallR X (.type "str") (cD C strD) := by
  intro pins s σ H xs us Q I r h
  obtain ⟨a, ds, d, rfl, k, ps, hd, q⟩ := h
  match ds, hd with
  | [.int i], hd =>
    obtain ⟨v, rfl, r1, p1⟩ := one_rep ps
    simp only [strD] at hd
    split at hd
    · rename_i hz; cases hd; cases rep_int p1
      exact call_str_int pins s σ a.H _ us Q I r ⟨i, rfl, hz, q _ a (Grow.refl a) k (by simp [Rep])⟩
    · cases hd
theorem call_listD : CallR X (.type "list") (cD C listD) := by
  intro pins s σ H xs us Q I r h
  obtain ⟨a, ds, d, rfl, k, ps, hd, q⟩ := h
  match ds, hd with
  | [.lst o l], hd =>
    obtain ⟨v, rfl, r1, p1⟩ := one_rep ps
    simp only [listD] at hd
    split at hd
    · rename_i hz; cases hd
      obtain ⟨x1, vs, rfl, h1, h2⟩ := rep_lst k p1
      exact call_list_of pins s σ a.H _ us Q I r ⟨x1, vs, rfl, .inl (SqL.of h1), new_lst k hz h2 q⟩
    · cases hd
  | [.tup l], hd =>
    obtain ⟨v, rfl, r1, p1⟩ := one_rep ps
    simp only [listD] at hd
    split at hd
    · rename_i hz; cases hd
      obtain ⟨x1, vs, rfl, h1, h2⟩ := rep_tup k p1
      rw [hC] at h1
      exact call_list_of pins s σ a.H _ us Q I r ⟨x1, vs, rfl, .inr h1, new_lst k hz h2 q⟩
    · cases hd
  | [.scr l], hd =>
    obtain ⟨v, rfl, r1, p1⟩ := one_rep ps
    simp only [listD] at hd
    cases hd
    obtain ⟨x1, rfl, h1⟩ := rep_scr k p1
    rw [hC] at h1
    exact call_list_of pins s σ a.H _ us Q I r ⟨x1, _, rfl, .inl h1, new_lst k (fzL_ints _) (repL_ints (r := 0) (p := []) _ 0) q⟩
theorem call_tupleD : CallR X (.type "tuple") (cD C tupleD) := by
  intro pins s σ H xs us Q I r h
  obtain ⟨a, ds, d, rfl, k, ps, hd, q⟩ := h
  match ds, hd with
  | [.lst o l], hd =>
    obtain ⟨v, rfl, r1, p1⟩ := one_rep ps
    simp only [tupleD] at hd
    split at hd
    · rename_i hz; cases hd
      obtain ⟨x1, vs, rfl, h1, h2⟩ := rep_lst k p1
      exact call_tupleX pins s σ a.H _ us Q I r ⟨x1, vs, rfl, SqL.of h1, new_tup k hz h2 q⟩
    · cases hd
  | [.tup l], hd =>
    obtain ⟨v, rfl, r1, p1⟩ := one_rep ps
    simp only [tupleD] at hd
    split at hd
    · rename_i hz; cases hd
      have p0 := p1.step (s := 0) (q := []) k (Step.refl a) (show fz (.tup l) = true by simpa [fz] using hz)
      obtain ⟨x1, vs, rfl, h1, h2⟩ := rep_tup k p1
      rw [hC] at h1
      exact call_tuple_of pins s σ a.H _ us Q I r ⟨x1, vs, rfl, .inr ⟨h1, q _ a (Grow.refl a) k p0⟩⟩
    · cases hd
omit hC in
theorem call_allD (hc : X.calm = true) : CallR X (.builtin "all") (cD C allD) := by
  intro pins s σ H xs us Q I r h
  obtain ⟨a, ds, d, rfl, k, ps, hd, q⟩ := h
  match ds, hd with
  | [.lst o l], hd =>
    obtain ⟨v, rfl, r1, p1⟩ := one_rep ps
    simp only [allD] at hd
    cases hb : blsOf l with
    | none => rw [hb] at hd; cases hd
    | some bs =>
      rw [hb] at hd; cases hd
      obtain ⟨x1, vs, rfl, h1, h2⟩ := rep_lst k p1
      have e := bls_rep hb h2
      subst e
      exact cr_all hc pins s σ a.H _ us Q I r ⟨x1, bs, rfl, SqL.of h1, q _ a (Grow.refl a) k (by simp [Rep])⟩
omit hC in
theorem call_anyD (hc : X.calm = true) : CallR X (.builtin "any") (cD C anyD) := by
  intro pins s σ H xs us Q I r h
  obtain ⟨a, ds, d, rfl, k, ps, hd, q⟩ := h
  match ds, hd with
  | [.lst o l], hd =>
    obtain ⟨v, rfl, r1, p1⟩ := one_rep ps
    simp only [anyD] at hd
    cases hb : blsOf l with
    | none => rw [hb] at hd; cases hd
    | some bs =>
      rw [hb] at hd; cases hd
      obtain ⟨x1, vs, rfl, h1, h2⟩ := rep_lst k p1
      have e := bls_rep hb h2
      subst e
      exact cr_any hc pins s σ a.H _ us Q I r ⟨x1, bs, rfl, SqL.of h1, q _ a (Grow.refl a) k (by simp [Rep])⟩
omit hC in
theorem call_sumD (hc : X.calm = true) : CallR X (.builtin "sum") (cD C sumD) := by
  intro pins s σ H xs us Q I r h
  obtain ⟨a, ds, d, rfl, k, ps, hd, q⟩ := h
  match ds, hd with
  | [.lst o l], hd =>
    obtain ⟨v, rfl, r1, p1⟩ := one_rep ps
    simp only [sumD] at hd
    cases hb : intsOf l with
    | none => rw [hb] at hd; cases hd
    | some bs =>
      rw [hb] at hd; cases hd
      obtain ⟨x1, vs, rfl, h1, h2⟩ := rep_lst k p1
      have e := ints_rep hb h2
      subst e
      exact cr_sum hc pins s σ a.H _ us Q I r ⟨x1, bs, rfl, SqL.of h1, q _ a (Grow.refl a) k (by simp [Rep])⟩
end
end Mi
namespace Mi
open PySem PySem.Spec PyProof.Rows L2

/-! ### statements' ends -/
inductive FlowD where
  | next | ret (d : D) | brk | cont
section
variable (G : Gm) (W : WX)
def PostS (D : Ends) (a : Wd) (r : Res (FlowD × EnvD)) : Prop :=
  match r with
  | .ok (.next, e) => ∀ b σ, Step a b → RelE G b σ e → D.nx σ b.H
  | .ok (.brk, e) => ∀ b σ, Step a b → RelE G b σ e → D.bk σ b.H
  | .ok (.cont, e) => ∀ b σ, Step a b → RelE G b σ e → D.ct σ b.H
  | .ok (.ret d, e) => ∀ b σ v, Step a b → RelE G b σ e → Rep G.C b 0 [] v d → D.rt v b.H
  | .exc x e => ∀ b σ cls dd, Step a b → RelE G b σ e → ExcRep G.C b x cls dd → W cls dd σ b.H
  | .bad => False
def tS (m : EM FlowD) : TS := fun D σ H => ∃ a env, a.H = H ∧ RelE G a σ env ∧ PostS G W D a (m env)
end
section
variable {G : Gm} {W : WX} {D : Ends} {a b : Wd} {σ : L2.St} {env : EnvD}
theorem PostS.step {r : Res (FlowD × EnvD)} (st : Step a b) (h : PostS G W D a r) : PostS G W D b r := by
  match r, h with
  | .ok (.next, e), h => exact fun c σ s => h c σ (st.trans s)
  | .ok (.brk, e), h => exact fun c σ s => h c σ (st.trans s)
  | .ok (.cont, e), h => exact fun c σ s => h c σ (st.trans s)
  | .ok (.ret d, e), h => exact fun c σ v s => h c σ v (st.trans s)
  | .exc x e, h => exact fun c σ cls dd s => h c σ cls dd (st.trans s)
  | .bad, h => exact h
/- an expression ahead of the rest of a statement -/
theorem PostS.ahead {α : Type} {m : Res (α × EnvD)} {k : α × EnvD → Res (FlowD × EnvD)} (h : PostS G W D a (m.bind k)) : PostR G W σ a m fun x e b => PostS G W D b (k (x, e)) := by
  cases m with
  | ok x => exact fun c s _ => PostS.step s h
  | exc x e => exact fun c cls dd s r q => h c σ cls dd s r q
  | bad => exact h
theorem tE_ofS {m : EM Mi.D} {k : Mi.D × EnvD → Res (FlowD × EnvD)} {R : VK} (rel : RelE G a σ env) (h : PostS G W D a ((m env).bind k))
    (hq : ∀ x e b v, Step a b → RelE G b σ e → Rep G.C b 0 [] v x → PostS G W D b (k (x, e)) → R v b.H) : tE G W m σ a.H R :=
  ⟨a, env, rfl, rel, h.ahead.imp fun x e b s r p v q => hq x e b v s r q p⟩
theorem tArg_ofS {m : EM Arg} {k : Arg × EnvD → Res (FlowD × EnvD)} {R : VK} (rel : RelE G a σ env) (h : PostS G W D a ((m env).bind k))
    (hq : ∀ x e b v, Step a b → RelE G b σ e → ArgRep G.C b σ x v → PostS G W D b (k (x, e)) → R v b.H) : tArg G W m σ a.H R :=
  ⟨a, env, rfl, rel, h.ahead.imp fun x e b s r p v q => hq x e b v s r q p⟩
theorem tArgs_ofS {m : EM (List Arg)} {k : List Arg × EnvD → Res (FlowD × EnvD)} {R : List V → Hp → Prop} (rel : RelE G a σ env) (h : PostS G W D a ((m env).bind k))
    (hq : ∀ x e b v, Step a b → RelE G b σ e → Paired (ArgRep G.C b σ) x v → PostS G W D b (k (x, e)) → R v b.H) : tArgs G W m σ a.H R :=
  ⟨a, env, rfl, rel, h.ahead.imp fun x e b s r p v q => hq x e b v s r q p⟩
theorem tT_ofS {m : EM Bool} {k : Bool × EnvD → Res (FlowD × EnvD)} {R : Bool → Hp → Prop} (rel : RelE G a σ env) (h : PostS G W D a ((m env).bind k))
    (hq : ∀ x e b, Step a b → RelE G b σ e → PostS G W D b (k (x, e)) → R x b.H) : tT G W m σ a.H R :=
  ⟨a, env, rfl, rel, h.ahead.imp fun x e b s r p => hq x e b s r p⟩
end
/- frozen data put into a slot -/
theorem RelE.setz {G : Gm} {a : Wd} {σ : L2.St} {env : EnvD} (r : RelE G a σ env) {i : Nat} {d : D} {v : V} {s : Nat} {p : List Nat} (hi : i ∉ G.io) (z : fz d = true) (h : Rep G.C a s p v d) : RelE G a (σ.set i (some v)) (env.set i (some d)) := by
  refine ⟨r.ok, by rw [List.length_set, List.length_set]; exact r.len, fun j e hj => ?_, fun j hj w hw => ?_⟩
  · by_cases ij : i = j
    · subst ij
      have hi : i < env.length := by
        by_cases q : i < env.length
        · exact q
        · rw [List.getElem?_eq_none (by rw [List.length_set]; omega)] at hj; cases hj
      rw [List.getElem?_set_self hi] at hj
      cases hj
      exact ⟨v, List.getElem?_set_self (by rw [← r.len]; exact hi), h.step r.ok (Step.refl a) z⟩
    · rw [List.getElem?_set_ne ij] at hj
      obtain ⟨v', e', q⟩ := r.slot j e hj
      exact ⟨v', by rw [List.getElem?_set_ne ij]; exact e', q⟩
  · have ne : i ≠ j := by rintro rfl; exact hi hj
    rw [List.getElem?_set_ne ne]
    exact r.prm j hj w hw
/- a temp put into a slot -/
theorem RelE.sett {G : Gm} {a : Wd} {σ : L2.St} {env : EnvD} (r : RelE G a σ env) {i : Nat} {d : D} {v : V} (hi : i ∉ G.io) (h : Rep G.C a 0 [] v d) : RelE G (mvW a 0 (i + 1)) (σ.set i (some v)) (env.set i (some d)) := by
  refine ⟨mvW_ok r.ok, by rw [List.length_set, List.length_set]; exact r.len, fun j e hj => ?_, fun j hj w hw => ?_⟩
  · by_cases ij : i = j
    · subst ij
      have hi : i < env.length := by
        by_cases q : i < env.length
        · exact q
        · rw [List.getElem?_eq_none (by rw [List.length_set]; omega)] at hj; cases hj
      rw [List.getElem?_set_self hi] at hj
      cases hj
      exact ⟨v, List.getElem?_set_self (by rw [← r.len]; exact hi), mvW_rep h⟩
    · rw [List.getElem?_set_ne ij] at hj
      obtain ⟨v', e', q⟩ := r.slot j e hj
      exact ⟨v', by rw [List.getElem?_set_ne ij]; exact e', mvW_else (Nat.succ_ne_zero j) q⟩
  · have ne : i ≠ j := by rintro rfl; exact hi hj
    rw [List.getElem?_set_ne ne]
    exact r.prm j hj w hw

/-! ### targets -/
inductive Tgt where
  | nm (i : Nat) | tp (ts : List Tgt)
mutual
def mTg : Tgt → D → EnvD → Option EnvD
  | .nm i, d, e => some (e.set i (some d))
  | .tp ts, .tup l, e => mTgs ts l e
  | .tp _, _, _ => none
def mTgs : List Tgt → List D → EnvD → Option EnvD
  | [], [], e => some e
  | t :: ts, d :: ds, e => match mTg t d e with
    | some e1 => mTgs ts ds e1
    | none => none
  | _, _, _ => none
end
mutual
def Tgt.off (io : List Nat) : Tgt → Prop
  | .nm i => i ∉ io
  | .tp ts => Tgt.offs io ts
def Tgt.offs (io : List Nat) : List Tgt → Prop
  | [] => True
  | t :: ts => Tgt.off io t ∧ Tgt.offs io ts
end
mutual
def gT (K : PySem.W.Frag) : Tgt → TG
  | .nm i => gName i
  | .tp ts => gTup K ts.length (gTs K ts)
def gTs (K : PySem.W.Frag) : List Tgt → TGs
  | [] => gNil
  | t :: ts => gCons (gT K t) (gTs K ts)
end
mutual
theorem tg_w {G : Gm} {a : Wd} : ∀ (t : Tgt) {σ : L2.St} {env env' : EnvD} {d : D} {v : V} {s : Nat} {p : List Nat} {Q : L2.St → Hp → Prop}, Tgt.off G.io t → RelE G a σ env → fz d = true → Rep G.C a s p v d → mTg t d env = some env' →
    (∀ σ', RelE G a σ' env' → Q σ' a.H) → gT G.C.K t v σ a.H Q
  | .nm i, σ, env, env', d, v, s, p, Q, hf, rel, z, h, e, q => by
    simp only [mTg] at e
    cases e
    simp only [gT]
    simp only [Tgt.off] at hf
    exact q _ (rel.setz hf z h)
  | .tp ts, σ, env, env', d, v, s, p, Q, hf, rel, z, h, e, q => by
    cases d <;> simp only [mTg] at e <;> (try (cases e; done))
    case tup l =>
      obtain ⟨x, vs, rfl, h1, h2⟩ := rep_tup rel.ok h
      simp only [gT]
      have z : fzL l = true := by simpa [fz] using z
      simp only [Tgt.off] at hf
      refine ⟨x, vs, rfl, h1, ?_, tgs_w ts hf rel z h2 e q⟩
      rw [h2.len]; exact (tgs_len ts l env env' e).symm
theorem tgs_w {G : Gm} {a : Wd} : ∀ (ts : List Tgt) {σ : L2.St} {env env' : EnvD} {l : List D} {vs : List V} {s n : Nat} {p : List Nat} {Q : L2.St → Hp → Prop}, Tgt.offs G.io ts → RelE G a σ env → fzL l = true → RepL G.C a s p n vs l → mTgs ts l env = some env' →
    (∀ σ', RelE G a σ' env' → Q σ' a.H) → gTs G.C.K ts vs σ a.H Q
  | [], σ, env, env', l, vs, s, n, p, Q, hf, rel, z, h, e, q => by
    cases l with
    | nil =>
      simp only [mTgs] at e
      cases e
      simp only [RepL] at h
      simp only [gTs]
      exact ⟨h, q σ rel⟩
    | cons d l => simp [mTgs] at e
  | t :: ts, σ, env, env', l, vs, s, n, p, Q, hf, rel, z, h, e, q => by
    cases l with
    | nil => simp [mTgs] at e
    | cons d l =>
      simp only [mTgs] at e
      simp only [fzL, Bool.and_eq_true] at z
      simp only [RepL] at h
      simp only [Tgt.offs] at hf
      obtain ⟨v, us, rfl, h1, h2⟩ := h
      cases e1 : mTg t d env with
      | none => rw [e1] at e; cases e
      | some e2 =>
        rw [e1] at e
        simp only [gTs]
        exact ⟨v, us, rfl, tg_w t hf.1 rel z.1 h1 e1 fun σ' rel' => tgs_w ts hf.2 rel' z.2 h2 e q⟩
theorem tgs_len : ∀ (ts : List Tgt) (l : List D) (e e' : EnvD), mTgs ts l e = some e' → ts.length = l.length
  | [], [], _, _, _ => rfl
  | [], _ :: _, _, _, h => by simp [mTgs] at h
  | _ :: _, [], _, _, h => by simp [mTgs] at h
  | t :: ts, d :: l, e, e', h => by
    simp only [mTgs] at h
    cases e1 : mTg t d e with
    | none => rw [e1] at h; cases h
    | some e2 => rw [e1] at h; rw [List.length_cons, List.length_cons, tgs_len ts l e2 e' h]
end

/-! ### what is walked -/
/- turn by turn the items ds -/
def ItRep (C : KM) (a : Wd) (ds : List D) (J : It) : Prop := ∀ c, Ok c → Step a c → (∀ i d, ds[i]? = some d → J.go i c.H ∧ ∀ x H', J.yld i c.H x H' → ∃ c', c'.H = H' ∧ Grow c c' ∧ Ok c' ∧ Rep C c' 0 [] x d) ∧ J.stop ds.length c.H
section
variable (G : Gm) (W : WX)
def tI (m : EM (List D)) : TI := fun σ H R => ∃ a env, a.H = H ∧ RelE G a σ env ∧ PostR G W σ a (m env) fun ds _ b => fzL ds = true ∧ ∀ J, ItRep G.C b ds J → R J b.H
end
theorem PI.weak {X : Cx} {tg e : Expr} {t u : TI} (h : PI X tg e t) (w : ∀ σ H R, u σ H R → t σ H R) : PI X tg e u := ⟨fun pins s σ H R I q => h.run pins s σ H R I (w σ H R q)⟩
/- range(..), of its bounds -/
def rngD (lo : Int) (n : Nat) : List D := (List.range n).map fun (i : Nat) => .int (lo + (i : Int))
def mIt (ma : EM (List Arg)) (f : List D → Option (List D)) : EM (List D) := fun env => (ma env).bind fun (xs, e) => match Arg.gets e xs with
  | some ds => match f ds with
    | some l => .ok (l, e)
    | none => .bad
  | none => .bad
def rng1 : List D → Option (List D)
  | [.int n] => if n < 2 ^ 62 ∧ -(2 ^ 62) ≤ n then some (rngD 0 n.toNat) else none
  | _ => none
def rng2 : List D → Option (List D)
  | [.int i, .int j] => if -(2 ^ 62) ≤ i ∧ i < 2 ^ 62 ∧ -(2 ^ 62) ≤ j ∧ j < 2 ^ 62 then some (rngD i (j - i).toNat) else none
  | _ => none
/- a list, a tuple, a text, frozen -/
def seqI : List D → Option (List D)
  | [.lst false l] => if fzL l then some l else none
  | [.tup l] => if fzL l then some l else none
  | [.scr l] => some (l.map .int)
  | [.str s] => some (s.cps.toList.map fun c => .str ⟨#[c]⟩)
  | _ => none
theorem fzL_map {α : Type} (f : α → D) (h : ∀ x, fz (f x) = true) (l : List α) : fzL (l.map f) = true := fzL_all fun d hd => by
  obtain ⟨x, _, rfl⟩ := List.mem_map.mp hd
  exact h x
theorem it_rng {C : KM} {a : Wd} (lo : Int) (n : Nat) : ItRep C a (rngD lo n) (Itr lo n) := fun c ok st => by
  refine ⟨fun i d e => ?_, by simp [rngD, Itr]⟩
  have hi : i < n := by have := (List.getElem?_eq_some_iff.mp e).1; simpa [rngD] using this
  refine ⟨hi, fun x H' y => ?_⟩
  obtain ⟨rfl, rfl⟩ := y
  have e2 : d = .int (lo + (i : Int)) := by
    rw [rngD, List.getElem?_map, List.getElem?_range hi] at e
    exact (Option.some.inj e).symm
  subst e2
  exact ⟨c, rfl, Grow.refl c, ok, by simp [Rep]⟩
theorem it_lst {C : KM} {a : Wd} {l : List D} {x : Addr} {vs : List V} {r n : Nat} {p : List Nat} (k : Ok a) (z : fzL l = true) (hx : a.F x = some (.lst vs)) (h : RepL C a r p n vs l) : ItRep C a l (Itl C.K x) := fun c ok st => by
  have hc : SqL C.K c.H x vs := SqL.of (ok.sub _ _ (st.f k hx))
  refine ⟨fun i d e => ?_, ⟨vs, hc, by rw [h.len]; exact Nat.le_refl _⟩⟩
  obtain ⟨v, h1, h2⟩ := h.get e
  refine ⟨⟨vs, v, hc, h1⟩, fun y H' q => ?_⟩
  obtain ⟨rfl, q⟩ := q
  have e2 := q vs hc
  rw [h1] at e2; cases e2
  exact ⟨c, rfl, Grow.refl c, ok, h2.step k st (fzL_mem z d (List.mem_of_getElem? e))⟩
theorem it_scr {C : KM} {a : Wd} {l : List Int} {x : Addr} (k : Ok a) (hx : SqL C.K a.F x (l.map V.int)) : ItRep C a (l.map .int) (Itl C.K x) := fun c ok st => by
  have hc : SqL C.K c.H x (l.map V.int) := sql_mono (fun y o h => ok.sub _ _ (st.f k h)) hx
  refine ⟨fun i d e => ?_, ⟨_, hc, by simp⟩⟩
  rw [List.getElem?_map] at e
  cases h1 : l[i]? with
  | none => rw [h1] at e; cases e
  | some z =>
    rw [h1] at e; cases e
    have h2 : (l.map V.int)[i]? = some (.int z) := by rw [List.getElem?_map, h1]; rfl
    refine ⟨⟨_, _, hc, h2⟩, fun y H' q => ?_⟩
    obtain ⟨rfl, q⟩ := q
    have e2 := q _ hc
    rw [h2] at e2; cases e2
    exact ⟨c, rfl, Grow.refl c, ok, by simp [Rep]⟩
theorem it_tup {C : KM} {a : Wd} {l : List D} {x : Addr} {vs : List V} {r n : Nat} {p : List Nat} (k : Ok a) (z : fzL l = true) (hx : SqT C.K a.F x vs) (h : RepL C a r p n vs l) : ItRep C a l (Itt C.K x) := fun c ok st => by
  have hc : SqT C.K c.H x vs := sqt_mono (fun y o h => ok.sub _ _ (st.f k h)) hx
  refine ⟨fun i d e => ?_, ⟨vs, hc, by rw [h.len]; exact Nat.le_refl _⟩⟩
  obtain ⟨v, h1, h2⟩ := h.get e
  refine ⟨⟨vs, v, hc, h1⟩, fun y H' q => ?_⟩
  obtain ⟨rfl, q⟩ := q
  have e2 := q vs hc
  rw [h1] at e2; cases e2
  exact ⟨c, rfl, Grow.refl c, ok, h2.step k st (fzL_mem z d (List.mem_of_getElem? e))⟩
theorem it_str {C : KM} {a : Wd} (s : Str) : ItRep C a (s.cps.toList.map fun c => .str ⟨#[c]⟩) (Its s) := fun c ok st => by
  refine ⟨fun i d e => ?_, by simp [Its]⟩
  rw [List.getElem?_map] at e
  cases h1 : s.cps.toList[i]? with
  | none => rw [h1] at e; cases e
  | some z =>
    rw [h1] at e; cases e
    have h2 : s.cps[i]? = some z := by simpa using h1
    refine ⟨(Array.getElem?_eq_some_iff.mp h2).1, fun y H' q => ?_⟩
    obtain ⟨rfl, c', q, rfl⟩ := q
    rw [h2] at q; cases q
    exact ⟨c, rfl, Grow.refl c, ok, by simp [Rep]⟩
section
variable {G : Gm} {W : WX} {σ : L2.St} {H : Hp} {R : It → Hp → Prop} {ma : EM (List Arg)}
theorem it_of {f : List D → Option (List D)} {S : List V → Hp → Prop} (h : tI G W (mIt ma f) σ H R)
    (hq : ∀ b ds vs l, Ok b → Paired (fun d v => ∃ r, Rep G.C b r [] v d) ds vs → f ds = some l → (∀ J, ItRep G.C b l J → R J b.H) → S vs b.H) : tArgs G W ma σ H S := by
  obtain ⟨a, env, rfl, rel, post⟩ := h
  refine ⟨a, env, rfl, rel, post.bind.imp fun xs e b s r p vs q => ?_⟩
  dsimp only at p
  cases hx : Arg.gets e xs with
  | none => rw [hx] at p; exact (show False from p).elim
  | some ds =>
    rw [hx] at p
    dsimp only at p
    cases hf : f ds with
    | none => rw [hf] at p; exact (show False from p).elim
    | some l =>
      rw [hf] at p
      exact hq b ds vs l r.ok (gets_rep r q hx) hf (p b (Step.refl b) r).2
theorem rng1_w (h : tI G W (mIt ma rng1) σ H R) : iRng1 (tArgs G W ma) σ H R := it_of h fun b ds vs l ok ps hf q => by
  match ds, hf with
  | [.int n], hf =>
    obtain ⟨v, rfl, r1, p1⟩ := one_rep ps
    cases rep_int p1
    simp only [rng1] at hf
    split at hf
    · rename_i hz; cases hf
      exact ⟨n, rfl, hz.2, hz.1, q _ (it_rng 0 n.toNat)⟩
    · cases hf
theorem rng2_w (h : tI G W (mIt ma rng2) σ H R) : iRng2 (tArgs G W ma) σ H R := it_of h fun b ds vs l ok ps hf q => by
  match ds, hf with
  | [.int n, .int m], hf =>
    obtain ⟨v, w, rfl, ⟨r1, p1⟩, ⟨r2, p2⟩⟩ := two_rep ps
    cases rep_int p1; cases rep_int p2
    simp only [rng2] at hf
    split at hf
    · rename_i hz; cases hf
      exact ⟨n, m, rfl, hz, q _ (it_rng n (m - n).toNat)⟩
    · cases hf
end
/- one value walked: list, tuple, text -/
def mIt1 (ma : EM Arg) : EM (List D) := fun env => (ma env).bind fun (x, e) => match x.get e with
  | some d => match seqI [d] with
    | some l => .ok (l, e)
    | none => .bad
  | none => .bad
theorem pi_or {X : Cx} {tg e : Expr} {t u : TI} (h : PI X tg e t) (g : PI X tg e u) : PI X tg e (fun σ H R => t σ H R ∨ u σ H R) := ⟨fun pins s σ H R I q => by
  rcases q with q | q
  · exact h.run pins s σ H R I q
  · exact g.run pins s σ H R I q⟩
theorem pe_or2 {X : Cx} {e : Expr} {t u : TE} (h : PE X e t) (g : PE X e u) : PE X e (fun σ H R => t σ H R ∨ u σ H R) := ⟨fun pins s σ H R I q => by
  rcases q with q | q
  · exact h.run pins s σ H R I q
  · exact g.run pins s σ H R I q⟩
theorem it1_w {G : Gm} {W : WX} {σ : L2.St} {H : Hp} {R : It → Hp → Prop} {ma : EM Arg} (h : tI G W (mIt1 ma) σ H R) :
    iList G.C.K (tArg G W ma) σ H R ∨ (iTup G.C.K (tArg G W ma) σ H R ∨ iStr (tArg G W ma) σ H R) := by
  obtain ⟨a, env, rfl, rel, post⟩ := h
  cases hm : ma env with
  | bad => unfold mIt1 at post; rw [hm] at post; exact (show False from post).elim
  | exc x e =>
    refine .inl ⟨a, env, rfl, rel, ?_⟩
    rw [hm]
    have post' := post
    unfold mIt1 at post'
    rw [hm] at post'
    exact post'
  | ok xe =>
    obtain ⟨x, e⟩ := xe
    have post' := post
    unfold mIt1 at post'
    rw [hm] at post'
    dsimp only [Res.bind] at post'
    cases hx : x.get e with
    | none => rw [hx] at post'; exact (show False from post').elim
    | some d =>
      rw [hx] at post'
      dsimp only at post'
      have mk : ∀ {S : VK}, (∀ b v, Step a b → RelE G b σ e → ArgRep G.C b σ x v → S v b.H) → tArg G W ma σ a.H S := fun {S} q => ⟨a, env, rfl, rel, by rw [hm]; exact fun b s r v ar => q b v s r ar⟩
      cases d <;> simp only [seqI] at post' <;> (try exact (show False from post').elim)
      case str z =>
        refine .inr (.inr (mk fun b v s r ar => ?_))
        obtain ⟨r1, p1⟩ := ar.rep r hx
        cases rep_str p1
        exact ⟨z, rfl, (post' b s r).2 _ (it_str z)⟩
      case scr l =>
        refine .inl (mk fun b v s r ar => ?_)
        obtain ⟨r1, p1⟩ := ar.rep r hx
        have p1' := p1
        simp only [Rep] at p1'
        obtain ⟨y, rfl, hy⟩ := p1'
        exact ⟨y, rfl, ⟨_, sql_mono r.ok.sub hy⟩, (post' b s r).2 _ (it_scr r.ok hy)⟩
      case tup l =>
        split at post'
        · rename_i z hz
          split at hz
          · rename_i fl; cases hz
            refine .inr (.inl (mk fun b v s r ar => ?_))
            obtain ⟨r1, p1⟩ := ar.rep r hx
            have p1' := p1
            simp only [Rep] at p1'
            obtain ⟨y, vs, rfl, hy, hl⟩ := p1'
            exact ⟨y, rfl, ⟨_, sqt_mono r.ok.sub hy.sq⟩, (post' b s r).2 _ (it_tup r.ok fl hy.sq hl)⟩
          · cases hz
        · exact (show False from post').elim
      case lst o l =>
        cases o with
        | true => simp only [seqI] at post'; exact (show False from post').elim
        | false =>
          simp only [seqI] at post'
          split at post'
          · rename_i z hz
            split at hz
            · rename_i fl; cases hz
              refine .inl (mk fun b v s r ar => ?_)
              obtain ⟨r1, p1⟩ := ar.rep r hx
              have p1' := p1
              simp only [Rep] at p1'
              obtain ⟨y, vs, rfl, hy, hl⟩ := p1'
              rw [if_neg Bool.false_ne_true] at hy
              exact ⟨y, rfl, ⟨_, SqL.of (r.ok.sub _ _ hy.1)⟩, (post' b s r).2 _ (it_lst r.ok fl hy.1 hl)⟩
            · cases hz
          · exact (show False from post').elim
end Mi
namespace Mi
open PySem PySem.Spec PyProof.Rows L2

/-! ### displays -/
theorem paired_repL {C : KM} {a : Wd} : ∀ {ds : List D} {vs : List V} {n : Nat}, fzL ds = true → Paired (fun d v => ∃ r, Rep C a r [] v d) ds vs → RepL C a 0 [] n vs ds
  | _, _, n, _, .nil => by simp [RepL]
  | d :: ds, v :: vs, n, z, .cons h t => by
    simp only [fzL, Bool.and_eq_true] at z
    obtain ⟨r, h⟩ := h
    exact ⟨v, vs, rfl, Rep.fz (fun _ _ e => e) d _ _ v z.1 h, paired_repL z.2 t⟩
def mTup (ma : EM (List Arg)) : EM D := fun env => (ma env).bind fun (xs, e) => match Arg.gets e xs with
  | some ds => if fzL ds = true ∧ ds.length ≤ 1000 then .ok (.tup ds, e) else .bad
  | none => .bad
def mLst (ma : EM (List Arg)) : EM D := fun env => (ma env).bind fun (xs, e) => match Arg.gets e xs with
  | some ds => if fzL ds = true ∧ ds.length ≤ 1000 then .ok (.lst true ds, e) else .bad
  | none => .bad
theorem sz1000 {n : Nat} (h : n ≤ 1000) : n ≤ sizeLine := Nat.le_of_lt (small1000 h)
theorem plen {α β : Type} {P : α → β → Prop} : ∀ {l : List α} {m : List β}, Paired P l m → l.length = m.length
  | _, _, .nil => rfl
  | _, _, .cons _ t => by rw [List.length_cons, List.length_cons, plen t]
section
variable {G : Gm} {W : WX} {σ : L2.St} {H : Hp} {Q : VK} {ma : EM (List Arg)}
theorem tup_w (h : tE G W (mTup ma) σ H Q) : tTupX (tArgs G W ma) σ H Q := by
  obtain ⟨a, env, rfl, rel, post⟩ := h
  refine tArgs_of rel post fun xs e b vs s r ps p => ?_
  dsimp only at p
  cases hx : Arg.gets e xs with
  | none => rw [hx] at p; exact (show False from p).elim
  | some ds =>
    rw [hx] at p
    dsimp only at p
    split at p
    · rename_i z
      have g := gets_rep r ps hx
      refine ⟨by rw [← plen g]; exact sz1000 z.2, new_tup r.ok z.1 (paired_repL (n := 0) z.1 g) fun y c gr ok rp => p c gr.step (r.grow gr ok) y rp⟩
    · exact (show False from p).elim
theorem lst_w (h : tE G W (mLst ma) σ H Q) : tLst (tArgs G W ma) σ H Q := by
  obtain ⟨a, env, rfl, rel, post⟩ := h
  refine tArgs_of rel post fun xs e b vs s r ps p => ?_
  dsimp only at p
  cases hx : Arg.gets e xs with
  | none => rw [hx] at p; exact (show False from p).elim
  | some ds =>
    rw [hx] at p
    dsimp only at p
    split at p
    · rename_i z
      have g := gets_rep r ps hx
      refine ⟨by rw [← plen g]; exact sz1000 z.2, new_lst r.ok z.1 (paired_repL (n := 0) z.1 g) fun y c gr ok rp => p c gr.step (r.grow gr ok) y rp⟩
    · exact (show False from p).elim
/- {} -/
def mDic0 : EM D := fun env => .ok (.dic true [] [], env)
theorem dic0_w (h : tE G W mDic0 σ H Q) : tDNewK σ H Q := by
  obtain ⟨a, env, rfl, rel, post⟩ := h
  exact new_dic (kvs := []) rel.ok rfl rfl (r := 0) (p := []) (by simp [RepL]) (by simp [RepL]) fun y c gr ok rp => post c gr.step (rel.grow gr ok) y rp
end

/-! ### calls of defs -/
def OutRep (C : KM) (b : Wd) (vs : List V) (outs : EnvD) : Prop := ∀ i d, outs[i]? = some (some d) → ∃ v, vs[i]? = some v ∧ Rep C b (i + 1) [] v d
def spD (C : KM) (g : List D → Res (D × EnvD)) : Sp := fun vs H Q E => ∃ (a : Wd) (ds : List D), a.H = H ∧ Ok a ∧ ds.length = vs.length ∧ (∀ i d, ds[i]? = some d → ∃ v, vs[i]? = some v ∧ Rep C a (i + 1) [] v d) ∧
  match g ds with
  | .ok (d, outs) => ∀ b v, Step a b → Ok b → OutRep C b vs outs → Rep C b 0 [] v d → Q v b.H
  | .exc x outs => ∀ b cls dd, Step a b → Ok b → OutRep C b vs outs → ExcRep C b x cls dd → E cls dd b.H
  | .bad => False
def findP : List Arg → List D → Nat → Nat → Option Nat
  | .var i :: xs, d :: ds, s, k => if i + 1 = s ∧ fz d = false then some (k + 1) else findP xs ds s (k + 1)
  | .val _ :: xs, _ :: ds, s, k => findP xs ds s (k + 1)
  | _, _, _, _ => none
def ownVars : List Arg → List D → List Nat
  | .var i :: xs, d :: ds => if fz d = false then i :: ownVars xs ds else ownVars xs ds
  | .val _ :: xs, _ :: ds => ownVars xs ds
  | _, _ => []
def backP (xs : List Arg) (ds : List D) (k : Nat) : Option Nat := match xs[k]?, ds[k]? with
  | some (.var i), some d => if fz d = false then some (i + 1) else none
  | _, _ => none
def putBack : List Arg → List D → EnvD → EnvD → EnvD
  | .var i :: xs, d :: ds, outs, env => if fz d = true then putBack xs ds outs.tail env else putBack xs ds outs.tail (env.set i (outs.headD none))
  | .val _ :: xs, _ :: ds, outs, env => putBack xs ds outs.tail env
  | _, _, _, env => env
def mCallR (g : List D → Res (D × EnvD)) (xs : List Arg) (e : EnvD) : Res (D × EnvD) := match Arg.gets e xs with
  | none => .bad
  | some ds => if (ownVars xs ds).Nodup then
      match g ds with
      | .ok (d, outs) => .ok (d, putBack xs ds outs e)
      | .exc x outs => .exc x (putBack xs ds outs e)
      | .bad => .bad
    else .bad
def mCall (g : List D → Res (D × EnvD)) (ma : EM (List Arg)) : EM D := fun env => (ma env).bind fun (xs, e) => mCallR g xs e
theorem findP_some : ∀ {xs : List Arg} {ds : List D} {s k m : Nat}, findP xs ds s k = some m → ∃ j i d, m = k + j + 1 ∧ xs[j]? = some (.var i) ∧ ds[j]? = some d ∧ fz d = false ∧ s = i + 1
  | .var i :: xs, d :: ds, s, k, m, h => by
    simp only [findP] at h
    split at h
    · rename_i z; cases h
      exact ⟨0, i, d, rfl, rfl, rfl, z.2, z.1.symm⟩
    · obtain ⟨j, i', d', h1, h2, h3, h4, h5⟩ := findP_some h
      exact ⟨j + 1, i', d', by omega, by simpa using h2, by simpa using h3, h4, h5⟩
  | .val _ :: xs, _ :: ds, s, k, m, h => by
    simp only [findP] at h
    obtain ⟨j, i', d', h1, h2, h3, h4, h5⟩ := findP_some h
    exact ⟨j + 1, i', d', by omega, by simpa using h2, by simpa using h3, h4, h5⟩
  | [], _, s, k, m, h => by simp [findP] at h
  | .var _ :: _, [], s, k, m, h => by simp [findP] at h
  | .val _ :: _, [], s, k, m, h => by simp [findP] at h
theorem ownVars_mem : ∀ {xs : List Arg} {ds : List D} {j i : Nat} {d : D}, xs[j]? = some (.var i) → ds[j]? = some d → fz d = false → i ∈ ownVars xs ds
  | x :: xs, e :: ds, 0, i, d, h1, h2, h3 => by
    simp at h1 h2; subst h1 h2
    simp [ownVars, h3]
  | .var i' :: xs, e :: ds, j + 1, i, d, h1, h2, h3 => by
    simp only [ownVars]
    have ih := ownVars_mem (xs := xs) (ds := ds) (j := j) (by simpa using h1) (by simpa using h2) h3
    split
    · exact List.mem_cons_of_mem _ ih
    · exact ih
  | .val _ :: xs, e :: ds, j + 1, i, d, h1, h2, h3 => by
    simp only [ownVars]
    exact ownVars_mem (xs := xs) (ds := ds) (j := j) (by simpa using h1) (by simpa using h2) h3
  | [], _, j, i, d, h1, h2, h3 => by simp at h1
  | _ :: _, [], j, i, d, h1, h2, h3 => by simp at h2
theorem findP_at : ∀ {xs : List Arg} {ds : List D} {j i k : Nat} {d : D}, (ownVars xs ds).Nodup → xs[j]? = some (.var i) → ds[j]? = some d → fz d = false → findP xs ds (i + 1) k = some (k + j + 1)
  | .var i' :: xs, e :: ds, 0, i, k, d, nd, h1, h2, h3 => by
    simp at h1 h2; subst h1 h2
    simp [findP, h3]
  | .val _ :: xs, e :: ds, 0, i, k, d, nd, h1, h2, h3 => by simp at h1
  | .var i' :: xs, e :: ds, j + 1, i, k, d, nd, h1, h2, h3 => by
    simp only [findP]
    have h1 : xs[j]? = some (.var i) := by simpa using h1
    have h2 : ds[j]? = some d := by simpa using h2
    have hm := ownVars_mem h1 h2 h3
    rw [if_neg (fun z => by
      have e1 : i' = i := Nat.succ.inj z.1
      subst e1
      simp only [ownVars, if_pos z.2] at nd
      exact (List.nodup_cons.mp nd).1 hm)]
    have nd' : (ownVars xs ds).Nodup := by
      simp only [ownVars] at nd
      split at nd
      · exact (List.nodup_cons.mp nd).2
      · exact nd
    rw [findP_at (k := k + 1) nd' h1 h2 h3]
    congr 1; omega
  | .val _ :: xs, e :: ds, j + 1, i, k, d, nd, h1, h2, h3 => by
    simp only [findP]
    simp only [ownVars] at nd
    rw [findP_at (k := k + 1) nd (by simpa using h1) (by simpa using h2) h3]
    congr 1; omega
  | [], _, j, i, k, d, nd, h1, h2, h3 => by simp at h1
  | _ :: _, [], j, i, k, d, nd, h1, h2, h3 => by simp at h2
theorem putBack_len : ∀ (xs : List Arg) (ds : List D) (outs env : EnvD), (putBack xs ds outs env).length = env.length
  | .var i :: xs, d :: ds, outs, env => by
    simp only [putBack]
    split
    · exact putBack_len xs ds _ env
    · rw [putBack_len xs ds _ _, List.length_set]
  | .val _ :: xs, _ :: ds, outs, env => by simp only [putBack]; exact putBack_len xs ds _ env
  | [], _, outs, env => by simp [putBack]
  | .var _ :: _, [], outs, env => by simp [putBack]
  | .val _ :: _, [], outs, env => by simp [putBack]
theorem putBack_at : ∀ {xs : List Arg} {ds : List D} {outs env : EnvD} {j : Nat} {d' : D}, (putBack xs ds outs env)[j]? = some (some d') →
    (∃ (k : Nat) (d : D), xs[k]? = some (.var j) ∧ ds[k]? = some d ∧ fz d = false ∧ outs[k]? = some (some d')) ∨ (env[j]? = some (some d') ∧ ∀ (k : Nat) (d : D), xs[k]? = some (.var j) → ds[k]? = some d → fz d = true)
  | .var i :: xs, d :: ds, outs, env, j, d', h => by
    simp only [putBack] at h
    split at h
    · rename_i z
      rcases putBack_at h with ⟨k, e, h1, h2, h3, h4⟩ | ⟨h1, h2⟩
      · refine .inl ⟨k + 1, e, by simpa using h1, by simpa using h2, h3, ?_⟩
        cases outs with
        | nil => simp at h4
        | cons o outs => simpa using h4
      · refine .inr ⟨h1, fun k e g1 g2 => ?_⟩
        cases k with
        | zero => simp at g2; subst g2; exact z
        | succ k => exact h2 k e (by simpa using g1) (by simpa using g2)
    · rename_i z
      rcases putBack_at h with ⟨k, e, h1, h2, h3, h4⟩ | ⟨h1, h2⟩
      · refine .inl ⟨k + 1, e, by simpa using h1, by simpa using h2, h3, ?_⟩
        cases outs with
        | nil => simp at h4
        | cons o outs => simpa using h4
      · by_cases ij : i = j
        · subst ij
          by_cases hl : i < env.length
          · rw [List.getElem?_set_self hl] at h1
            refine .inl ⟨0, d, rfl, rfl, by simpa using z, ?_⟩
            cases outs with
            | nil => simp at h1
            | cons o outs => simpa using h1
          · rw [List.getElem?_eq_none (by rw [List.length_set]; omega)] at h1; cases h1
        · rw [List.getElem?_set_ne ij] at h1
          refine .inr ⟨h1, fun k e g1 g2 => ?_⟩
          cases k with
          | zero => simp at g1; exact absurd g1 ij
          | succ k => exact h2 k e (by simpa using g1) (by simpa using g2)
  | .val _ :: xs, d :: ds, outs, env, j, d', h => by
    simp only [putBack] at h
    rcases putBack_at h with ⟨k, e, h1, h2, h3, h4⟩ | ⟨h1, h2⟩
    · refine .inl ⟨k + 1, e, by simpa using h1, by simpa using h2, h3, ?_⟩
      cases outs with
      | nil => simp at h4
      | cons o outs => simpa using h4
    · refine .inr ⟨h1, fun k e g1 g2 => ?_⟩
      cases k with
      | zero => simp at g1
      | succ k => exact h2 k e (by simpa using g1) (by simpa using g2)
  | [], _, outs, env, j, d', h => .inr ⟨by simpa [putBack] using h, fun k e g1 g2 => by simp at g1⟩
  | .var _ :: _, [], outs, env, j, d', h => .inr ⟨by simpa [putBack] using h, fun k e g1 g2 => by simp at g2⟩
  | .val _ :: _, [], outs, env, j, d', h => .inr ⟨by simpa [putBack] using h, fun k e g1 g2 => by simp at g2⟩
theorem gets_at {env : EnvD} : ∀ {xs : List Arg} {ds : List D} {j : Nat} {d : D}, Arg.gets env xs = some ds → ds[j]? = some d → ∃ x, xs[j]? = some x ∧ x.get env = some d
  | [], ds, j, d, h, e => by cases h; simp at e
  | x :: xs, ds, j, d, h, e => by
    simp only [Arg.gets] at h
    cases hx : x.get env with
    | none => simp [hx] at h
    | some d1 =>
      cases hr : Arg.gets env xs with
      | none => simp [hx, hr] at h
      | some dr =>
        simp [hx, hr] at h
        subst h
        cases j with
        | zero => simp at e; subst e; exact ⟨x, rfl, hx⟩
        | succ j =>
          obtain ⟨y, h1, h2⟩ := gets_at hr (by simpa using e)
          exact ⟨y, by simpa using h1, h2⟩
theorem gets_len {env : EnvD} : ∀ {xs : List Arg} {ds : List D}, Arg.gets env xs = some ds → ds.length = xs.length
  | [], ds, h => by cases h; rfl
  | x :: xs, ds, h => by
    simp only [Arg.gets] at h
    cases hx : x.get env with
    | none => simp [hx] at h
    | some d1 =>
      cases hr : Arg.gets env xs with
      | none => simp [hx, hr] at h
      | some dr =>
        simp [hx, hr] at h
        subst h
        rw [List.length_cons, List.length_cons, gets_len hr]
theorem pat {α β : Type} {P : α → β → Prop} : ∀ {l : List α} {m : List β} {j : Nat} {x : α}, Paired P l m → l[j]? = some x → ∃ y, m[j]? = some y ∧ P x y
  | _, _, j, x, .nil, e => by simp at e
  | _, _, 0, x, .cons h t, e => by simp at e; subst e; exact ⟨_, rfl, h⟩
  | _, _, j + 1, x, .cons h t, e => by
    obtain ⟨y, h1, h2⟩ := pat (j := j) t (by simpa using e)
    exact ⟨y, by simpa using h1, h2⟩
/- the callee's world; the caller's behind it -/
def inT (xs : List Arg) (ds : List D) : Option Tag → Option Tag
  | some (s, q) => (findP xs ds s 0).map fun m => (m, q)
  | none => none
def restT (xs : List Arg) (ds : List D) : Option Tag → Option Tag
  | some (s, q) => match findP xs ds s 0 with
    | some _ => none
    | none => some (s, q)
  | none => none
def outT (xs : List Arg) (ds : List D) (old : Option Tag) : Option Tag → Option Tag
  | some (0, q) => some (0, q)
  | some (k + 1, q) => (backP xs ds k).map fun s => (s, q)
  | none => restT xs ds old
def inW (a : Wd) (xs : List Arg) (ds : List D) : Wd := ⟨a.F, a.H, fun x => inT xs ds (a.t x)⟩
def outW (a b : Wd) (xs : List Arg) (ds : List D) : Wd := ⟨b.F, b.H, fun x => outT xs ds (a.t x) (b.t x)⟩
theorem inW_t {a : Wd} {xs : List Arg} {ds : List D} {x : Addr} : (inW a xs ds).t x = inT xs ds (a.t x) := rfl
theorem outW_t {a b : Wd} {xs : List Arg} {ds : List D} {x : Addr} : (outW a b xs ds).t x = outT xs ds (a.t x) (b.t x) := rfl
section
variable {G : Gm} {a b : Wd} {σ : L2.St} {env : EnvD} {xs : List Arg} {ds : List D} {vs : List V}
theorem inW_ok (k : Ok a) : Ok (inW a xs ds) := by
  refine ⟨k.sub, fun x t h => ?_⟩
  rw [inW_t] at h
  cases e : a.t x with
  | none => rw [e] at h; cases h
  | some tt => exact k.own x _ e
theorem inW_rep (rel : RelE G a σ env) (nd : (ownVars xs ds).Nodup) (ps : Paired (ArgRep G.C a σ) xs vs) (hg : Arg.gets env xs = some ds) : ∀ i d, ds[i]? = some d → ∃ v, vs[i]? = some v ∧ Rep G.C (inW a xs ds) (i + 1) [] v d := fun i d hd => by
  obtain ⟨x, hx, hget⟩ := gets_at hg hd
  obtain ⟨v, hv, ar⟩ := pat ps hx
  refine ⟨v, hv, ?_⟩
  cases z : fz d with
  | true =>
    obtain ⟨r, rp⟩ := ar.rep rel hget
    exact Rep.fz (a := a) (b := inW a xs ds) (fun _ _ e => e) d [] [] v z rp
  | false =>
    cases x with
    | val d' => cases hget; rw [ar.1] at z; cases z
    | var j =>
      have hget : (match env[j]? with | some (some d) => some d | _ => none) = some d := hget
      split at hget
      · rename_i d' q
        cases hget
        obtain ⟨v', h1, rp⟩ := rel.slot j d q
        have ar : σ[j]? = some (some v) := ar
        rw [ar] at h1; cases h1
        have e := findP_at (k := 0) nd hx hd z
        have := Rep.to (C := G.C) (a := a) (b := inW a xs ds) (r := j + 1) (s := i + 1) (p := []) (q := []) (fun _ _ h => h) (fun y z' o h1 h2 => ⟨by
          rw [inW_t, h1]
          show (findP xs ds (j + 1) 0).map _ = _
          rw [e]; simp, h2⟩) d [] v
        exact this rp
      · cases hget
theorem outW_step (st : Step (inW a xs ds) b) (k : Ok b) : Step a (outW a b xs ds) := fun x o h t => by
  have ti : (inW a xs ds).t x = none := by rw [inW_t, t]; rfl
  obtain ⟨h1, h2, h3⟩ := st x o h ti
  refine ⟨h1, ?_, h3⟩
  rw [outW_t, h2, t]; rfl
theorem outW_ok (ka : Ok a) (st : Step (inW a xs ds) b) (k : Ok b) : Ok (outW a b xs ds) := by
  refine ⟨k.sub, fun x t h => ?_⟩
  rw [outW_t] at h
  cases e : b.t x with
  | some tt => exact k.own x tt e
  | none =>
    rw [e] at h
    cases e2 : a.t x with
    | none => rw [e2] at h; cases h
    | some sq =>
      obtain ⟨s, q⟩ := sq
      cases e3 : findP xs ds s 0 with
      | some m => rw [e2] at h; simp [outT, restT, e3] at h
      | none =>
        obtain ⟨f, o, ho⟩ := ka.own x _ e2
        have ti : (inW a xs ds).t x = none := by rw [inW_t, e2]; simp [inT, e3]
        obtain ⟨h1, h2, h3⟩ := st x o ho ti
        exact ⟨h3.trans f, o, h1⟩
theorem outW_rel (rel : RelE G a σ env) (nd : (ownVars xs ds).Nodup) (ps : Paired (ArgRep G.C a σ) xs vs) (hg : Arg.gets env xs = some ds) (st : Step (inW a xs ds) b) (k : Ok b) {outs : EnvD} (ho : OutRep G.C b vs outs) :
    RelE G (outW a b xs ds) σ (putBack xs ds outs env) := by
  refine ⟨outW_ok rel.ok st k, by rw [putBack_len]; exact rel.len, fun j d' hj => ?_, rel.prm⟩
  rcases putBack_at hj with ⟨i, d, h1, h2, h3, h4⟩ | ⟨h1, h2⟩
  · obtain ⟨v, hv, rp⟩ := ho i d' h4
    obtain ⟨v', hv', ar⟩ := pat ps h1
    rw [hv] at hv'; cases hv'
    refine ⟨v, ar, ?_⟩
    have hb : backP xs ds i = some (j + 1) := by unfold backP; rw [h1, h2]; simp [h3]
    have := Rep.to (C := G.C) (a := b) (b := outW a b xs ds) (r := i + 1) (s := j + 1) (p := []) (q := []) (fun _ _ h => h) (fun y z' o g1 g2 => ⟨by
      rw [outW_t, g1]
      show (backP xs ds i).map _ = _
      rw [hb]; rfl, g2⟩) d' [] v
    exact this rp
  · obtain ⟨v, hv, rp⟩ := rel.slot j d' h1
    refine ⟨v, hv, ?_⟩
    have hf : ∀ y o, a.F y = some o → (outW a b xs ds).F y = some o := fun y o h => by
      have ti : (inW a xs ds).t y = none := by rw [inW_t, rel.ok.tn h]; rfl
      exact ((st y o (rel.ok.sub y o h) ti).2.2).trans h
    cases z : fz d' with
    | true => exact Rep.fz hf d' [] [] v z rp
    | false =>
      have np : findP xs ds (j + 1) 0 = none := by
        cases e : findP xs ds (j + 1) 0 with
        | none => rfl
        | some m =>
          obtain ⟨j', i', d2, g1, g2, g3, g4, g5⟩ := findP_some e
          have e2 : i' = j := (Nat.succ.inj g5).symm
          subst e2
          rw [h2 j' d2 g2 g3] at g4; cases g4
      have := Rep.to (C := G.C) (a := a) (b := outW a b xs ds) (r := j + 1) (s := j + 1) (p := []) (q := []) hf (fun y z' o g1 g2 => by
        have ti : (inW a xs ds).t y = none := by rw [inW_t, g1]; simp [inT, np]
        obtain ⟨k1, k2, k3⟩ := st y o g2 ti
        refine ⟨?_, k1⟩
        rw [outW_t, k2, g1]; simp [outT, restT, np]) d' [] v
      exact this rp
theorem outW_res {C : KM} {d : D} {v : V} (rp : Rep C b 0 [] v d) : Rep C (outW a b xs ds) 0 [] v d := by
  have := Rep.to (C := C) (a := b) (b := outW a b xs ds) (r := 0) (s := 0) (p := []) (q := []) (fun _ _ h => h) (fun y z' o g1 g2 => ⟨by
    rw [outW_t, g1]; rfl, g2⟩) d [] v
  exact this rp
theorem outW_exc {C : KM} {x : Exc} {cls : Value} {dd : Option Addr} (h : ExcRep C b x cls dd) : ExcRep C (outW a b xs ds) x cls dd := by
  obtain ⟨h1, h2⟩ := h
  refine ⟨h1, ?_⟩
  rcases h2 with h2 | ⟨u, ws, e, f, l, z, rp⟩
  · exact .inl h2
  · exact .inr ⟨u, ws, e, f, l, z, RepL.fz (a := b) (b := outW a b xs ds) (fun _ _ h => h) x.ws [] [] 0 ws z rp⟩
end
/- the promise, from the caller's side -/
theorem call_sp {G : Gm} {W : WX} {σ : L2.St} {a : Wd} {env : EnvD} {xs : List Arg} {vs : List V} {g : List D → Res (D × EnvD)} {Q : VK} (rel : RelE G a σ env) (ps : Paired (ArgRep G.C a σ) xs vs)
    (post : PostR G W σ a (mCallR g xs env) fun d _ b => ∀ v, Rep G.C b 0 [] v d → Q v b.H) : spD G.C g vs a.H Q (fun cls dd H' => W cls dd σ H') := by
  unfold mCallR at post
  cases hg : Arg.gets env xs with
  | none => rw [hg] at post; exact (show False from post).elim
  | some ds =>
    rw [hg] at post
    dsimp only at post
    split at post
    · rename_i nd
      refine ⟨inW a xs ds, ds, rfl, inW_ok rel.ok, (gets_len hg).trans (plen ps), inW_rep rel nd ps hg, ?_⟩
      cases hr : g ds with
      | bad => rw [hr] at post; exact (show False from post).elim
      | ok do_ =>
        obtain ⟨d, outs⟩ := do_
        rw [hr] at post
        dsimp only
        exact fun b v st k ho rp => post (outW a b xs ds) (outW_step st k) (outW_rel rel nd ps hg st k ho) v (outW_res rp)
      | exc x outs =>
        rw [hr] at post
        dsimp only
        exact fun b cls dd st k ho er => post (outW a b xs ds) cls dd (outW_step st k) (outW_rel rel nd ps hg st k ho) (outW_exc er)
    · exact (show False from post).elim
/- a def (or class) that may be called from X -/
def CallOk (C : KM) (X : Cx) (g : List D → Res (D × EnvD)) (u : Value) : Prop := ∀ (W : WX), Takes X W → ∀ (pins : List (Addr × Obj)) (s : Shared) (σ : L2.St) (H : Hp) (us : List Value) (vs : List V) (Q : VK), L2.Inv X pins σ H s → Vals vs us →
  spD C g vs H Q (fun cls dd H' => W cls dd σ H') → wpAny (model X.prog X.w) X.A (call u us) (EP X pins σ Q) X.xe s
theorem pe_callD {X : Cx} {G : Gm} {W : WX} {g : List D → Res (D × EnvD)} {f : Addr} {x : Str} {p pos : Pos} {e : Expr} {es : List Expr} {ma : EM (List Arg)} (co : CallOk G.C X g (.ref f)) (tk : Takes X W) (hg : Gl X x) (hm : X.mg x = some (.ref f)) (hk : PySem.W.keepIn X.K (.ref f) = true)
    (ha : PA X (e :: es) (tArgs G W ma)) (hdb : (x == ("__debug__" : Str)) = false) (he : starEach (e :: es) X.env = (false, eval e X.env) :: starEach es X.env) (hpl : (backTo pos (starEach es X.env)).any (·.1) = false) :
    PE X (.Call (.Name x p) (e :: es) [] pos) (tE G W (mCall g ma)) := by
  refine ⟨fun pins s σ H Q I h => ?_⟩
  obtain ⟨a, env, rfl, rel, post⟩ := h
  refine wpAny_Call_Name_kw (ld_glob I hg hm ?_ hdb)
  have hA : tArgs G W ma σ a.H (fun vs H1 => spD G.C g vs H1 Q (fun cls dd H' => W cls dd σ H')) := tArgs_of rel post fun xs e1 b vs s1 r ps p => call_sp r ps p
  refine PySem.W.callWith_K (h₀ := X.base) I.ok.mod.kin hk (thn (ha.run pos pins s σ _ _ I hA) fun us s1 ⟨vs, H1, I1, r, q⟩ => ⟨I1.kIn, ?_⟩) he hpl
  exact co W tk pins s1 σ H1 us vs Q I1 r q
theorem pe_callD0 {X : Cx} {G : Gm} {W : WX} {g : List D → Res (D × EnvD)} {f : Addr} {x : Str} {p pos : Pos} (co : CallOk G.C X g (.ref f)) (tk : Takes X W) (hg : Gl X x) (hm : X.mg x = some (.ref f)) (hk : PySem.W.keepIn X.K (.ref f) = true)
    (hdb : (x == ("__debug__" : Str)) = false) : PE X (.Call (.Name x p) [] [] pos) (tE G W (mCall g (mArgs []))) := by
  refine ⟨fun pins s σ H Q I h => ?_⟩
  obtain ⟨a, env, rfl, rel, post⟩ := h
  refine wpAny_Call_Name_kw (ld_glob I hg hm ?_ hdb)
  exact PySem.W.callWith_K0 I.kIn hk (co W tk pins s σ _ [] [] Q I .nil (call_sp rel .nil (show PostR G W σ a (mCallR g [] env) _ from post)))
end Mi
namespace Mi
open PySem PySem.Spec PyProof.Rows L2

/-! ### statements -/
def mNext : EM FlowD := fun env => .ok (.next, env)
def mBrk : EM FlowD := fun env => .ok (.brk, env)
def mCnt : EM FlowD := fun env => .ok (.cont, env)
def mSeq (m k : EM FlowD) : EM FlowD := fun env => (m env).bind fun (f, e) => match f with
  | .next => k e
  | .brk => .ok (.brk, e)
  | .cont => .ok (.cont, e)
  | .ret d => .ok (.ret d, e)
def mIfS (c : EM Bool) (m n : EM FlowD) : EM FlowD := fun env => (c env).bind fun (b, e) => if b = true then m e else n e
def mRet (m : EM D) : EM FlowD := fun env => (m env).bind fun (d, e) => .ok (.ret d, e)
def mRetN : EM FlowD := fun env => .ok (.ret .non, env)
def mDrop (m : EM D) : EM FlowD := fun env => (m env).bind fun (_, e) => .ok (.next, e)
def mAsg (i : Nat) (m : EM D) : EM FlowD := fun env => (m env).bind fun (d, e) => .ok (.next, e.set i (some d))
/- frozen first, then taken apart -/
def mAsgT (t : Tgt) (m : EM D) : EM FlowD := fun env => (m env).bind fun (d, e) => match mTg t (frzQ d) e with
  | some e1 => .ok (.next, e1)
  | none => .bad
def mPar (i j : Nat) (ma : EM (List Arg)) : EM FlowD := fun env => (ma env).bind fun (xs, e) => match Arg.gets e xs with
  | some [d1, d2] => if fz d1 = true ∧ fz d2 = true then .ok (.next, (e.set i (some d1)).set j (some d2)) else .bad
  | _ => .bad
section
variable {G : Gm} {W : WX} {D : Ends} {σ : L2.St} {H : Hp}
theorem next_w (h : tS G W mNext D σ H) : tNext D σ H := by
  obtain ⟨a, env, rfl, rel, post⟩ := h
  exact post a σ (Step.refl a) rel
theorem brk_w (h : tS G W mBrk D σ H) : tBreak D σ H := by
  obtain ⟨a, env, rfl, rel, post⟩ := h
  exact post a σ (Step.refl a) rel
theorem cnt_w (h : tS G W mCnt D σ H) : tCont D σ H := by
  obtain ⟨a, env, rfl, rel, post⟩ := h
  exact post a σ (Step.refl a) rel
theorem seq_w {m k : EM FlowD} (h : tS G W (mSeq m k) D σ H) : tSeq (tS G W m) (tS G W k) D σ H := by
  obtain ⟨a, env, rfl, rel, post⟩ := h
  refine ⟨a, env, rfl, rel, ?_⟩
  unfold mSeq at post
  cases hm : m env with
  | bad => rw [hm] at post; exact (show False from post).elim
  | exc x e => rw [hm] at post; exact post
  | ok fe =>
    obtain ⟨f, e⟩ := fe
    rw [hm] at post
    cases f with
    | next => exact fun b σ' st r => ⟨b, e, rfl, r, PostS.step st post⟩
    | brk => exact post
    | cont => exact post
    | ret d => exact post
theorem ifS_w {c : EM Bool} {m n : EM FlowD} (h : tS G W (mIfS c m n) D σ H) : tIfS (tT G W c) (tS G W m) (tS G W n) D σ H := by
  obtain ⟨a, env, rfl, rel, post⟩ := h
  refine tT_ofS rel post fun x e b st r p => ?_
  cases x with
  | true => exact ite_tt ⟨b, e, rfl, r, p⟩
  | false => exact ite_ff ⟨b, e, rfl, r, p⟩
theorem ret_w {m : EM Mi.D} (h : tS G W (mRet m) D σ H) : tRet (tE G W m) D σ H := by
  obtain ⟨a, env, rfl, rel, post⟩ := h
  exact tE_ofS rel post fun x e b v st r rp p => p b σ v (Step.refl b) r rp
theorem retN_w (h : tS G W mRetN D σ H) : tRetN D σ H := by
  obtain ⟨a, env, rfl, rel, post⟩ := h
  exact post a σ .non (Step.refl a) rel (by simp [Rep])
theorem drop_w {m : EM Mi.D} (h : tS G W (mDrop m) D σ H) : tDrop (tE G W m) D σ H := by
  obtain ⟨a, env, rfl, rel, post⟩ := h
  exact tE_ofS rel post fun x e b v st r rp p => p b σ (Step.refl b) r
theorem asg_w {i : Nat} {m : EM Mi.D} (hi : i ∉ G.io) (h : tS G W (mAsg i m) D σ H) : tAsg (tE G W m) (gName i) D σ H := by
  obtain ⟨a, env, rfl, rel, post⟩ := h
  exact tE_ofS rel post fun x e b v st r rp p => p (mvW b 0 (i + 1)) _ mvW_step (r.sett hi rp)
theorem asgT_w {t : Tgt} {m : EM Mi.D} (hi : Tgt.off G.io t) (h : tS G W (mAsgT t m) D σ H) : tAsg (tE G W m) (gT G.C.K t) D σ H := by
  obtain ⟨a, env, rfl, rel, post⟩ := h
  refine tE_ofS rel post fun x e b v st r rp p => ?_
  dsimp only at p
  obtain ⟨z, rq⟩ := frzQ_rep (s := 0) (q := []) r.ok rp
  cases ht : mTg t (frzQ x) e with
  | none => rw [ht] at p; exact (show False from p).elim
  | some e1 =>
    rw [ht] at p
    exact tg_w (a := frzW b 0) t hi r.frz0 z rq ht fun σ' r' => p (frzW b 0) σ' frzW_step r'
theorem par_w {i j : Nat} {ma : EM (List Arg)} (hi : i ∉ G.io) (hj : j ∉ G.io) (h : tS G W (mPar i j ma) D σ H) : tPar i j (tArgs G W ma) D σ H := by
  obtain ⟨a, env, rfl, rel, post⟩ := h
  refine tArgs_ofS rel post fun xs e b vs st r ps p => ?_
  dsimp only at p
  cases hx : Arg.gets e xs with
  | none => rw [hx] at p; exact (show False from p).elim
  | some ds =>
    rw [hx] at p
    have g := gets_rep r ps hx
    match ds, p, g with
    | [], p, _ => exact (show False from p).elim
    | [_], p, _ => exact (show False from p).elim
    | _ :: _ :: _ :: _, p, _ => exact (show False from p).elim
    | [d1, d2], p, g =>
      dsimp only at p
      obtain ⟨v, u, rfl, ⟨r1, p1⟩, ⟨r2, p2⟩⟩ := two_rep g
      split at p
      · rename_i z
        exact ⟨v, u, rfl, p b _ (Step.refl b) ((r.setz hi z.1 p1).setz hj z.2 p2)⟩
      · exact (show False from p).elim
end

/-! ### loops -/
def loopF (t : Tgt) (body : EM FlowD) : List D → EnvD → Res (FlowD × EnvD)
  | [], e => .ok (.next, e)
  | d :: ds, e => match mTg t d e with
    | none => .bad
    | some e1 => (body e1).bind fun (f, e2) => match f with
      | .next => loopF t body ds e2
      | .cont => loopF t body ds e2
      | .brk => .ok (.next, e2)
      | .ret d => .ok (.ret d, e2)
def mFor (mi : EM (List D)) (t : Tgt) (body : EM FlowD) : EM FlowD := fun env => (mi env).bind fun (ds, e) => if fzL ds = true then loopF t body ds e else .bad
theorem PostS.aheadI {G : Gm} {W : WX} {D : Ends} {a : Wd} {σ : L2.St} {α : Type} {m : Res (α × EnvD)} {k : α × EnvD → Res (FlowD × EnvD)} (h : PostS G W D a (m.bind k)) : PostR G W σ a m fun x e b => PostS G W D b (k (x, e)) := h.ahead
def whileF (c : EM Bool) (body : EM FlowD) : Nat → EnvD → Res (FlowD × EnvD)
  | 0, _ => .bad
  | n + 1, e => (c e).bind fun (b, e1) => if b = true then (body e1).bind fun (f, e2) => match f with
      | .next => whileF c body n e2
      | .cont => whileF c body n e2
      | .brk => .ok (.next, e2)
      | .ret d => .ok (.ret d, e2)
    else .ok (.next, e1)
def mWhile (fuel : EnvD → Nat) (c : EM Bool) (body : EM FlowD) : EM FlowD := fun env => whileF c body (fuel env) env
section
variable {G : Gm} {W : WX} {D : Ends} {σ : L2.St} {H : Hp}
theorem for_w {mi : EM (List Mi.D)} {t : Tgt} {body : EM FlowD} (hi' : Tgt.off G.io t) (h : tS G W (mFor mi t body) D σ H) : tFor (tI G W mi) (gT G.C.K t) (tS G W body) D σ H := by
  obtain ⟨a, env, rfl, rel, post⟩ := h
  refine ⟨a, env, rfl, rel, post.ahead.imp fun ds e b st r p => ?_⟩
  dsimp only at p
  split at p
  · rename_i z
    refine ⟨z, fun J hJ => ⟨fun i m σ H => m = ds.length - i ∧ i ≤ ds.length ∧ ∃ c e, c.H = H ∧ Step b c ∧ RelE G c σ e ∧ PostS G W D c (loopF t body (ds.drop i) e), ⟨_, rfl, Nat.zero_le _, b, e, rfl, Step.refl b, r, p⟩, ?_⟩⟩
    rintro i m σ H ⟨rfl, hi, c, e, rfl, sc, rc, pc⟩
    obtain ⟨hgo, hstop⟩ := hJ c rc.ok sc
    by_cases hlt : i < ds.length
    · obtain ⟨d, hd⟩ : ∃ d, ds[i]? = some d := ⟨_, List.getElem?_eq_getElem hlt⟩
      obtain ⟨h1, h2⟩ := hgo i d hd
      have hdrop : ds.drop i = d :: ds.drop (i + 1) := by
        rw [List.drop_eq_getElem_cons hlt]
        rw [List.getElem?_eq_getElem hlt] at hd
        cases hd; rfl
      rw [hdrop] at pc
      simp only [loopF] at pc
      refine .inr ⟨h1, fun σ' H' => ∃ c e, c.H = H' ∧ Step b c ∧ RelE G c σ' e ∧ PostS G W D c (loopF t body (ds.drop (i + 1)) e), fun σ' H' q => ⟨ds.length - (i + 1), by omega, rfl, hlt, q⟩, fun x H' y => ?_⟩
      obtain ⟨c', rfl, gr, ok', rp⟩ := h2 x H' y
      cases ht : mTg t d e with
      | none => rw [ht] at pc; exact (show False from pc).elim
      | some e1 =>
        rw [ht] at pc
        dsimp only at pc
        refine tg_w t hi' (rc.grow gr ok') (fzL_mem z d (List.mem_of_getElem? hd)) rp ht fun σ' r' => ⟨c', e1, rfl, r', ?_⟩
        have pc := PostS.step gr.step pc
        have sc' : Step b c' := sc.trans gr.step
        cases hb : body e1 with
        | bad => rw [hb] at pc; exact (show False from pc).elim
        | exc x e2 => rw [hb] at pc; exact pc
        | ok fe =>
          obtain ⟨f, e2⟩ := fe
          rw [hb] at pc
          cases f with
          | next => exact fun b' σ' st' r' => ⟨b', e2, rfl, sc'.trans st', r', PostS.step st' pc⟩
          | brk => exact pc
          | cont => exact fun b' σ' st' r' => ⟨b', e2, rfl, sc'.trans st', r', PostS.step st' pc⟩
          | ret d => exact pc
    · have e1 : i = ds.length := by omega
      subst e1
      rw [List.drop_length] at pc
      exact .inl ⟨hstop, pc c σ (Step.refl c) rc⟩
  · exact (show False from p).elim
theorem while_w {fuel : EnvD → Nat} {c : EM Bool} {body : EM FlowD} (h : tS G W (mWhile fuel c body) D σ H) : tWhile (tT G W c) (tS G W body) D σ H := by
  obtain ⟨a, env, rfl, rel, post⟩ := h
  refine ⟨fun m σ H => ∃ b e, b.H = H ∧ RelE G b σ e ∧ PostS G W D b (whileF c body m e), ⟨fuel env, a, env, rfl, rel, post⟩, ?_⟩
  rintro m σ H ⟨b, e, rfl, r, p⟩
  cases m with
  | zero => exact (show False from p).elim
  | succ n =>
    refine tT_ofS r p fun x e1 b1 st r1 p1 => ?_
    dsimp only at p1
    cases x with
    | false =>
      rw [if_neg Bool.false_ne_true] at p1 ⊢
      exact p1 b1 σ (Step.refl b1) r1
    | true =>
      rw [if_pos rfl] at p1 ⊢
      refine ⟨fun σ' H' => ∃ b e, b.H = H' ∧ RelE G b σ' e ∧ PostS G W D b (whileF c body n e), fun σ' H' q => ⟨n, Nat.lt_succ_self n, q⟩, b1, e1, rfl, r1, ?_⟩
      cases hb : body e1 with
      | bad => rw [hb] at p1; exact (show False from p1).elim
      | exc x e2 => rw [hb] at p1; exact p1
      | ok fe =>
        obtain ⟨f, e2⟩ := fe
        rw [hb] at p1
        cases f with
        | next => exact fun b' σ' st' r' => ⟨b', e2, rfl, r', PostS.step st' p1⟩
        | brk => exact p1
        | cont => exact fun b' σ' st' r' => ⟨b', e2, rfl, r', PostS.step st' p1⟩
        | ret d => exact p1
end
end Mi
namespace Mi
open PySem PySem.Spec PyProof.Rows L2

/-! ### list comprehensions -/
def wipeE (e : EnvD) : List Nat → EnvD
  | [] => e
  | v :: vs => (wipeE e vs).set v none
def restV (e0 : EnvD) (v : Nat) : Option D := match e0[v]? with
  | some (some d) => if fz d = true then some d else none
  | _ => none
def restE (e0 e : EnvD) : List Nat → EnvD
  | [] => e
  | v :: vs => (restE e0 e vs).set v (restV e0 v)
def loopL (t : Tgt) (cond : EM Bool) (elt : EM D) (own : List Nat) : List D → List D → EnvD → Res (List D × EnvD)
  | [], acc, e => .ok (acc, e)
  | d :: ds, acc, e => match mTg t d (wipeE e own) with
    | none => .bad
    | some e1 => match cond e1 with
      | .ok (true, e2) => match elt e2 with
        | .ok (y, e3) => loopL t cond elt own ds (acc ++ [frzQ y]) e3
        | _ => .bad
      | .ok (false, e2) => loopL t cond elt own ds acc e2
      | _ => .bad
def mLc (mi : EM (List D)) (t : Tgt) (cond : EM Bool) (elt : EM D) (own : List Nat) : EM D := fun env => (mi env).bind fun (ds, e) =>
  if fzL ds = true ∧ ds.length ≤ 100000 then (loopL t cond elt own ds [] e).bind fun (l, e') => .ok (.lst true l, restE e e' own) else .bad
def mYes : EM Bool := fun env => .ok (true, env)
abbrev W0 : WX := fun _ _ _ _ => False
theorem wipeE_len (e : EnvD) : ∀ vs : List Nat, (wipeE e vs).length = e.length
  | [] => rfl
  | v :: vs => by unfold wipeE; rw [List.length_set, wipeE_len e vs]
theorem restE_len (e0 e : EnvD) : ∀ vs : List Nat, (restE e0 e vs).length = e.length
  | [] => rfl
  | v :: vs => by unfold restE; rw [List.length_set, restE_len e0 e vs]
theorem wipeE_some {e : EnvD} {i : Nat} {d : D} : ∀ {vs : List Nat}, (wipeE e vs)[i]? = some (some d) → e[i]? = some (some d) ∧ i ∉ vs
  | [], h => ⟨h, by simp⟩
  | v :: vs, h => by
    unfold wipeE at h
    by_cases q : v = i
    · subst q
      by_cases hl : v < (wipeE e vs).length
      · rw [List.getElem?_set_self hl] at h; cases h
      · rw [List.getElem?_eq_none (by rw [List.length_set]; omega)] at h; cases h
    · rw [List.getElem?_set_ne q] at h
      obtain ⟨h1, h2⟩ := wipeE_some h
      exact ⟨h1, by simp [h2, Ne.symm q]⟩
theorem restE_some {e0 e : EnvD} {i : Nat} {d : D} : ∀ {vs : List Nat}, (restE e0 e vs)[i]? = some (some d) → (e[i]? = some (some d) ∧ i ∉ vs) ∨ (i ∈ vs ∧ e0[i]? = some (some d) ∧ fz d = true)
  | [], h => .inl ⟨h, by simp⟩
  | v :: vs, h => by
    unfold restE at h
    by_cases q : v = i
    · subst q
      by_cases hl : v < (restE e0 e vs).length
      · rw [List.getElem?_set_self hl] at h
        have h : restV e0 v = some d := Option.some.inj h
        unfold restV at h
        split at h
        · rename_i d' e1
          split at h
          · rename_i z; cases h
            exact .inr ⟨by simp, e1, z⟩
          · cases h
        · cases h
      · rw [List.getElem?_eq_none (by rw [List.length_set]; omega)] at h; cases h
    · rw [List.getElem?_set_ne q] at h
      rcases restE_some h with ⟨h1, h2⟩ | ⟨h1, h2, h3⟩
      · exact .inl ⟨h1, by simp [h2, Ne.symm q]⟩
      · exact .inr ⟨by simp [h1], h2, h3⟩
theorem wipe_off {σ : L2.St} {i : Nat} : ∀ {vs : List Nat}, i ∉ vs → (wipe σ vs)[i]? = σ[i]?
  | [], _ => rfl
  | v :: vs, h => by
    simp only [List.mem_cons, not_or] at h
    unfold wipe
    rw [List.getElem?_set_ne (Ne.symm h.1)]
    exact wipe_off h.2
section
variable {G : Gm} {W : WX} {σ σ2 : L2.St} {H : Hp} {a b c : Wd} {own : List Nat}
theorem RelE.wiped {e : EnvD} (r : RelE G a σ e) (ho : ∀ i ∈ G.io, i ∉ own) : RelE G a (wipe σ own) (wipeE e own) := by
  refine ⟨r.ok, by rw [wipeE_len, wipe_length]; exact r.len, fun i d h => ?_, fun i hi v hv => ?_⟩
  · obtain ⟨h1, h2⟩ := wipeE_some h
    obtain ⟨v, e1, q⟩ := r.slot i d h1
    exact ⟨v, by rw [wipe_off h2]; exact e1, q⟩
  · rw [wipe_off (ho i hi)]; exact r.prm i hi v hv
theorem RelE.rewiped {e : EnvD} (r : RelE G a σ2 e) (hw : wipe σ2 own = wipe σ own) (ho : ∀ i ∈ G.io, i ∉ own) : RelE G a (wipe σ own) (wipeE e own) := by
  rw [← hw]; exact r.wiped ho
/- behind the block: e0 the frame ahead of it (at b), e the block's last -/
theorem RelE.unwiped {e0 e : EnvD} (r0 : RelE G b σ e0) (r : RelE G c (wipe σ own) (wipeE e own)) (st : Step b c) (le : e.length = e0.length) : RelE G c σ (restE e0 e own) := by
  refine ⟨r.ok, by rw [restE_len, le]; exact r0.len, fun i d h => ?_, r0.prm⟩
  rcases restE_some h with ⟨h1, h2⟩ | ⟨h1, h2, h3⟩
  · have : (wipeE e own)[i]? = some (some d) := by
      clear h r r0
      induction own with
      | nil => exact h1
      | cons v vs ih =>
        simp only [List.mem_cons, not_or] at h2
        unfold wipeE
        rw [List.getElem?_set_ne (Ne.symm h2.1)]
        exact ih h2.2
    obtain ⟨v, e1, q⟩ := r.slot i d this
    exact ⟨v, by rw [wipe_off h2] at e1; exact e1, q⟩
  · obtain ⟨v, e1, q⟩ := r0.slot i d h2
    exact ⟨v, e1, q.step r0.ok st h3⟩
end
/- the list that grows stands at A, outside of the world -/
structure GrowL (C : KM) (b c : Wd) (A : Addr) (acc : List D) : Prop where
  st : Step b c
  ok : Ok c
  f : c.F A = none
  t : c.t A = none
  h : ∃ vs, c.H A = some (.lst vs) ∧ RepL C c 0 [] 0 vs acc
  z : fzL acc = true
theorem GrowL.next {C : KM} {b c c' : Wd} {A : Addr} {acc : List D} (g : GrowL C b c A acc) (st : Step c c') (ok : Ok c') : GrowL C b c' A acc := by
  obtain ⟨vs, h1, h2⟩ := g.h
  obtain ⟨k1, k2, k3⟩ := st A _ h1 g.t
  exact ⟨g.st.trans st, ok, k3.trans g.f, k2, ⟨vs, k1, Rep.stepL g.ok st g.z h2⟩, g.z⟩
/- the list's own object changed -/
def putA (c : Wd) (A : Addr) (o : HO) : Wd := ⟨c.F, upd c.H A o, c.t⟩
theorem putA_ok {c : Wd} {A : Addr} {o : HO} (k : Ok c) (f : c.F A = none) : Ok (putA c A o) := by
  refine ⟨fun x u h => ?_, fun x t h => ?_⟩
  · have ne : x ≠ A := by rintro rfl; have h : c.F x = some u := h; rw [f] at h; cases h
    show upd c.H A o x = _
    rw [upd_ne ne]; exact k.sub x u h
  · obtain ⟨h1, u, h2⟩ := k.own x t h
    by_cases e : x = A
    · subst e; exact ⟨h1, o, upd_same⟩
    · exact ⟨h1, u, by show upd c.H A o x = _; rw [upd_ne e]; exact h2⟩
theorem putA_to {C : KM} {c : Wd} {A : Addr} {o : HO} (t : c.t A = none) {r : Nat} {p : List Nat} {v : V} {d : D} (h : Rep C c r p v d) : Rep C (putA c A o) r p v d := by
  have := Rep.to (C := C) (a := c) (b := putA c A o) (r := r) (s := r) (p := p) (q := p) (fun _ _ h => h) (fun x z u h e => ⟨h, by
    have ne : x ≠ A := by rintro rfl; rw [t] at h; cases h
    show upd c.H A o x = _
    rw [upd_ne ne]; exact e⟩) d [] v
  exact this h
theorem putA_rel {G : Gm} {c : Wd} {A : Addr} {o : HO} {σ : L2.St} {e : EnvD} (r : RelE G c σ e) (f : c.F A = none) (t : c.t A = none) : RelE G (putA c A o) σ e :=
  ⟨putA_ok r.ok f, r.len, fun i d h => let ⟨v, e, q⟩ := r.slot i d h; ⟨v, e, putA_to t q⟩, r.prm⟩
/- at the end it is the temp's -/
def tagA (c : Wd) (A : Addr) : Wd := ⟨c.F, c.H, fun x => if x = A then some (0, []) else c.t x⟩
theorem tagA_ok {c : Wd} {A : Addr} {o : HO} (k : Ok c) (f : c.F A = none) (h : c.H A = some o) : Ok (tagA c A) := by
  refine ⟨k.sub, fun x t e => ?_⟩
  have e : (if x = A then some (0, []) else c.t x) = some t := e
  by_cases q : x = A
  · subst q; exact ⟨f, o, h⟩
  · rw [if_neg q] at e; exact k.own x t e
theorem tagA_to {C : KM} {c : Wd} {A : Addr} (t : c.t A = none) {r : Nat} {p : List Nat} {v : V} {d : D} (h : Rep C c r p v d) : Rep C (tagA c A) r p v d := by
  have := Rep.to (C := C) (a := c) (b := tagA c A) (r := r) (s := r) (p := p) (q := p) (fun _ _ h => h) (fun x z u h e => ⟨by
    have ne : x ≠ A := by rintro rfl; rw [t] at h; cases h
    show (if x = A then some (0, []) else c.t x) = _
    rw [if_neg ne]; exact h, e⟩) d [] v
  exact this h
theorem repL_to {C : KM} {a b : Wd} {r s : Nat} {p q : List Nat} (h : ∀ d j v, fz d = true → Rep C a r (j :: p) v d → Rep C b s (j :: q) v d) : ∀ {l : List D} {n : Nat} {vs : List V}, fzL l = true → RepL C a r p n vs l → RepL C b s q n vs l
  | [], n, vs, _, e => e
  | d :: l, n, vs, z, ⟨v, us, e, h1, h2⟩ => by
    simp only [fzL, Bool.and_eq_true] at z
    exact ⟨v, us, e, h d n v z.1 h1, repL_to h z.2 h2⟩
theorem GrowL.push {C : KM} {b c : Wd} {A : Addr} {acc : List D} {vs : List V} {v : V} {y : D} {r : Nat} (g : GrowL C b c A acc) (hA : b.H A = none) (h : c.H A = some (.lst vs)) (zy : fz y = true) (rp : Rep C c r [] v y) : GrowL C b (putA c A (.lst (vs ++ [v]))) A (acc ++ [y]) := by
  obtain ⟨us, h1, h2⟩ := g.h
  rw [h] at h1; cases h1
  refine ⟨fun x o e t => ?_, putA_ok g.ok g.f, g.f, g.t, ⟨_, upd_same, ?_⟩, by rw [fzL_append, g.z]; simp [fzL, zy]⟩
  · obtain ⟨g1, g2, g3⟩ := g.st x o e t
    have ne : x ≠ A := by rintro rfl; rw [hA] at e; cases e
    exact ⟨by show upd c.H A _ x = _; rw [upd_ne ne]; exact g1, g2, g3⟩
  · refine RepL.appz (r := 0) (p := []) (s := 0) (q := []) (n := 0) (k := 0) g.z (by simp [fzL, zy]) (repL_to (fun d j v _ h => putA_to g.t h) g.z h2) ?_
    exact ⟨v, [], rfl, Rep.fz (a := c) (b := putA c A (.lst (vs ++ [v]))) (fun _ _ h => h) y _ _ v zy rp, by simp [RepL]⟩
mutual
def Tgt.ins (own : List Nat) : Tgt → Prop
  | .nm i => i ∈ own
  | .tp ts => Tgt.inss own ts
def Tgt.inss (own : List Nat) : List Tgt → Prop
  | [] => True
  | t :: ts => Tgt.ins own t ∧ Tgt.inss own ts
end
theorem wipe_set {σ : L2.St} {i : Nat} {v : Option V} : ∀ {own : List Nat}, i ∈ own → wipe (σ.set i v) own = wipe σ own
  | k :: vs, h => by
    unfold wipe
    by_cases e : k = i
    · subst e
      by_cases hm : k ∈ vs
      · rw [wipe_set hm]
      · have : ∀ {vs : List Nat}, k ∉ vs → wipe (σ.set k v) vs = (wipe σ vs).set k v := fun {vs} => by
          induction vs with
          | nil => intro _; rfl
          | cons u us ih =>
            intro h
            simp only [List.mem_cons, not_or] at h
            unfold wipe
            rw [ih h.2, List.set_comm _ _ h.1]
        rw [this hm, List.set_set]
    · rw [wipe_set (by
        rcases List.mem_cons.mp h with h | h
        · exact absurd h.symm e
        · exact h)]
theorem wipe_wipe (σ : L2.St) (own : List Nat) : wipe (wipe σ own) own = wipe σ own := by
  have : ∀ vs : List Nat, (∀ i ∈ vs, i ∈ own) → wipe (wipe σ vs) own = wipe σ own := fun vs => by
    induction vs with
    | nil => intro _; rfl
    | cons v vs ih =>
      intro h
      show wipe ((wipe σ vs).set v none) own = _
      rw [wipe_set (h v (by simp)), ih fun i hi => h i (by simp [hi])]
  exact this own fun _ h => h
mutual
theorem gT_mono {K : PySem.W.Frag} : ∀ (t : Tgt) {σ : L2.St} {v : V} {H : Hp} {R R' : L2.St → Hp → Prop}, gT K t v σ H R → (∀ σ H, R σ H → R' σ H) → gT K t v σ H R'
  | .nm i, σ, v, H, R, R', q, f => by
    simp only [gT] at q ⊢
    exact f _ _ q
  | .tp ts, σ, v, H, R, R', q, f => by
    simp only [gT] at q ⊢
    obtain ⟨x, vs, h1, h2, h3, h4⟩ := q
    exact ⟨x, vs, h1, h2, h3, gTs_mono ts h4 f⟩
theorem gTs_mono {K : PySem.W.Frag} : ∀ (t : List Tgt) {σ : L2.St} {v : List V} {H : Hp} {R R' : L2.St → Hp → Prop}, gTs K t v σ H R → (∀ σ H, R σ H → R' σ H) → gTs K t v σ H R'
  | [], σ, v, H, R, R', q, f => by
    simp only [gTs] at q ⊢
    exact ⟨q.1, f _ _ q.2⟩
  | t :: ts, σ, v, H, R, R', q, f => by
    simp only [gTs] at q ⊢
    obtain ⟨v, us, h1, h2⟩ := q
    exact ⟨v, us, h1, gT_mono t h2 fun σ H q => gTs_mono ts q f⟩
end
mutual
theorem ins_w {K : PySem.W.Frag} {own : List Nat} : ∀ (t : Tgt), Tgt.ins own t → ∀ (σ : L2.St) (v : V) (H : Hp) (R : L2.St → Hp → Prop), gT K t v σ H R → gT K t v σ H fun σ2 H2 => wipe σ2 own = wipe σ own ∧ R σ2 H2
  | .nm i, h, σ, v, H, R, q => by
    simp only [Tgt.ins] at h
    simp only [gT] at q ⊢
    exact ⟨wipe_set h, q⟩
  | .tp ts, h, σ, v, H, R, q => by
    simp only [Tgt.ins] at h
    simp only [gT] at q ⊢
    obtain ⟨x, vs, h1, h2, h3, h4⟩ := q
    exact ⟨x, vs, h1, h2, h3, inss_w ts h σ vs H R h4⟩
theorem inss_w {K : PySem.W.Frag} {own : List Nat} : ∀ (ts : List Tgt), Tgt.inss own ts → ∀ (σ : L2.St) (vs : List V) (H : Hp) (R : L2.St → Hp → Prop), gTs K ts vs σ H R → gTs K ts vs σ H fun σ2 H2 => wipe σ2 own = wipe σ own ∧ R σ2 H2
  | [], h, σ, vs, H, R, q => by
    simp only [gTs] at q ⊢
    exact ⟨q.1, rfl, q.2⟩
  | t :: ts, h, σ, vs, H, R, q => by
    simp only [Tgt.inss] at h
    simp only [gTs] at q ⊢
    obtain ⟨v, us, h1, h2⟩ := q
    refine ⟨v, us, h1, ?_⟩
    have := ins_w t h.1 σ v H _ h2
    have mono : ∀ (t : Tgt) {σ : L2.St} {v : V} {H : Hp} {R R' : L2.St → Hp → Prop}, gT K t v σ H R → (∀ σ H, R σ H → R' σ H) → gT K t v σ H R' := fun t σ v H R R' => gT_mono t
    refine mono t this fun σ1 H1 ⟨w, q⟩ => ?_
    have := inss_w ts h.2 σ1 us H1 R q
    rw [w] at this
    exact this
end
section
variable {G : Gm} {W : WX} {σ : L2.St} {H : Hp} {Q : VK}
theorem lc_w {mi : EM (List D)} {t : Tgt} {cond : EM Bool} {elt : EM D} {own : List Nat} (hf : Tgt.off G.io t) (ho : ∀ i ∈ G.io, i ∉ own) (hown : Tgt.ins own t)
    (h : tE G W (mLc mi t cond elt own) σ H Q) : tLc (tI G W mi) (gT G.C.K t) (tT G W0 cond) (tE G W0 elt) own σ H Q := by
  obtain ⟨a, env, rfl, rel, post⟩ := h
  refine ⟨a, env, rfl, rel, post.bind.imp fun ds e b st r p => ?_⟩
  dsimp only at p
  split at p
  · rename_i z
    refine ⟨z.1, fun J hJ A hA => ?_⟩
    have fA : b.F A = none := by
      cases q : b.F A with
      | none => rfl
      | some u => have := r.ok.sub A u q; rw [hA] at this; cases this
    have tA : b.t A = none := by
      cases q : b.t A with
      | none => rfl
      | some u => obtain ⟨_, u, h⟩ := r.ok.own A u q; rw [hA] at h; cases h
    -- the rest's post, told of a state of the loop
    let K : List D × EnvD → Res (D × EnvD) := fun (l, e') => .ok (.lst true l, restE e e' own)
    refine ⟨fun i m H => m = ds.length - i ∧ i ≤ ds.length ∧ ∃ c acc e1, c.H = H ∧ GrowL G.C b c A acc ∧ acc.length ≤ i ∧ e1.length = e.length ∧ RelE G c (wipe σ own) (wipeE e1 own) ∧
      PostR G W σ b ((loopL t cond elt own (ds.drop i) acc e1).bind K) fun d _ b => ∀ v, Rep G.C b 0 [] v d → Q v b.H, ⟨_, rfl, Nat.zero_le _, putA b A (.lst []), [], e, rfl, ?_, Nat.zero_le _, rfl, ?_, p⟩, ?_⟩
    · refine ⟨fun x o h t => ?_, putA_ok r.ok fA, fA, tA, ⟨[], upd_same, by simp [RepL]⟩, rfl⟩
      have ne : x ≠ A := by rintro rfl; rw [hA] at h; cases h
      exact ⟨by show upd b.H A _ x = _; rw [upd_ne ne]; exact h, t, rfl⟩
    · exact putA_rel (r.wiped ho) fA tA
    · rintro i m H ⟨rfl, hi, c, acc, e1, rfl, gl, hacc, hel, rc, pc⟩
      obtain ⟨hgo, hstop⟩ := hJ c gl.ok gl.st
      by_cases hlt : i < ds.length
      · obtain ⟨d, hd⟩ : ∃ d, ds[i]? = some d := ⟨_, List.getElem?_eq_getElem hlt⟩
        obtain ⟨h1, h2⟩ := hgo i d hd
        have hdrop : ds.drop i = d :: ds.drop (i + 1) := by
          rw [List.drop_eq_getElem_cons hlt]
          rw [List.getElem?_eq_getElem hlt] at hd
          cases hd; rfl
        rw [hdrop] at pc
        simp only [loopL] at pc
        refine .inr ⟨h1, fun H' => ∃ c acc e1, c.H = H' ∧ GrowL G.C b c A acc ∧ acc.length ≤ i + 1 ∧ e1.length = e.length ∧ RelE G c (wipe σ own) (wipeE e1 own) ∧
          PostR G W σ b ((loopL t cond elt own (ds.drop (i + 1)) acc e1).bind K) fun d _ b => ∀ v, Rep G.C b 0 [] v d → Q v b.H, fun H' q => ⟨ds.length - (i + 1), by omega, rfl, hlt, q⟩, fun x H' y => ?_⟩
        obtain ⟨c1, rfl, gr, ok1, rp⟩ := h2 x H' y
        cases ht : mTg t d (wipeE e1 own) with
        | none => rw [ht] at pc; exact (show False from pc).elim
        | some e2 =>
          rw [ht] at pc
          dsimp only at pc
          have gl1 := gl.next gr.step ok1
          refine gT_mono t (ins_w t hown _ x c1.H (fun σ2 H2 => H2 = c1.H ∧ RelE G c1 σ2 e2) (tg_w t hf (rc.grow gr ok1) (fzL_mem z.1 d (List.mem_of_getElem? hd)) rp ht fun σ2 r2 => ⟨rfl, r2⟩)) fun σ2 H2 ⟨hw, hH, r2⟩ => ?_
          subst hH
          rw [wipe_wipe] at hw
          refine ⟨hw, c1, e2, rfl, r2, ?_⟩
          have hlen : ∀ {c : Wd} {e' : EnvD}, RelE G c σ2 e' → e'.length = e.length := fun {c e'} r' => by
            have := congrArg List.length hw
            rw [wipe_length, wipe_length] at this
            rw [r'.len, this, r.len]
          cases hc : cond e2 with
          | bad => rw [hc] at pc; exact (show False from pc).elim
          | exc x e3 => rw [hc] at pc; exact (show False from pc).elim
          | ok be =>
            obtain ⟨bb, e3⟩ := be
            rw [hc] at pc
            intro c2 st2 r3
            cases bb with
            | false =>
              rw [if_neg Bool.false_ne_true]
              exact ⟨c2, acc, e3, rfl, gl1.next st2 r3.ok, Nat.le_succ_of_le hacc, hlen r3, r3.rewiped hw ho, pc⟩
            | true =>
              rw [if_pos rfl]
              refine ⟨c2, e3, rfl, r3, ?_⟩
              dsimp only at pc
              cases he : elt e3 with
              | bad => rw [he] at pc; exact (show False from pc).elim
              | exc x e4 => rw [he] at pc; exact (show False from pc).elim
              | ok ye =>
                obtain ⟨y, e4⟩ := ye
                rw [he] at pc
                intro c3 st3 r4 v rv
                have gl3 := (gl1.next st2 r3.ok).next st3 r4.ok
                obtain ⟨vs, k1, k2⟩ := gl3.h
                obtain ⟨zy, rq⟩ := frzQ_rep (s := 0) (q := []) r4.ok rv
                have gl4 := (gl3.next (frzW_step (r := 0)) (frzW_ok r4.ok)).push (vs := vs) hA k1 zy rq
                refine ⟨vs, k1, ?_, putA (frzW c3 0) A (.lst (vs ++ [v])), acc ++ [frzQ y], e4, rfl, gl4, ?_, hlen r4, ?_, pc⟩
                · rw [k2.len]; rw [show sizeLine = 16777216 from sizeLine_eq]; omega
                · rw [List.length_append]; simp only [List.length_cons, List.length_nil]; omega
                · exact putA_rel ((r4.rewiped hw ho).frz0) (gl3.next (frzW_step (r := 0)) (frzW_ok r4.ok)).f (gl3.next (frzW_step (r := 0)) (frzW_ok r4.ok)).t
      · have e2 : i = ds.length := by omega
        subst e2
        rw [List.drop_length] at pc
        refine .inl ⟨hstop, ?_⟩
        obtain ⟨vs, k1, k2⟩ := gl.h
        have pc : ∀ b', Step b b' → RelE G b' σ (restE e e1 own) → ∀ v, Rep G.C b' 0 [] v (.lst true acc) → Q v b'.H := pc
        have rel' := r.unwiped rc gl.st hel
        refine pc (tagA c A) (fun x o h t => ?_) ?_ (.ref A) ?_
        · obtain ⟨g1, g2, g3⟩ := gl.st x o h t
          have ne : x ≠ A := by rintro rfl; rw [hA] at h; cases h
          exact ⟨g1, by show (if x = A then some (0, []) else c.t x) = none; rw [if_neg ne]; exact g2, g3⟩
        · exact ⟨tagA_ok gl.ok gl.f k1, rel'.len, fun i d h => let ⟨v, e, q⟩ := rel'.slot i d h; ⟨v, e, tagA_to gl.t q⟩, rel'.prm⟩
        · simp only [Rep]
          refine ⟨A, vs, rfl, ?_, ?_⟩
          · rw [if_pos trivial]
            exact ⟨by show (if A = A then some (0, []) else c.t A) = _; rw [if_pos rfl], k1⟩
          · exact repL_to (fun d j v _ h => tagA_to gl.t h) gl.z k2
  · exact (show False from p).elim
end
end Mi
namespace Mi
open PySem PySem.Spec PyProof.Rows L2

/-! ### the context -/
structure St0 (X : Cx) (G : Gm) : Prop where
  p : X.prog = G.C.P
  w : X.w = G.C.w
  k : X.K = G.C.K
  m : X.mg = G.C.mg
  n : X.N.Nodup
  u : X.A.units + 64 < cLine
structure Go (X : Cx) (G : Gm) (W : WX) (lv : Nat) : Prop extends St0 X G where
  tk : Takes X W
  pw : PassesOwn (model X.prog X.w) X.A X.env X.xe
  rm : Room lv X.A
  cm : X.calm = true
theorem Go.blk {X : Cx} {G : Gm} {W : WX} {lv : Nat} (g : Go X G W lv) (s : Shared) (H : Hp) (scope : Scope) (e : Env) (fp : List Addr) : Go (X.blk s H scope e fp) G W0 lv :=
  { p := g.p, w := g.w, k := g.k, m := g.m, n := g.n, u := g.u, tk := takes0, pw := PassesOwn.never, rm := g.rm, cm := g.cm }
theorem Go.tr {X : Cx} {G : Gm} {W W' : WX} {lv : Nat} {pn : List (Addr × Obj)} {xe : Value → Shared → Prop} (g : Go X G W lv) (tk : Takes (X.tr pn xe) W') (pw : PassesOwn (model X.prog X.w) X.A X.env xe) : Go (X.tr pn xe) G W' lv :=
  { p := g.p, w := g.w, k := g.k, m := g.m, n := g.n, u := g.u, tk := tk, pw := pw, rm := g.rm, cm := g.cm }
theorem Go.suite {X : Cx} {G : Gm} {W : WX} {lv : Nat} (g : Go X G W lv) (a : Addr) (pn : List (Addr × Obj)) : St0 (X.suite a pn) G :=
  { p := g.p, w := g.w, k := g.k, m := g.m, n := g.n, u := g.u }

/-! ### isinstance of a built-in -/
inductive TyK where
  | tInt | tBool | tStr | tTup | tLst | tDic
def TyK.nm : TyK → String
  | .tInt => "int" | .tBool => "bool" | .tStr => "str" | .tTup => "tuple" | .tLst => "list" | .tDic => "dict"
def tyD : D → Option String
  | .non => some "NoneType" | .bl _ => some "bool" | .int _ => some "int" | .str _ => some "str" | .tup _ => some "tuple"
  | .lst _ _ => some "list" | .scr _ => some "list" | .dic _ _ _ => some "dict" | _ => none
def isK : TyK → D → Option Bool
  | _, .ty _ => none
  | _, .fn _ => none
  | _, .ins _ _ _ _ => none
  | .tInt, .int _ => some true
  | .tInt, .bl _ => some true
  | .tBool, .bl _ => some true
  | .tStr, .str _ => some true
  | .tTup, .tup _ => some true
  | .tLst, .lst _ _ => some true
  | .tLst, .scr _ => some true
  | .tDic, .dic _ _ _ => some true
  | _, _ => some false
theorem isK_kit {k : TyK} {d : D} {b : Bool} (h : isK k d = some b) : ∃ t, tyD d = some t ∧ kitB t k.nm = some b := by
  cases k <;> cases d <;> simp only [isK] at h <;> first | (cases h; done) | (cases h; exact ⟨_, rfl, by decide +kernel⟩)
theorem rep_ty {C : KM} {a : Wd} {r : Nat} {p : List Nat} {v : V} {d : D} {t : String} (k : Ok a) (h : tyD d = some t) (q : Rep C a r p v d) : TyX C.K a.H v (.type t) := by
  cases d <;> simp only [tyD] at h <;> (try (cases h; done)) <;> cases h
  case non => cases rep_non q; exact .base .non
  case bl b => cases rep_bl q; exact .base (.bl b)
  case int b => cases rep_int q; exact .base (.int b)
  case str b => cases rep_str q; exact .base (.str b)
  case tup l =>
    obtain ⟨x, vs, rfl, h1, h2⟩ := rep_tup k q
    rcases h1 with h1 | h1
    · rcases h1 with h1 | ⟨o, h1⟩
      · exact .base (.tup h1)
      · exact .fTuple h1
    · obtain ⟨o, _, _, h1, h2, _⟩ := h1
      exact .kTuple h1 h2
  case lst o l =>
    obtain ⟨x, vs, rfl, h1, h2⟩ := rep_lst k q
    exact .base (.lst h1)
  case scr l =>
    obtain ⟨x, rfl, h1⟩ := rep_scr k q
    rcases h1 with h1 | h1
    · rcases h1 with h1 | ⟨o, h1⟩
      · exact .base (.lst h1)
      · exact .base (.frz h1)
    · obtain ⟨o, _, _, h1, h2, _⟩ := h1
      exact .kList h1 h2
  case dic o ks ws =>
    obtain ⟨x, h, kv, vs, rfl, h1, h2, h3⟩ := rep_dic k q
    cases h2
    exact .base (.dK h1)
def mIsi (k : TyK) (ma : EM Arg) : EM D := fun env => (ma env).bind fun (x, e) => match x.get e with
  | some d => mLift ((isK k d).map .bl) e
  | none => .bad
/-! ### further readings -/
def mChain (g g' : D → D → Option D) (ma mb mc : EM Arg) : EM D := fun env => (ma env).bind fun (x, e1) => (mb e1).bind fun (y, e2) =>
  match x.get e2, y.get e2 with
  | some d1, some d2 => match (g d1 d2).bind D.bool with
    | some true => (mc e2).bind fun (z, e3) => match y.get e3, z.get e3 with
      | some d2', some d3 => mLift (g' d2' d3) e3
      | _, _ => .bad
    | some false => .ok (.bl false, e2)
    | none => .bad
  | _, _ => .bad
def mNoP : EM (Option Int) := fun env => .ok (none, env)
def mPart (m : EM D) : EM (Option Int) := fun env => (m env).bind fun (d, e) => match d with
  | .int i => .ok (some i, e)
  | _ => .bad
def mSl (ma : EM Arg) (ml mh : EM (Option Int)) : EM D := fun env => (ma env).bind fun (x, e1) => (ml e1).bind fun (lo, e2) => (mh e2).bind fun (hi, e3) =>
  match x.get e3 with
  | some d => mLift (slD d lo hi) e3
  | none => .bad
def tO (G : Gm) (W : WX) (m : EM (Option Int)) : TO := fun σ H Q => ∃ a env, a.H = H ∧ RelE G a σ env ∧ PostR G W σ a (m env) fun x _ b => Q x b.H
/- xs[k] = v, xs in slot j -/
def setQ (d i y : D) : Option D := match d, i with
  | .lst true l, .int k => (ixN l.length k).map fun n => .lst true (l.set n y)
  | _, _ => none
def mSet (j : Nat) (mi mv : EM D) : EM FlowD := fun env => (mv env).bind fun (y, e1) =>
  match e1[j]? with
  | some (some _) => (mFrz mi e1).bind fun (x, e2) => match e2[j]?, x.get e2 with
    | some (some d), some i => match setQ d i (frzQ y) with
      | some d' => .ok (.next, e2.set j (some d'))
      | none => .bad
    | _, _ => .bad
  | _ => .bad
theorem repL_map {C : KM} {a b : Wd} {r s : Nat} {p q : List Nat} (h : ∀ d j v, Rep C a r (j :: p) v d → Rep C b s (j :: q) v d) : ∀ {l : List D} {n : Nat} {vs : List V}, RepL C a r p n vs l → RepL C b s q n vs l
  | [], n, vs, e => e
  | d :: l, n, vs, ⟨v, us, e, h1, h2⟩ => ⟨v, us, e, h d n v h1, repL_map h h2⟩
theorem repL_set {C : KM} {a : Wd} {r : Nat} {p : List Nat} {y : D} {v : V} (hy : ∀ k, Rep C a r (k :: p) v y) : ∀ {l : List D} {m n : Nat} {vs : List V}, RepL C a r p m vs l → RepL C a r p m (vs.set n v) (l.set n y)
  | [], m, n, vs, e => by simp only [RepL] at e; subst e; simp [RepL]
  | d :: l, m, 0, vs, ⟨u, us, e, h1, h2⟩ => by subst e; exact ⟨v, us, rfl, hy m, h2⟩
  | d :: l, m, n + 1, vs, ⟨u, us, e, h1, h2⟩ => by subst e; exact ⟨u, us.set n v, rfl, h1, repL_set hy h2⟩
section
variable {G : Gm} {W : WX} {σ : L2.St} {H : Hp} {Q : VK} {ma mb mc : EM Arg}
theorem isi_w {k : TyK} (h : tE G W (mIsi k ma) σ H Q) : tCB (rIsi G.C.K) (tCons (tArg G W ma) (tCons (tC (.ty k.nm)) tNil)) σ H Q := by
  obtain ⟨a, env, rfl, rel, post⟩ := h
  refine tArg_of rel post fun x e b v st r ar p => ?_
  dsimp only at p
  cases hx : x.get e with
  | none => rw [hx] at p; exact (show False from p).elim
  | some d =>
    rw [hx] at p
    dsimp only at p
    obtain ⟨d', hd, k'⟩ := p.lift r
    obtain ⟨r1, p1⟩ := ar.rep r hx
    cases hk : isK k d with
    | none => rw [hk] at hd; cases hd
    | some bb =>
      rw [hk] at hd; cases hd
      obtain ⟨t, h1, h2⟩ := isK_kit hk
      exact ⟨v, .ty k.nm, .type t, .type k.nm, bb, rfl, .ty _, rep_ty r.ok h1 p1, kit_ty h2, k' b (Grow.refl b) r.ok _ rep_ofbl⟩
theorem chain_w {g g' : D → D → Option D} (h : tE G W (mChain g g' ma mb mc) σ H Q) : tChain (rD G.C g) (rD G.C g') (tArg G W ma) (tArg G W mb) (tArg G W mc) σ H Q := by
  obtain ⟨a, env, rfl, rel, post⟩ := h
  refine tArg_of rel post fun x e1 b v s1 rel1 ar1 post1 => ?_
  refine tArg_of rel1 post1 fun y e2 c u s2 rel2 ar2 post2 => ?_
  have ar1 := ar1.step rel1.ok s2
  dsimp only at post2
  cases hx : x.get e2 with
  | none => simp only [hx] at post2; exact (show False from post2).elim
  | some d1 =>
    cases hy : y.get e2 with
    | none => simp only [hx, hy] at post2; exact (show False from post2).elim
    | some d2 =>
      simp only [hx, hy] at post2
      cases hg : g d1 d2 with
      | none => simp only [hg] at post2; exact (show False from post2).elim
      | some dd =>
        cases hb : dd.bool with
        | none => simp only [hg, Option.bind_some, hb] at post2; exact (show False from post2).elim
        | some bb =>
          simp only [hg, Option.bind_some, hb] at post2
          cases D.bool_eq hb
          obtain ⟨r1, p1⟩ := ar1.rep rel2 hx
          obtain ⟨r2, p2⟩ := ar2.rep rel2 hy
          refine ⟨c, d1, d2, r1, r2, _, rfl, rel2.ok, p1, p2, hg, fun z b' gr ok rp => ?_⟩
          cases rep_bl rp
          have rel3 := rel2.grow gr ok
          refine ⟨bb, rfl, ?_⟩
          cases bb with
          | false =>
            rw [if_neg Bool.false_ne_true]
            exact post2 b' gr.step rel3 _ rep_ofbl
          | true =>
            rw [if_pos rfl]
            refine tArg_of rel3 (PostR.step gr.step post2) fun z e3 c3 u3 s3 rel4 ar3 post3 => ?_
            dsimp only at post3
            have ar2 := (ar2.step rel2.ok gr.step).step ok s3
            cases hy : y.get e3 with
            | none => simp only [hy] at post3; exact (show False from post3).elim
            | some d2' =>
              cases hz : z.get e3 with
              | none => simp only [hy, hz] at post3; exact (show False from post3).elim
              | some d3 =>
                simp only [hy, hz] at post3
                obtain ⟨d, hd, k⟩ := post3.lift rel4
                obtain ⟨r3, p3⟩ := ar2.rep rel4 hy
                obtain ⟨r4, p4⟩ := ar3.rep rel4 hz
                exact ⟨c3, d2', d3, r3, r4, d, rfl, rel4.ok, p3, p4, hd, fun z b' gr ok rp => k b' gr ok z rp⟩
theorem noP_w {R : Option Int → Hp → Prop} (h : tO G W mNoP σ H R) : tNoPart σ H R := by
  obtain ⟨a, env, rfl, rel, post⟩ := h
  exact post a (Step.refl a) rel
theorem part_w {m : EM D} {R : Option Int → Hp → Prop} (h : tO G W (mPart m) σ H R) : tPart (tE G W m) σ H R := by
  obtain ⟨a, env, rfl, rel, post⟩ := h
  refine tE_of rel post fun x e b v st r rp p => ?_
  dsimp only at p
  cases x <;> dsimp only at p <;> first | exact (show False from p).elim | skip
  cases rep_int rp
  exact ⟨_, rfl, p b (Step.refl b) r⟩
theorem sl_w {ml mh : EM (Option Int)} (h : tE G W (mSl ma ml mh) σ H Q) : tSl (rSD G.C) (tArg G W ma) (tO G W ml) (tO G W mh) σ H Q := by
  obtain ⟨a, env, rfl, rel, post⟩ := h
  refine tArg_of rel post fun x e1 b v s1 rel1 ar1 post1 => ?_
  refine ⟨b, e1, rfl, rel1, post1.bind.imp fun lo e2 c s2 rel2 post2 => ?_⟩
  refine ⟨c, e2, rfl, rel2, post2.bind.imp fun hi e3 c3 s3 rel3 post3 => ?_⟩
  dsimp only at post3
  have ar1 := (ar1.step rel1.ok s2).step rel2.ok s3
  cases hx : x.get e3 with
  | none => rw [hx] at post3; exact (show False from post3).elim
  | some d1 =>
    rw [hx] at post3
    dsimp only at post3
    obtain ⟨d, hd, k⟩ := post3.lift rel3
    obtain ⟨r1, p1⟩ := ar1.rep rel3 hx
    exact ⟨c3, d1, r1, d, rfl, rel3.ok, p1, hd, fun z b' gr ok rp => k b' gr ok z rp⟩
/- the slot's own list changed at a place -/
theorem RelE.put {a : Wd} {env : EnvD} {j : Nat} {l : List D} {y : D} {v : V} {n s : Nat} {q : List Nat} (r : RelE G a σ env) (h : env[j]? = some (some (.lst true l))) (z : fz y = true) (hy : Rep G.C a s q v y) :
    ∃ x vs, σ[j]? = some (some (.ref x)) ∧ a.H x = some (.lst vs) ∧ vs.length = l.length ∧ Step a ⟨a.F, upd a.H x (.lst (vs.set n v)), a.t⟩ ∧ RelE G ⟨a.F, upd a.H x (.lst (vs.set n v)), a.t⟩ σ (env.set j (some (.lst true (l.set n y)))) := by
  obtain ⟨w, h1, h2⟩ := r.slot j _ h
  simp only [Rep] at h2
  obtain ⟨x, vs, rfl, hx, hl⟩ := h2
  rw [if_pos trivial] at hx
  obtain ⟨tx, hx⟩ := hx
  have ne : ∀ {y : Addr} {t : Option Tag}, a.t y = t → t ≠ some (j + 1, []) → y ≠ x := fun e ht => by rintro rfl; rw [tx] at e; exact ht e.symm
  have fx : a.F x = none := (r.ok.own x _ tx).1
  have up : ∀ {y : Addr}, y ≠ x → upd a.H x (.lst (vs.set n v)) y = a.H y := fun e => upd_ne e
  have ok' : Ok ⟨a.F, upd a.H x (.lst (vs.set n v)), a.t⟩ := by
    refine ⟨fun y o e => ?_, fun y t e => ?_⟩
    · have : y ≠ x := by rintro rfl; have e : a.F y = some o := e; rw [fx] at e; cases e
      show upd a.H x _ y = _
      rw [up this]; exact r.ok.sub y o e
    · obtain ⟨g1, o, g2⟩ := r.ok.own y t e
      by_cases q : y = x
      · subst q; exact ⟨g1, _, upd_same⟩
      · exact ⟨g1, o, by show upd a.H x _ y = _; rw [up q]; exact g2⟩
  have mv : ∀ {d : D} {r p} {v1 : V}, (∀ z, (r, z ++ p) ≠ (j + 1, ([] : List Nat))) → Rep G.C a r p v1 d → Rep G.C ⟨a.F, upd a.H x (.lst (vs.set n v)), a.t⟩ r p v1 d := fun {d r p v1} hne h => by
    have := Rep.to (C := G.C) (a := a) (b := ⟨a.F, upd a.H x (.lst (vs.set n v)), a.t⟩) (r := r) (s := r) (p := p) (q := p) (fun _ _ h => h) (fun y z o h e => ⟨h, by
      show upd a.H x _ y = _
      rw [up (ne h (by intro q; exact hne z (Option.some.inj q)))]; exact e⟩) d [] v1
    exact this h
  refine ⟨x, vs, h1, hx, hl.len, fun y o e t => ⟨by show upd a.H x _ y = _; rw [up (ne t (by simp))]; exact e, t, rfl⟩, ⟨ok', by rw [List.length_set]; exact r.len, fun i d e => ?_, r.prm⟩⟩
  by_cases ij : j = i
  · subst ij
    have hj : j < env.length := (List.getElem?_eq_some_iff.mp h).1
    rw [List.getElem?_set_self hj] at e
    cases e
    refine ⟨.ref x, h1, ?_⟩
    simp only [Rep]
    refine ⟨x, vs.set n v, rfl, ?_, ?_⟩
    · rw [if_pos trivial]; exact ⟨tx, upd_same⟩
    · exact repL_set (fun k => Rep.fz (a := a) (b := ⟨a.F, upd a.H x (.lst (vs.set n v)), a.t⟩) (fun _ _ h => h) y _ _ v z hy) (repL_map (fun d k v1 h => mv (by simp) h) hl)
  · rw [List.getElem?_set_ne ij] at e
    obtain ⟨w, e1, e2⟩ := r.slot i d e
    exact ⟨w, e1, mv (by intro z q; exact ij (Nat.succ.inj (congrArg Prod.fst q)).symm) e2⟩
theorem set_w {j : Nat} {mi mv : EM D} {D : Ends} (h : tS G W (mSet j mi mv) D σ H) : tAsg (tE G W mv) (gSub (tVar j) (tE G W mi) rSetL) D σ H := by
  obtain ⟨a, env, rfl, rel, post⟩ := h
  refine tE_ofS rel post fun y e1 b v st r1 rv p1 => ?_
  dsimp only at p1
  split at p1
  · rename_i dj hj0
    obtain ⟨zy, ry⟩ := frzQ_rep (s := 0) (q := []) r1.ok rv
    have r1' := r1.frz0
    obtain ⟨w, hw, _⟩ := r1.slot j _ hj0
    refine ⟨w, hw, ?_⟩
    show tE G W mi σ (frzW b 0).H _
    refine (frz_w (m := mi) (Q := fun i H2 => rSetL w i v H2 fun H3 => D.nx σ H3) ?_)
    refine tArg_ofS r1' (PostS.step frzW_step p1) fun x e2 c u s2 r2 ar p2 => ?_
    dsimp only at p2
    split at p2
    · rename_i d i hj hi
      cases hs : setQ d i (frzQ y) with
      | none => rw [hs] at p2; exact (show False from p2).elim
      | some d' =>
        rw [hs] at p2
        dsimp only at p2
        obtain ⟨ri, pi⟩ := ar.rep r2 hi
        unfold setQ at hs
        split at hs
        · rename_i l k
          cases rep_int pi
          cases hk : ixN l.length k with
          | none => rw [hk] at hs; cases hs
          | some n =>
            rw [hk] at hs; cases hs
            obtain ⟨xx, vs, g1, g2, g3, g4, g5⟩ := r2.put (n := n) (s := 0) (q := []) hj zy (ry.step r1'.ok s2 zy)
            rw [hw] at g1; cases g1
            refine ⟨xx, vs, k, n, rfl, rfl, g2, by rw [g3]; exact hk, p2 _ σ g4 g5⟩
        · cases hs
    · exact (show False from p2).elim
  · exact (show False from p1).elim
end
end Mi
namespace L2
open PySem PySem.Spec PyProof.Rows
theorem PE.weak {X : Cx} {e : Expr} {t u : TE} (h : PE X e t) (w : ∀ σ H Q, u σ H Q → t σ H Q) : PE X e u := Mi.PE.weak h w
theorem PT.weak {X : Cx} {e : Expr} {t u : TT} (h : PT X e t) (w : ∀ σ H Q, u σ H Q → t σ H Q) : PT X e u := Mi.PT.weak h w
theorem PW.weak {X : Cx} {e : Expr} {t u : TT} (h : PW X e t) (w : ∀ σ H Q, u σ H Q → t σ H Q) : PW X e u := Mi.PW.weak h w
theorem PA.weak {X : Cx} {e : List Expr} {t u : TA} (h : PA X e t) (w : ∀ σ H Q, u σ H Q → t σ H Q) : PA X e u := Mi.PA.weak h w
theorem PS.weak {X : Cx} {e : Stmt} {t u : TS} (h : PS X e t) (w : ∀ D σ H, u D σ H → t D σ H) : PS X e u := Mi.PS.weak h w
theorem PSs.weak {X : Cx} {e : List Stmt} {t u : TS} (h : PSs X e t) (w : ∀ D σ H, u D σ H → t D σ H) : PSs X e u := Mi.PSs.weak h w
theorem PI.weak {X : Cx} {tg e : Expr} {t u : TI} (h : PI X tg e t) (w : ∀ σ H R, u σ H R → t σ H R) : PI X tg e u := Mi.PI.weak h w
end L2
namespace Mi
open PySem PySem.Spec PyProof.Rows L2

/-! ### rules: expressions -/
section
variable {X : Cx} {G : Gm} {W : WX} {lv : Nat} {a b c e : Expr} {es : List Expr} {ma mb mc : EM Arg} {m n : EM D} {ms : List (EM Arg)} {mas : EM (List Arg)} {pos p : Pos} {x : Str}
theorem r_int {i : Int} {j} : PE X (.Constant (.int i) j pos) (tE G W (mC (.int i))) := pe_int.weak fun _ _ _ q => c_w (fun _ _ => by simp [Rep]) q
theorem r_str {i : Str} {j} : PE X (.Constant (.str i) j pos) (tE G W (mC (.str i))) := pe_str.weak fun _ _ _ q => c_w (fun _ _ => by simp [Rep]) q
theorem r_bl {i : Bool} {j} : PE X (.Constant (.bool i) j pos) (tE G W (mC (.bl i))) := pe_bl.weak fun _ _ _ q => c_w (fun _ _ => by simp [Rep]) q
theorem r_non {j} : PE X (.Constant .none j pos) (tE G W (mC .non)) := pe_non.weak fun _ _ _ q => c_w (fun _ _ => by simp [Rep]) q
theorem r_frz (h : PE X e (tE G W m)) : PE X e (tArg G W (mFrz m)) := h.weak fun _ _ _ q => frz_w q
theorem r_varA (i : Nat) (hN : X.N[i]? = some x) (hv : Vis X.env.scope x) (hd : (x == ("__debug__" : Str)) = false := by decide) (hcd : (x == ("__classdict__" : Str)) = false := by decide) : PE X (.Name x pos) (tArg G W (mVarA i)) :=
  (pe_var hN hv hd hcd).weak fun _ _ _ q => varA_w q
theorem r_varE (i : Nat) (hN : X.N[i]? = some x) (hv : Vis X.env.scope x) (hd : (x == ("__debug__" : Str)) = false := by decide) (hcd : (x == ("__classdict__" : Str)) = false := by decide) : PE X (.Name x pos) (tE G W (mVarE i)) :=
  (pe_var hN hv hd hcd).weak fun _ _ _ q => varE_w q
theorem r_varM (np i : Nat) (hN : X.N[i]? = some x) (hv : Vis X.env.scope x) (hd : (x == ("__debug__" : Str)) = false := by decide) (hcd : (x == ("__classdict__" : Str)) = false := by decide) : PE X (.Name x pos) (tE G W (mVarM np i)) :=
  (pe_var hN hv hd hcd).weak fun _ _ _ q => varM_w q
/- a module's constant -/
theorem r_gInt (s : St0 X G) {i : Int} (hm : ∃ t, G.C.mg x = some (.int i t)) (hg : Gl X x) (hd : (x == ("__debug__" : Str)) = false := by decide) : PE X (.Name x pos) (tE G W (mC (.int i))) := by
  obtain ⟨t, hm⟩ := hm
  exact (pe_glob (v := .int i) hg (by rw [s.m]; exact hm) ⟨_, rfl⟩ hd).weak fun _ _ _ q => c_w (fun _ _ => by simp [Rep]) q
theorem r_gStr (s : St0 X G) {i : Str} (hm : ∃ t, G.C.mg x = some (.str i t)) (hg : Gl X x) (hd : (x == ("__debug__" : Str)) = false := by decide) : PE X (.Name x pos) (tE G W (mC (.str i))) := by
  obtain ⟨t, hm⟩ := hm
  exact (pe_glob (v := .str i) hg (by rw [s.m]; exact hm) ⟨_, rfl⟩ hd).weak fun _ _ _ q => c_w (fun _ _ => by simp [Rep]) q
theorem r_tup {k} (h : PA X es (tArgs G W mas)) : PE X (.Tuple es k pos) (tE G W (mTup mas)) := (pe_tupX h).weak fun _ _ _ q => tup_w q
theorem r_lst (h : PA X es (tArgs G W mas)) : PE X (.List es pos) (tE G W (mLst mas)) := (pe_lst h).weak fun _ _ _ q => lst_w q
theorem r_dic0 : PE X (.Dict [] [] pos) (tE G W mDic0) := pe_dnewK.weak fun _ _ _ q => dic0_w q
theorem r_nil : PA X [] (tArgs G W (mArgs [])) := pa_nil.weak fun _ _ _ q => args_nil_w q
theorem r_cons (ha : PE X e (tArg G W ma)) (hr : PA X es (tArgs G W (mArgs ms))) (hs : starEach (e :: es) X.env = (false, eval e X.env) :: starEach es X.env := by rfl) : PA X (e :: es) (tArgs G W (mArgs (ma :: ms))) :=
  (pa_cons ha hr hs).weak fun _ _ _ q => args_cons_w q
theorem r_bin (s : St0 X G) {op : Operator} {g : D → D → Option D} (h : binD op = some g) (ha : PE X a (tArg G W ma)) (hb : PE X b (tArg G W mb)) : PE X (.BinOp a op b pos) (tE G W (mBin g ma mb)) :=
  (pe_op (op_binD s.k.symm h) ha hb).weak fun _ _ _ q => bin_w q
theorem r_neg (ha : PE X a (tArg G W ma)) : PE X (.UnaryOp .USub a pos) (tE G W (mUn negD ma)) := (pe_un un_negD ha).weak fun _ _ _ q => un_w q
def cmpD : CmpOp → Option (D → D → Option D)
  | .Eq => some eqD | .NotEq => some neD | .Lt => some ltD | .LtE => some leD | .Gt => some gtD | .GtE => some geD
  | .In => some inD | .NotIn => some ninD | .Is => some isD | .IsNot => some nisD
theorem op_cmpD (s : St0 X G) {op : CmpOp} {g : D → D → Option D} (h : cmpD op = some g) : OpR X (compareOp op) (rD G.C g) := by
  have u1 : X.A.units + 1 < cLine := by have := s.u; omega
  cases op <;> cases h
  · exact op_eqDD s.k.symm s.u
  · exact op_neDD s.k.symm s.u
  · exact op_ltD
  · exact op_leD
  · exact op_gtD
  · exact op_geD
  · exact op_isD s.k.symm
  · exact op_nisD s.k.symm
  · exact op_inD s.k.symm u1
  · exact op_ninD s.k.symm u1
theorem r_cmp (s : St0 X G) {op : CmpOp} {g : D → D → Option D} (h : cmpD op = some g) (ha : PE X a (tArg G W ma)) (hb : PE X b (tArg G W mb)) (hm : behindInMarks op b = false := by first | rfl | exact nobehind _ (by decide) (by decide)) : PE X (.Compare a [op] [b] pos) (tE G W (mBin g ma mb)) :=
  (pe_cmpR (op_cmpD s h) ha hb hm).weak fun _ _ _ q => bin_w q
theorem rt_cmp (s : St0 X G) {op : CmpOp} {g : D → D → Option D} (h : cmpD op = some g) (ha : PE X a (tArg G W ma)) (hb : PE X b (tArg G W mb)) (hm : behindInMarks op b = false := by first | rfl | exact nobehind _ (by decide) (by decide)) : PT X (.Compare a [op] [b] pos) (tT G W (mTB (mBin g ma mb))) :=
  (pt_cmpR (op_cmpD s h) ha hb hm).weak fun _ _ _ q => bin_w (tb_w q)
theorem r_chain (s : St0 X G) {op op' : CmpOp} {g g' : D → D → Option D} (h : cmpD op = some g) (h' : cmpD op' = some g') (ha : PE X a (tArg G W ma)) (hb : PE X b (tArg G W mb)) (hc : PE X c (tArg G W mc)) (hm : lastMarks [op, op'] [b, c] = false := by with_unfolding_all rfl) :
    PE X (.Compare a [op, op'] [b, c] pos) (tE G W (mChain g g' ma mb mc)) := (pe_chain (op_cmpD s h) (op_cmpD s h') ha hb hc hm).weak fun _ _ _ q => chain_w q
theorem rt_chain (s : St0 X G) {op op' : CmpOp} {g g' : D → D → Option D} (h : cmpD op = some g) (h' : cmpD op' = some g') (ha : PE X a (tArg G W ma)) (hb : PE X b (tArg G W mb)) (hc : PE X c (tArg G W mc)) (hm : lastMarks [op, op'] [b, c] = false := by with_unfolding_all rfl) :
    PT X (.Compare a [op, op'] [b, c] pos) (tT G W (mTB (mChain g g' ma mb mc))) := (pt_chain (op_cmpD s h) (op_cmpD s h') ha hb hc hm).weak fun _ _ _ q => chain_w (tb_w q)
/-! values of and, or, not, if -/
theorem r_one {op} (h : PE X a (tE G W m)) : PE X (.BoolOp op [a] pos) (tE G W m) := pe_one h
theorem r_and (ha : PE X a (tE G W m)) (hb : PE X (.BoolOp .And (b :: es) pos) (tE G W n)) : PE X (.BoolOp .And (a :: b :: es) pos) (tE G W (mAndV m n)) := (pe_and ha hb).weak fun _ _ _ q => andV_w q
theorem r_or (ha : PE X a (tE G W m)) (hb : PE X (.BoolOp .Or (b :: es) pos) (tE G W n)) : PE X (.BoolOp .Or (a :: b :: es) pos) (tE G W (mOrV m n)) := (pe_or ha hb).weak fun _ _ _ q => orV_w q
theorem r_not (ha : PE X a (tE G W m)) : PE X (.UnaryOp .Not a pos) (tE G W (mNotV m)) := (pe_not ha).weak fun _ _ _ q => notV_w q
variable {mt nt : EM Bool}
theorem r_ifE (hc : PT X c (tT G W mt)) (ha : PE X a (tE G W m)) (hb : PE X b (tE G W n)) : PE X (.IfExp c a b pos) (tE G W (mIfE mt m n)) := (pe_ifExp hc ha hb).weak fun _ _ _ q => ifE_w q
/-! tests -/
theorem rt_and1 (h : PT X a (tT G W mt)) : PW X (.BoolOp .And [a] pos) (tT G W mt) := pw_and1 h
theorem rt_or1 (h : PT X a (tT G W mt)) : PW X (.BoolOp .Or [a] pos) (tT G W mt) := pw_or1 h
theorem rt_and (h : PT X a (tT G W mt)) (hb : PW X (.BoolOp .And (b :: es) pos) (tT G W nt)) : PW X (.BoolOp .And (a :: b :: es) pos) (tT G W (mAndT mt nt)) := (pw_and h hb).weak fun _ _ _ q => and_w q
theorem rt_or (h : PT X a (tT G W mt)) (hb : PW X (.BoolOp .Or (b :: es) pos) (tT G W nt)) : PW X (.BoolOp .Or (a :: b :: es) pos) (tT G W (mOrT mt nt)) := (pw_or h hb).weak fun _ _ _ q => or_w q
theorem rt_not (h : PT X a (tT G W mt)) : PT X (.UnaryOp .Not a pos) (tT G W (mNotT mt)) := (pt_not h).weak fun _ _ _ q => not_w q
theorem rt_bl (h : PE X e (tE G W m)) (he : ∀ whole, isTrue e X.env whole = (do let v ← whole; standAt e.pos; holding [v] (truthy v)) := by intro _; rfl) : PT X e (tT G W (mTB m)) := (pt_val h he).weak fun _ _ _ q => tb_w q
theorem rt_tru (s : St0 X G) (h : PE X e (tArg G W ma)) (he : ∀ whole, isTrue e X.env whole = (do let v ← whole; standAt e.pos; holding [v] (truthy v)) := by intro _; rfl) : PT X e (tT G W (mTru ma)) := (pt_truth h he).weak fun _ _ _ q => by
  have := tru_w q
  rw [s.k]; exact this
/-! subscripts -/
theorem r_ix (s : St0 X G) (ha : PE X a (tArg G W ma)) (hb : PE X b (tArg G W mb)) (hs : PlainIx b := by intro _ _; rfl) : PE X (.Subscript a b pos) (tE G W (mBin ixD ma mb)) := (pe_ix (ix_D s.k.symm (by have := s.u; omega)) ha hb hs).weak fun _ _ _ q => bin_w q
variable {lo hi : Option Expr} {ml mh : EM (Option Int)} {p2 : Pos}
theorem PO.weak {o : Option Expr} {t u : TO} (h : PO X o t) (w : ∀ σ H Q, u σ H Q → t σ H Q) : PO X o u := ⟨fun pins s σ H Q I q => h.run pins s σ H Q I (w σ H Q q)⟩
theorem r_noP : PO X none (tO G W mNoP) := PO.weak po_none fun _ _ _ q => noP_w q
theorem r_part (h : PE X e (tE G W m)) : PO X (some e) (tO G W (mPart m)) := PO.weak (po_some h) fun _ _ _ q => part_w q
theorem r_sl (s : St0 X G) (ha : PE X a (tArg G W ma)) (hl : PO X lo (tO G W ml)) (hh : PO X hi (tO G W mh)) : PE X (.Subscript a (.Slice lo hi none p2) pos) (tE G W (mSl ma ml mh)) := (pe_slice (sl_D s.k.symm) ha hl hh).weak fun _ _ _ q => sl_w q
/-! builtins -/
theorem r_isi (s : St0 X G) (k : TyK) {tn : Str} {p3 : Pos} (ha : PE X a (tArg G W ma)) (h1 : G.C.mg "isinstance" = none) (h2 : G.C.mg tn = none) (hg : Gl X "isinstance") (hgt : Gl X tn) (hv : bootBuiltins tn = some (.type k.nm)) (hv1 : bootBuiltins "isinstance" = some (.builtin "isinstance"))
    (hn : tn ≠ "__name__" := by decide) (hd : (tn == ("__debug__" : Str)) = false := by decide)
    (hs : starEach [a, .Name tn p3] X.env = (false, eval a X.env) :: starEach [.Name tn p3] X.env := by rfl) (hpl : (backTo pos (starEach [Expr.Name tn p3] X.env)).any (·.1) = false := by rfl) :
    PE X (.Call (.Name "isinstance" p) [a, .Name tn p3] [] pos) (tE G W (mIsi k ma)) :=
  (pe_callB call_isi hg (by rw [s.m]; exact h1) hv1 (pa_cons ha (pa_cons (pe_bltn hgt (by rw [s.m]; exact h2) hv (show RelV (.ty k.nm) _ from rfl) hn hd) pa_nil) hs) (by decide) (by decide) hs hpl).weak fun _ _ _ q => by
    have := isi_w q
    rw [s.k]; exact this
theorem r_cb (s : St0 X G) {id : String} {g : List D → Option D} (hc : CallR X (.builtin id) (cD G.C g)) (hm : G.C.mg x = none) (hv : bootBuiltins x = some (.builtin id)) (hg : Gl X x) (ha : PA X (e :: es) (tArgs G W mas)) (hn : x ≠ "__name__" := by decide) (hdb : (x == ("__debug__" : Str)) = false := by decide)
    (he : starEach (e :: es) X.env = (false, eval e X.env) :: starEach es X.env := by rfl) (hpl : (backTo pos (starEach es X.env)).any (·.1) = false := by rfl) : PE X (.Call (.Name x p) (e :: es) [] pos) (tE G W (mCB g mas)) :=
  (pe_callB hc hg (by rw [s.m]; exact hm) hv ha hn hdb he hpl).weak fun _ _ _ q => cb_w q
theorem r_cty (s : St0 X G) {id : String} {g : List D → Option D} (hc : CallR X (.type id) (cD G.C g)) (hm : G.C.mg x = none) (hv : bootBuiltins x = some (.type id)) (hg : Gl X x) (ha : PA X (e :: es) (tArgs G W mas)) (hn : x ≠ "__name__" := by decide) (hdb : (x == ("__debug__" : Str)) = false := by decide)
    (he : starEach (e :: es) X.env = (false, eval e X.env) :: starEach es X.env := by rfl) (hpl : (backTo pos (starEach es X.env)).any (·.1) = false := by rfl) : PE X (.Call (.Name x p) (e :: es) [] pos) (tE G W (mCB g mas)) :=
  (pe_callTy hc hg (by rw [s.m]; exact hm) hv ha hn hdb he hpl).weak fun _ _ _ q => cb_w q
end

/-! ### rules: own defs -/
structure Fn (C : KM) (k : Nat) (x : Str) (g : List D → Res (D × EnvD)) : Prop where
  ex : ∃ (a : Addr) (fd : FuncData) (ps : List Str), C.mg x = some (.ref a) ∧ PySem.W.keepIn C.K (.ref a) = true ∧ Binds C.K fd ps [] ∧ ∀ base : Heap, C.K.In base → base.Ns mainGlobals C.mg → FnOk C.P C.w C.K C.mg base (L2.CX C.P C.w) k a fd ps (spD C g)
section
variable {X : Cx} {G : Gm} {W : WX} {lv j : Nat} {e : Expr} {es : List Expr} {mas : EM (List Arg)} {pos p : Pos} {x : Str} {g : List D → Res (D × EnvD)}
theorem Fn.call (F : Fn G.C j x g) (s : Go X G W lv) (h : j ≤ lv) : ∃ a, G.C.mg x = some (.ref a) ∧ PySem.W.keepIn G.C.K (.ref a) = true ∧ CallOk G.C X g (.ref a) := by
  obtain ⟨a, fd, ps, h1, h2, h3, h4⟩ := F.ex
  refine ⟨a, h1, h2, fun W' tk pins s0 σ H us vs Q I r hsp => ?_⟩
  have hk : G.C.K.In X.base := by rw [← s.k]; exact I.ok.mod.kin
  have hb : X.base.Ns mainGlobals G.C.mg := by rw [← s.m]; exact I.ok.mod.glob
  have F' := h4 X.base hk hb
  have e1 := s.p; have e2 := s.w; have e3 := s.k; have e4 := s.m
  rw [← e1, ← e2, ← e3, ← e4] at F'
  rw [← e3] at h3
  exact run_fnS (E := WE W') F' (s.rm.mono h) h3 (passAt tk σ) I r hsp
theorem r_call (s : Go X G W lv) (F : Fn G.C j x g) (hj : j ≤ lv) (hg : Gl X x) (ha : PA X (e :: es) (tArgs G W mas)) (hdb : (x == ("__debug__" : Str)) = false := by decide) (he : starEach (e :: es) X.env = (false, eval e X.env) :: starEach es X.env := by rfl)
    (hpl : (backTo pos (starEach es X.env)).any (·.1) = false := by rfl) : PE X (.Call (.Name x p) (e :: es) [] pos) (tE G W (mCall g mas)) := by
  obtain ⟨a, h1, h2, h3⟩ := F.call s hj
  exact pe_callD h3 s.tk hg (by rw [s.m]; exact h1) (by rw [s.k]; exact h2) ha hdb he hpl
theorem r_call0 (s : Go X G W lv) (F : Fn G.C j x g) (hj : j ≤ lv) (hg : Gl X x) (hdb : (x == ("__debug__" : Str)) = false := by decide) : PE X (.Call (.Name x p) [] [] pos) (tE G W (mCall g (mArgs []))) := by
  obtain ⟨a, h1, h2, h3⟩ := F.call s hj
  exact pe_callD0 h3 s.tk hg (by rw [s.m]; exact h1) (by rw [s.k]; exact h2) hdb
end

/-! ### rules: walks, targets -/
section
variable {X : Cx} {G : Gm} {W : WX} {lv : Nat} {a b e tg : Expr} {es : List Expr} {ma : EM Arg} {mas : EM (List Arg)} {pos p : Pos} {x : Str}
theorem ri_rng1 (s : St0 X G) (h1 : G.C.mg "range" = none) (hg : Gl X "range") (ha : PA X [a] (tArgs G W mas)) (hs : starEach [a] X.env = [(false, eval a X.env)] := by rfl) : PI X tg (.Call (.Name "range" p) [a] [] pos) (tI G W (mIt mas rng1)) :=
  (pi_range1 hg (by rw [s.m]; exact h1) ha hs).weak fun _ _ _ q => rng1_w q
theorem ri_rng2 (s : St0 X G) (h1 : G.C.mg "range" = none) (hg : Gl X "range") (ha : PA X [a, b] (tArgs G W mas)) (hs : starEach [a, b] X.env = [(false, eval a X.env), (false, eval b X.env)] := by rfl) (hs2 : starEach [b] X.env = [(false, eval b X.env)] := by rfl) : PI X tg (.Call (.Name "range" p) [a, b] [] pos) (tI G W (mIt mas rng2)) :=
  (pi_range2 hg (by rw [s.m]; exact h1) ha hs hs2).weak fun _ _ _ q => rng2_w q
theorem ri_val (s : St0 X G) (ha : PE X e (tArg G W ma)) : PI X tg e (tI G W (mIt1 ma)) :=
  (pi_or (pi_list ha) (pi_or (pi_tup ha) (pi_str ha))).weak fun _ _ _ q => by
    have := it1_w q
    rw [s.k]; exact this
theorem rg_nm (s : St0 X G) (i : Nat) (hi : X.N[i]? = some x) (hx : Loc X.env.scope x) (hf : X.fn x = true ∨ X.env.scope.names.lookup x = some .local := by first | exact .inl rfl | exact .inr rfl) : PG X (.Name x pos) (gT G.C.K (.nm i)) := by
  have := pg_name (pos := pos) s.n hi hx hf
  simpa only [gT] using this
theorem rg_nil : PGs X [] (gTs G.C.K []) := by simpa only [gTs] using pgs_nil
theorem rg_cons {t : Tgt} {ts : List Tgt} (h1 : PG X e (gT G.C.K t)) (h2 : PGs X es (gTs G.C.K ts)) (hs : (assignEach (e :: es) X.env).map (·.2) = assign e X.env :: (assignEach es X.env).map (·.2) := by rfl) : PGs X (e :: es) (gTs G.C.K (t :: ts)) := by
  simpa only [gTs] using pgs_cons h1 h2 hs
theorem rg_tup (s : St0 X G) (cm : X.calm = true) {k : Nat} {ts : List Tgt} (h : PGs X es (gTs G.C.K ts)) (hn : (assignEach es X.env).length = ts.length := by rfl) (hst : (assignEach es X.env).findIdx? (·.1) = none := by rfl) : PG X (.Tuple es k pos) (gT G.C.K (.tp ts)) := by
  have := pg_tup (pos := pos) (k := k) (n := ts.length) cm h hn hst
  rw [s.k] at this
  simpa only [gT] using this
end
end Mi
namespace Mi
open PySem PySem.Spec PyProof.Rows L2

/-! ### rules: statements -/
section
variable {X : Cx} {G : Gm} {W : WX} {lv : Nat} {a b c e tg : Expr} {es : List Expr} {st : Stmt} {sts sus : List Stmt} {m n : EM D} {ma : EM Arg} {mas : EM (List Arg)} {mt : EM Bool} {ms ns : EM FlowD} {mi : EM (List D)} {pos p : Pos} {x : Str}
theorem rs_nil : PSs X [] (tS G W mNext) := pss_nil.weak fun _ _ _ q => next_w q
theorem rs_cons (h1 : PS X st (tS G W ms)) (h2 : PSs X sts (tS G W ns)) : PSs X (st :: sts) (tS G W (mSeq ms ns)) := (pss_cons h1 h2).weak fun _ _ _ q => seq_w q
theorem rs_one (h1 : PS X st (tS G W ms)) : PSs X [st] (tS G W ms) := pss_one h1
theorem rs_pass : PS X (.Pass pos) (tS G W mNext) := ps_pass.weak fun _ _ _ q => next_w q
theorem rs_brk : PS X (.Break pos) (tS G W mBrk) := ps_break.weak fun _ _ _ q => brk_w q
theorem rs_cnt : PS X (.Continue pos) (tS G W mCnt) := ps_continue.weak fun _ _ _ q => cnt_w q
theorem rs_if (hc : PT X c (tT G W mt)) (ha : PSs X sts (tS G W ms)) (hb : PSs X sus (tS G W ns)) : PS X (.If c sts sus pos) (tS G W (mIfS mt ms ns)) := (ps_if hc ha hb).weak fun _ _ _ q => ifS_w q
theorem rs_ret (h : PE X e (tE G W m)) : PS X (.Return (some e) pos) (tS G W (mRet m)) := (ps_ret h).weak fun _ _ _ q => ret_w q
theorem rs_retN : PS X (.Return none pos) (tS G W mRetN) := ps_retN.weak fun _ _ _ q => retN_w q
theorem rs_expr (h : PE X e (tE G W m)) (hs : swapsWith e none pos.line X.env = pure false := by rfl) : PS X (.Expr e pos) (tS G W (mDrop m)) := (ps_expr h hs).weak fun _ _ _ q => drop_w q
theorem rs_set (s : St0 X G) (i : Nat) {pos' : Pos} (hio : i ∉ G.io) (hi : X.N[i]? = some x) (hx : Loc X.env.scope x) (he : PE X e (tE G W m)) (hs : swapsWith e (some (.Name x pos')) pos.line X.env = pure false := by rfl)
    (hf : X.fn x = true ∨ X.env.scope.names.lookup x = some .local := by first | exact .inl rfl | exact .inr rfl) : PS X (.Assign [.Name x pos'] e pos) (tS G W (mAsg i m)) := (ps_set s.n hi hx he hs hf).weak fun _ _ _ q => asg_w hio q
theorem rs_setT (t : Tgt) (hio : Tgt.off G.io t) (he : PE X e (tE G W m)) (hg : PG X tg (gT G.C.K t)) (hs : swapsWithSole [tg] e pos.line X.env = pure false := by rfl) (hw : swappedStores [tg] e X.env = pure none := by rfl)
    (h1 : (assignEach [tg] X.env).map (·.2) = [assign tg X.env] := by rfl) : PS X (.Assign [tg] e pos) (tS G W (mAsgT t m)) := (ps_asg he hg hs hw h1).weak fun _ _ _ q => asgT_w hio q
theorem rs_par (s : St0 X G) (cm : X.calm = true) (i j : Nat) {y : Str} {px py pt : Pos} {kt k2 pt2} (ioi : i ∉ G.io) (ioj : j ∉ G.io) (hi : X.N[i]? = some x) (hj : X.N[j]? = some y) (hij : i ≠ j)
    (hx : X.env.scope.names.lookup x = some .local) (hy : X.env.scope.names.lookup y = some .local) (ha : PA X [a, b] (tArgs G W mas)) (hw : swappedStores [.Tuple [.Name x px, .Name y py] kt pt] (.Tuple [a, b] k2 pt2) X.env = pure (some [x, y]))
    (hs : swapsWithSole [.Tuple [.Name x px, .Name y py] kt pt] (.Tuple [a, b] k2 pt2) pos.line X.env = pure false := by rfl) : PS X (.Assign [.Tuple [.Name x px, .Name y py] kt pt] (.Tuple [a, b] k2 pt2) pos) (tS G W (mPar i j mas)) :=
  (ps_par cm s.n hi hj hij hx hy ha hw hs).weak fun _ _ _ q => par_w ioi ioj q
theorem rs_put (j : Nat) {pos' : Pos} (hN : X.N[j]? = some x) (hv : Vis X.env.scope x) (hi : PE X a (tE G W n)) (he : PE X e (tE G W m)) (hs : swapsWithSole [.Subscript (.Name x p) a pos'] e pos.line X.env = pure false := by rfl) (hw : swappedStores [.Subscript (.Name x p) a pos'] e X.env = pure none := by rfl)
    (h1 : (assignEach [.Subscript (.Name x p) a pos'] X.env).map (·.2) = [assign (.Subscript (.Name x p) a pos') X.env] := by rfl)
    (ha : ∀ v, assign (.Subscript (.Name x p) a pos') X.env v = (do
      let ov ← holding [v] (eval (.Name x p) X.env)
      let iv ← holding [v, ov] (eval a X.env)
      standAt pos'
      holding [v, ov, iv] (setItem ov iv v)
      release [v, ov, iv] []) := by intro _; rfl) (hd : (x == ("__debug__" : Str)) = false := by decide) (hcd : (x == ("__classdict__" : Str)) = false := by decide) : PS X (.Assign [.Subscript (.Name x p) a pos'] e pos) (tS G W (mSet j n m)) :=
  (ps_asg he (pg_sub (pe_var hN hv hd hcd) hi set_list ha) hs hw h1).weak fun _ _ _ q => set_w q
theorem rs_for (s : Go X G W lv) (t : Tgt) (hio : Tgt.off G.io t) (hi : PI X tg e (tI G W mi)) (hg : PG X tg (gT G.C.K t)) (hb : PSs X sts (tS G W ms)) (hs : ∀ x, foldedSetIterable e X.env x = pure x := by intro _; rfl) : PS X (.For tg e sts [] pos) (tS G W (mFor mi t ms)) :=
  (ps_for s.pw s.cm hi hg hb hs).weak fun _ _ _ q => for_w hio q
theorem rs_while (s : Go X G W lv) (fuel : EnvD → Nat) (hc : PT X c (tT G W mt)) (hb : PSs X sts (tS G W ms)) : PS X (.While c sts [] pos) (tS G W (mWhile fuel mt ms)) :=
  (ps_while s.pw hc hb).weak fun _ _ _ q => while_w q
/-! comprehensions -/
theorem rts_nil : PTs X [] (tT G W mYes) := ⟨fun pins s σ H Q I h => pts_nil.run pins s σ H Q I (by
  obtain ⟨a, env, rfl, rel, post⟩ := h
  exact post a (Step.refl a) rel)⟩
theorem rts_one (h : PT X c (tT G W mt)) : PTs X [c] (tT G W mt) := pts_one h
theorem r_lc {elt : Expr} {ifs : List Expr} {scope : Scope} (s : Go X G W lv) (own : List (Str × Nat)) (t : Tgt) (hio : Tgt.off G.io t) (hio2 : ∀ i ∈ G.io, i ∉ own.map (·.2)) (hown : Tgt.ins (own.map (·.2)) t) (hi : PI X tg e (tI G W mi)) (ok : BlkOk X.N X.env.scope scope own)
    (hg : ∀ (s : Shared) (H : Hp) (C : Addr) (cl : List (Str × Addr)) (fp : List Addr), PG (X.blk s H scope (compEnvC scope cl C X.env) fp) tg (gT G.C.K t))
    (ht : ∀ (s : Shared) (H : Hp) (C : Addr) (cl : List (Str × Addr)) (fp : List Addr), Go (X.blk s H scope (compEnvC scope cl C X.env) fp) G W0 lv → PTs (X.blk s H scope (compEnvC scope cl C X.env) fp) ifs (tT G W0 mt))
    (he : ∀ (s : Shared) (H : Hp) (C : Addr) (cl : List (Str × Addr)) (fp : List Addr), Go (X.blk s H scope (compEnvC scope cl C X.env) fp) G W0 lv → PE (X.blk s H scope (compEnvC scope cl C X.env) fp) elt (tE G W0 m)) (hs : ∀ x, foldedSetIterable e X.env x = pure x := by intro _; rfl) :
    PE X (.ListComp elt [⟨tg, e, ifs, 0⟩] scope pos) (tE G W (mLc mi t mt m (own.map (·.2)))) :=
  (pe_lc s.cm s.n hi ok hg (fun s0 H C cl fp => ht s0 H C cl fp (s.blk ..)) (fun s0 H C cl fp => he s0 H C cl fp (s.blk ..)) hs).weak fun _ _ _ q => lc_w hio hio2 hown q
theorem rs_lc {elt : Expr} {ifs : List Expr} {scope : Scope} {py : Pos} (s : Go X G W lv) (i : Nat) (own : List (Str × Nat)) (t : Tgt) (hioi : i ∉ G.io) (hio : Tgt.off G.io t) (hio2 : ∀ i ∈ G.io, i ∉ own.map (·.2)) (hown : Tgt.ins (own.map (·.2)) t)
    (hy : X.N[i]? = some x) (hyl : X.env.scope.names.lookup x = some .local) (hsw : swapsWith (.ListComp elt [⟨tg, e, ifs, 0⟩] scope p) (some (.Name x py)) pos.line X.env = pure true) (hi : PI X tg e (tI G W mi)) (ok : BlkOk X.N X.env.scope scope own)
    (hg : ∀ (s : Shared) (H : Hp) (C : Addr) (cl : List (Str × Addr)) (fp : List Addr), PG (X.blk s H scope (compEnvC scope cl C X.env) fp) tg (gT G.C.K t))
    (ht : ∀ (s : Shared) (H : Hp) (C : Addr) (cl : List (Str × Addr)) (fp : List Addr), Go (X.blk s H scope (compEnvC scope cl C X.env) fp) G W0 lv → PTs (X.blk s H scope (compEnvC scope cl C X.env) fp) ifs (tT G W0 mt))
    (he : ∀ (s : Shared) (H : Hp) (C : Addr) (cl : List (Str × Addr)) (fp : List Addr), Go (X.blk s H scope (compEnvC scope cl C X.env) fp) G W0 lv → PE (X.blk s H scope (compEnvC scope cl C X.env) fp) elt (tE G W0 m)) (hs : ∀ x, foldedSetIterable e X.env x = pure x := by intro _; rfl) :
    PS X (.Assign [.Name x py] (.ListComp elt [⟨tg, e, ifs, 0⟩] scope p) pos) (tS G W (mAsg i (mLc mi t mt m (own.map (·.2))))) :=
  (ps_setLc s.cm s.n hy hyl hsw hi ok hg (fun s0 H C cl fp => ht s0 H C cl fp (s.blk ..)) (fun s0 H C cl fp => he s0 H C cl fp (s.blk ..)) hs).weak fun D σ H q => by
    obtain ⟨a, env, h1, rel, post⟩ := asg_w hioi q
    exact lc_w hio hio2 hown ⟨a, env, h1, rel, post⟩
end

/-! ### exceptions -/
def mExc (x : Str) : EM FlowD := fun env => .exc ⟨x, [], []⟩ env
/- an own class over ValueError, no __init__ -/
structure ExcC (C : KM) (x : Str) : Prop where
  ex : ∃ a, C.mg x = some (.ref a) ∧ PySem.W.excIn C.K a [.type "ValueError", .type "Exception", .type "BaseException", .type "object"] "ValueError.__new__" = true ∧ PySem.W.keepIn C.K (.ref a) = true ∧ PySem.W.subIn C.K (.ref a) (.type "BaseException") = some true ∧ PySem.W.typeIn C.K (.ref a) = some (.type "type")
def calmR (r : Res (FlowD × EnvD)) : Res (FlowD × EnvD) := match r with
  | .ok x => .ok x
  | _ => .bad
def mTry (yes no : List Str) (body suite : EM FlowD) : EM FlowD := fun env => match body env with
  | .exc x e => if x.cls ∈ yes then calmR (suite e) else if x.cls ∈ no then .exc x e else .bad
  | r => r
section
variable {X : Cx} {G : Gm} {W : WX} {lv : Nat} {pos p pos' : Pos} {x : Str}
theorem pmk_own0 {C : Addr} {bmB : List Value} {B newId initId : String} (F : ExcBaseFacts B newId initId bmB) (q : PySem.W.excIn X.K C bmB newId = true) (gC : X.mg x = some (.ref C)) (kC : PySem.W.keepIn X.K (.ref C) = true) (r : Raises X (.ref C)) (hg : Gl X x)
    (hdb : (x == ("__debug__" : Str)) = false := by decide) : PMk X (.Call (.Name x p) [] [] pos) (fun _ H Q => Q (.ref C) none H) := by
  intro pins s σ H Q I h
  refine wpAny_Call_Name_kw (ld_glob I hg gC ?_ hdb)
  obtain ⟨hp1, g1, d1, tk1, os1⟩ := s
  refine PySem.W.callWith_K0 I.kIn kC ?_
  show wpAny _ _ (call (.ref C) []) _ _ _
  obtain ⟨bm, N, nm, qn, bs, hdct, sn, sub, ab, col, dd, k0, k1, k2, k3, k5, mN, hC, hN, hni, T⟩ := exc_obj I.kIn q
  refine wpAny_call_exc_subT F T hC hN hni (fun h' e hm => ?_) (Nat.zero_le _)
  exact mk_of I hm r h (I.hok.gone hm.new)
theorem rs_raise0 (s : Go X G W lv) (E : ExcC G.C x) (hg : Gl X x) (hdb : (x == ("__debug__" : Str)) = false := by decide) : PS X (.Raise (some (.Call (.Name x p) [] [] pos)) none pos') (tS G W (mExc x)) := by
  obtain ⟨a, h1, h2, h3, h4, h5⟩ := E.ex
  rw [← s.k] at h2 h3 h4 h5
  rw [← s.m] at h1
  refine (ps_raise s.cm s.tk (pmk_own0 PySem.F.excBase_ValueError h2 h1 h3 (raises_own h4 h5) hg hdb)).weak fun D σ H q => ?_
  obtain ⟨a', env, rfl, rel, post⟩ := q
  exact post a' σ (.ref a) none (Step.refl a') rel ⟨by rw [← s.m]; exact h1, .inl ⟨rfl, rfl, rfl⟩⟩
theorem rs_try {c : Value} {body : List Stmt} {b0 : Stmt} {suite : List Stmt} {np : Pos} {ms ns : EM FlowD} (s : Go X G W lv) (hst : X.stack = X.env :: X.outer) (hf : X.env.frame = some X.env.locals) (hc : Names X x c) (yes no : List Str)
    (hy : ∀ n ∈ yes, ∀ u, G.C.mg n = some u → PySem.W.exmOne G.C.K u c = some true) (hn : ∀ n ∈ no, ∀ u, G.C.mg n = some u → PySem.W.exmOne G.C.K u c = some false)
    (hb : ∀ (W' : WX) (pn : List (Addr × Obj)) (xe : Value → Shared → Prop), Go (X.tr pn xe) G W' lv → PSs (X.tr pn xe) body (tS G W' ms))
    (hsu : ∀ (a : Addr) (pn : List (Addr × Obj)), St0 (X.suite a pn) G → PSs (X.suite a pn) (b0 :: suite) (tS G W0 ns)) :
    PS X (.Try body [.ExceptHandler (some (.Name x np)) none (b0 :: suite) pos'] [] [] pos) (tS G W (mTry yes no ms ns)) := by
  refine (ps_try_only hst hf hc s.tk (fun W' pn xe tk pw => hb W' pn xe (s.tr tk pw)) (fun a oe cls d pn _ _ => hsu a ((a, oe) :: pn) (s.suite a _))).weak fun D σ H q => ?_
  obtain ⟨a, env, rfl, rel, post⟩ := q
  refine ⟨a, env, rfl, rel, ?_⟩
  unfold mTry at post
  cases hm : ms env with
  | bad => rw [hm] at post; exact post
  | ok fe =>
    obtain ⟨f, e⟩ := fe
    rw [hm] at post
    cases f <;> exact post
  | exc y e =>
    rw [hm] at post
    dsimp only at post
    split at post
    · rename_i hin
      intro b σ' cls dd st r er
      refine ⟨true, by rw [s.k]; exact hy _ hin _ er.1, fun _ u _ => ?_, fun z => Bool.noConfusion z⟩
      refine ⟨b, e, rfl, r, PostS.step st ?_⟩
      cases hs : ns e with
      | bad => rw [hs] at post; exact post
      | exc z e2 => rw [hs] at post; exact (show False from post).elim
      | ok fe =>
        obtain ⟨f, e2⟩ := fe
        rw [hs] at post
        cases f <;> exact post
    · split at post
      · rename_i hin
        intro b σ' cls dd st r er
        exact ⟨false, by rw [s.k]; exact hn _ hin _ er.1, fun z => Bool.noConfusion z, fun _ => post b σ' cls dd st r er⟩
      · exact (show False from post).elim
end

/-! ### a def -/
def ownOk (io : List Nat) : List D → Nat → Bool
  | [], _ => true
  | d :: ds, i => (fz d || io.contains i) && ownOk io ds (i + 1)
def outsD (np : Nat) (io : List Nat) (e : EnvD) : EnvD := (List.range np).map fun i => if io.contains i then (e[i]?).join else none
def runD (np n : Nat) (io : List Nat) (m : EM FlowD) : List D → Res (D × EnvD) := fun ds =>
  if ds.length = np ∧ ownOk io ds 0 = true then
    match m (ds.map some ++ List.replicate (n - np) none) with
    | .ok (.ret d, e) => .ok (d, outsD np io e)
    | .ok (.next, e) => .ok (.non, outsD np io e)
    | .exc x e => .exc x (outsD np io e)
    | _ => .bad
  else .bad
theorem outs_rep {G : Gm} {b : Wd} {σ : L2.St} {e : EnvD} (r : RelE G b σ e) {np : Nat} (hv : np ≤ G.vs0.length) : OutRep G.C b G.vs0 (outsD np G.io e) := fun i d h => by
  unfold outsD at h
  rw [List.getElem?_map] at h
  by_cases hi : i < np
  · rw [List.getElem?_range hi] at h
    have h : (if G.io.contains i then (e[i]?).join else none) = some d := Option.some.inj h
    split at h
    · rename_i hio
      have hio : i ∈ G.io := by simpa using hio
      cases he : e[i]? with
      | none => rw [he] at h; cases h
      | some o =>
        rw [he] at h
        have h : o = some d := h
        subst h
        obtain ⟨v, h1, h2⟩ := r.slot i d he
        have hl : i < G.vs0.length := Nat.lt_of_lt_of_le hi hv
        have h3 := r.prm i hio _ (List.getElem?_eq_getElem hl)
        rw [h1] at h3; cases h3
        exact ⟨_, List.getElem?_eq_getElem hl, h2⟩
    · cases h
  · rw [List.getElem?_eq_none (by simpa using hi)] at h; cases h
abbrev CxD (C : KM) (base : Heap) (N : List Str) (qual : Str) (sc : Scope) (f : Addr) (cd : Value) (A : Around) (outer : List Env) (s : Shared) (H : Hp) (E : XK) : Cx := cxOf (L2.CX C.P C.w) C.P C.w C.K C.mg base N qual sc f cd A outer s H E
theorem fn_def {C : KM} {N ps : List Str} {st : Stmt} {x : Str} {f : Addr} {fd : FuncData} {lv : Nat} (io : List Nat) (m : EM FlowD) (F : Fun C.K x x st f fd) (S : FnScope N ps (defScope st)) (hb : Binds C.K fd ps []) (hm : C.mg x = some (.ref f))
    (body : ∀ (base : Heap) (cdv : Value) (A : Around) (outer : List Env) (s : Shared) (H : Hp) (E : XK) (vs : List V) (W : WX), Go (CxD C base N x (defScope st) f cdv A outer s H E) ⟨C, vs, io⟩ W lv → PSs (CxD C base N x (defScope st) f cdv A outer s H E) (defBody st) (tS ⟨C, vs, io⟩ W m)) :
    Fn C (lv + 1) x (runD ps.length N.length io m) := by
  refine ⟨f, fd, ps, hm, F.kp, hb, fun base _ _ => ?_⟩
  have hpl : ps.length ≤ N.length := by have := congrArg List.length S.pre; rw [List.length_take] at this; omega
  refine F.okX S (fun vs H Q E h => ?_) fun cdv A outer s H vs Q E hr h => ?_
  · obtain ⟨a, ds, _, _, hl, _, h⟩ := h
    unfold runD at h
    by_cases z : ds.length = ps.length ∧ ownOk io ds 0 = true
    · rw [← hl, z.1]
    · rw [if_neg z] at h; exact h.elim
  · obtain ⟨a, ds, rfl, ok, hl, hrep, h⟩ := h
    have go : Go (CxD C base N x (defScope st) f cdv A outer s a.H E) ⟨C, vs, io⟩ (fun cls d _ H => E cls d H) lv :=
      { p := rfl, w := rfl, k := rfl, m := rfl, n := S.nd, u := by have := hr.un; show (A.deeper _).units + 64 < cLine; omega, tk := takes_of rfl rfl rfl rfl, pw := passes_of rfl, rm := hr, cm := rfl }
    refine ⟨_, body base cdv A outer s a.H E vs _ go, ?_⟩
    unfold runD at h
    by_cases z : ds.length = ps.length ∧ ownOk io ds 0 = true
    · rw [if_pos z] at h
      have hlen : vs.length = ps.length := by rw [← hl, z.1]
      refine ⟨a, ds.map some ++ List.replicate (N.length - ps.length) none, rfl, ⟨ok, ?_, fun i d e => ?_, fun i hi v hv => ?_⟩, ?_⟩
      · unfold L2.start
        rw [List.length_append, List.length_append, List.length_map, List.length_map, List.length_replicate, List.length_replicate, z.1, hlen]
      · have hi : i < ds.length := by
          by_cases hi : i < ds.length
          · exact hi
          · rw [List.getElem?_append_right (by simpa using hi), List.getElem?_replicate] at e
            split at e <;> cases e
        have e2 : ds[i]? = some d := by
          rw [List.getElem?_append_left (by simpa using hi), List.getElem?_map] at e
          cases q : ds[i]? with
          | none => rw [q] at e; cases e
          | some d' => rw [q] at e; cases e; rfl
        obtain ⟨v, h1, h2⟩ := hrep i d e2
        refine ⟨v, ?_, h2⟩
        unfold L2.start
        rw [List.getElem?_append_left (by rw [List.length_map]; exact (List.getElem?_eq_some_iff.mp h1).1), List.getElem?_map, h1]; rfl
      · have hv : vs[i]? = some v := hv
        unfold L2.start
        rw [List.getElem?_append_left (by rw [List.length_map]; exact (List.getElem?_eq_some_iff.mp hv).1), List.getElem?_map, hv]; rfl
      · cases hm : m (ds.map some ++ List.replicate (N.length - ps.length) none) with
        | bad => rw [hm] at h; exact h.elim
        | exc y e => rw [hm] at h; exact fun b σ cls dd st r er => h b cls dd st r.ok (outs_rep r (Nat.le_of_eq hlen.symm)) er
        | ok fe =>
          obtain ⟨fl, e⟩ := fe
          rw [hm] at h
          cases fl with
          | next => exact fun b σ st r => h b .non st r.ok (outs_rep r (Nat.le_of_eq hlen.symm)) (by simp [Rep])
          | ret d => exact fun b σ v st r rp => h b v st r.ok (outs_rep r (Nat.le_of_eq hlen.symm)) rp
          | brk => exact h.elim
          | cont => exact h.elim
    · rw [if_neg z] at h; exact h.elim
end Mi
namespace Mi
open PySem PySem.Spec PyProof.Rows L2
/-! ### {k: v} -/
def mDic1 (mk mv : EM Arg) : EM D := fun env => (mk env).bind fun (x, e1) => (mv e1).bind fun (y, e2) => match x.get e2, y.get e2 with
  | some d1, some d2 => match keyD d1 with
    | some _ => if fz d2 = true then .ok (.dic true [d1] [d2], e2) else .bad
    | none => .bad
  | _, _ => .bad
theorem keyD_fz {d : D} {k : Key} (h : keyD d = some k) : fz d = true := by
  cases d <;> simp [keyD] at h <;> rfl
theorem dic1_w {G : Gm} {W : WX} {σ : L2.St} {H : Hp} {Q : VK} {mk mv : EM Arg} (h : tE G W (mDic1 mk mv) σ H Q) : tDisp [(tArg G W mk, tArg G W mv)] σ H Q := by
  obtain ⟨a, env, rfl, rel, post⟩ := h
  intro A hA
  have fA : a.F A = none := by
    cases q : a.F A with
    | none => rfl
    | some u => have := rel.ok.sub A u q; rw [hA] at this; cases this
  have tA : a.t A = none := by
    cases q : a.t A with
    | none => rfl
    | some u => obtain ⟨_, u, h⟩ := rel.ok.own A u q; rw [hA] at h; cases h
  have st0 : Step a (putA a A (.dK [])) := fun x o h t => by
    have ne : x ≠ A := by rintro rfl; rw [hA] at h; cases h
    exact ⟨by show upd a.H A _ x = _; rw [upd_ne ne]; exact h, t, rfl⟩
  have rel0 := putA_rel (o := .dK []) rel fA tA
  refine ⟨putA a A (.dK []), env, rfl, rel0, ?_⟩
  unfold mDic1 at post
  cases hm : mk env with
  | bad => rw [hm] at post; exact (show False from post).elim
  | exc x e => rw [hm] at post; exact PostR.step (K := fun x e b => ∀ v, ArgRep G.C b σ x v → _) (r := .exc x e) st0 post
  | ok xe =>
    obtain ⟨x, e1⟩ := xe
    rw [hm] at post
    intro b s1 rel1 v ar1
    refine ⟨b, e1, rfl, rel1, ?_⟩
    dsimp only [Res.bind] at post
    cases hn : mv e1 with
    | bad => rw [hn] at post; exact (show False from post).elim
    | exc y e => rw [hn] at post; exact PostR.step (K := fun x e b => ∀ v, ArgRep G.C b σ x v → _) (r := .exc y e) (st0.trans s1) post
    | ok ye =>
      obtain ⟨y, e2⟩ := ye
      rw [hn] at post
      intro c s2 rel2 u ar2
      have ar1 := ar1.step rel1.ok s2
      dsimp only [Res.bind] at post
      obtain ⟨g1, g2, g3⟩ := s1 A _ (show upd a.H A (.dK []) A = some (.dK []) from upd_same) tA
      obtain ⟨k1, k2, k3⟩ := s2 A _ g1 g2
      have k3 : c.F A = none := k3.trans (g3.trans fA)
      refine ⟨k1, ?_⟩
      cases hx : x.get e2 with
      | none => simp only [hx] at post; exact (show False from post).elim
      | some d1 =>
        cases hy : y.get e2 with
        | none => simp only [hx, hy] at post; exact (show False from post).elim
        | some d2 =>
          simp only [hx, hy] at post
          cases hk : keyD d1 with
          | none => simp only [hk] at post; exact (show False from post).elim
          | some k =>
            simp only [hk] at post
            split at post
            · rename_i zd
              obtain ⟨r1, p1⟩ := ar1.rep rel2 hx
              obtain ⟨r2, p2⟩ := ar2.rep rel2 hy
              have ev := keyD_rep hk p1
              refine ⟨[(k, u)], by rw [ev]; rfl, by simp, ?_⟩
              show Q (.ref A) (upd c.H A (.dK [(k, u)]))
              have post : ∀ b', Step a b' → RelE G b' σ e2 → ∀ v, Rep G.C b' 0 [] v (.dic true [d1] [d2]) → Q v b'.H := post
              have rel3 : RelE G (putA c A (.dK [(k, u)])) σ e2 := putA_rel rel2 k3 k2
              refine post (tagA (putA c A (.dK [(k, u)])) A) (fun z o h t => ?_) ?_ (.ref A) ?_
              · have ne : z ≠ A := by rintro rfl; rw [hA] at h; cases h
                obtain ⟨q1, q2, q3⟩ := (st0.trans (s1.trans s2)) z o h t
                exact ⟨by show upd c.H A _ z = _; rw [upd_ne ne]; exact q1, by show (if z = A then some (0, []) else c.t z) = none; rw [if_neg ne]; exact q2, q3⟩
              · exact ⟨tagA_ok (o := .dK [(k, u)]) rel3.ok k3 upd_same, rel3.len, fun i d h => let ⟨v, e, q⟩ := rel3.slot i d h; ⟨v, e, tagA_to (A := A) (c := putA c A (.dK [(k, u)])) k2 q⟩, rel3.prm⟩
              · have fr : ∀ z o, c.F z = some o → (tagA (putA c A (.dK [(k, u)])) A).F z = some o := fun z o h => h
                simp only [Rep]
                refine ⟨A, .dK [(k, u)], [kV k], [u], rfl, ?_, .dk [(k, u)], by simp [fzL, keyD_fz hk], ?_, ?_⟩
                · rw [if_pos trivial]
                  exact ⟨by show (if A = A then some (0, []) else c.t A) = _; rw [if_pos rfl], upd_same⟩
                · refine ⟨kV k, [], rfl, ?_, by simp [RepL]⟩
                  rw [ev] at p1
                  exact Rep.fz (a := c) (b := tagA (putA c A (.dK [(k, u)])) A) fr d1 _ _ _ (keyD_fz hk) p1
                · exact ⟨u, [], rfl, Rep.fz (a := c) (b := tagA (putA c A (.dK [(k, u)])) A) fr d2 _ _ _ zd p2, by simp [RepL]⟩
            · exact (show False from post).elim
theorem r_dic1 {X : Cx} {G : Gm} {W : WX} {ke ve : Expr} {mk mv : EM Arg} {pos : Pos} (s : St0 X G) (hk : PE X ke (tArg G W mk)) (hv : PE X ve (tArg G W mv)) : PE X (.Dict [some ke] [ve] pos) (tE G W (mDic1 mk mv)) :=
  (pe_disp (pps_cons hk hv pps_nil) rfl rfl (by simp) (by simp)).weak fun _ _ _ q => dic1_w q
theorem fn_ok {C : KM} {N ps : List Str} {st : Stmt} {x : Str} {f : Addr} {fd : FuncData} {lv : Nat} (io : List Nat) (m : EM FlowD) (F : Fun C.K x x st f fd) (S : FnScope N ps (defScope st)) (base : Heap)
    (body : ∀ (base : Heap) (cdv : Value) (A : Around) (outer : List Env) (s : Shared) (H : Hp) (E : XK) (vs : List V) (W : WX), Go (CxD C base N x (defScope st) f cdv A outer s H E) ⟨C, vs, io⟩ W lv → PSs (CxD C base N x (defScope st) f cdv A outer s H E) (defBody st) (tS ⟨C, vs, io⟩ W m)) :
    FnOk C.P C.w C.K C.mg base (L2.CX C.P C.w) (lv + 1) f fd ps (spD C (runD ps.length N.length io m)) := by
  have hpl : ps.length ≤ N.length := by have := congrArg List.length S.pre; rw [List.length_take] at this; omega
  refine F.okX S (fun vs H Q E h => ?_) fun cdv A outer s H vs Q E hr h => ?_
  · obtain ⟨a, ds, _, _, hl, _, h⟩ := h
    unfold runD at h
    by_cases z : ds.length = ps.length ∧ ownOk io ds 0 = true
    · rw [← hl, z.1]
    · rw [if_neg z] at h; exact h.elim
  · obtain ⟨a, ds, rfl, ok, hl, hrep, h⟩ := h
    have go : Go (CxD C base N x (defScope st) f cdv A outer s a.H E) ⟨C, vs, io⟩ (fun cls d _ H => E cls d H) lv :=
      { p := rfl, w := rfl, k := rfl, m := rfl, n := S.nd, u := by have := hr.un; show (A.deeper _).units + 64 < cLine; omega, tk := takes_of rfl rfl rfl rfl, pw := passes_of rfl, rm := hr, cm := rfl }
    refine ⟨_, body base cdv A outer s a.H E vs _ go, ?_⟩
    unfold runD at h
    by_cases z : ds.length = ps.length ∧ ownOk io ds 0 = true
    · rw [if_pos z] at h
      have hlen : vs.length = ps.length := by rw [← hl, z.1]
      refine ⟨a, ds.map some ++ List.replicate (N.length - ps.length) none, rfl, ⟨ok, ?_, fun i d e => ?_, fun i hi v hv => ?_⟩, ?_⟩
      · unfold L2.start
        rw [List.length_append, List.length_append, List.length_map, List.length_map, List.length_replicate, List.length_replicate, z.1, hlen]
      · have hi : i < ds.length := by
          by_cases hi : i < ds.length
          · exact hi
          · rw [List.getElem?_append_right (by simpa using hi), List.getElem?_replicate] at e
            split at e <;> cases e
        have e2 : ds[i]? = some d := by
          rw [List.getElem?_append_left (by simpa using hi), List.getElem?_map] at e
          cases q : ds[i]? with
          | none => rw [q] at e; cases e
          | some d' => rw [q] at e; cases e; rfl
        obtain ⟨v, h1, h2⟩ := hrep i d e2
        refine ⟨v, ?_, h2⟩
        unfold L2.start
        rw [List.getElem?_append_left (by rw [List.length_map]; exact (List.getElem?_eq_some_iff.mp h1).1), List.getElem?_map, h1]; rfl
      · have hv : vs[i]? = some v := hv
        unfold L2.start
        rw [List.getElem?_append_left (by rw [List.length_map]; exact (List.getElem?_eq_some_iff.mp hv).1), List.getElem?_map, hv]; rfl
      · cases hm : m (ds.map some ++ List.replicate (N.length - ps.length) none) with
        | bad => rw [hm] at h; exact h.elim
        | exc y e => rw [hm] at h; exact fun b σ cls dd st r er => h b cls dd st r.ok (outs_rep r (Nat.le_of_eq hlen.symm)) er
        | ok fe =>
          obtain ⟨fl, e⟩ := fe
          rw [hm] at h
          cases fl with
          | next => exact fun b σ st r => h b .non st r.ok (outs_rep r (Nat.le_of_eq hlen.symm)) (by simp [Rep])
          | ret d => exact fun b σ v st r rp => h b v st r.ok (outs_rep r (Nat.le_of_eq hlen.symm)) rp
          | brk => exact h.elim
          | cont => exact h.elim
    · rw [if_neg z] at h; exact h.elim
theorem exm_sub {K : PySem.W.Frag} {S T : Addr} {b : Bool} (h1 : PySem.W.subIn K (.ref T) (.type "BaseException") = some true) (h2 : PySem.W.isClsIn K T = true) (h3 : PySem.W.typeIn K (.ref T) = some (.type "type")) (h4 : PySem.W.subIn K (.ref S) (.ref T) = some b) : PySem.W.exmOne K (.ref S) (.ref T) = some b := by
  have e1 : (PySem.W.subIn K (.ref T) (.type "BaseException") == some true) = true := by rw [h1]; rfl
  have e2 : ((PySem.W.clsIn K T).isSome && PySem.W.typeIn K (.ref T) == some (.type "type")) = true := by
    have h2' : (PySem.W.clsIn K T).isSome = true := h2
    rw [h2', h3] <;> rfl
  show (if (PySem.W.subIn K (.ref T) (.type "BaseException") == some true) = true then (if ((PySem.W.clsIn K T).isSome && PySem.W.typeIn K (.ref T) == some (.type "type")) = true then PySem.W.subIn K (.ref S) (.ref T) else none) else none) = some b
  rw [if_pos e1, if_pos e2]
  exact h4
def scriptW (H : Hp) : Wd := ⟨H, H, fun _ => none⟩
theorem law_walk {l : PySem.W.OpenLaw} {k : Nat} {g : List D → Res (D × EnvD)} {q : Program} {loose : List Str} {XP : (Str → Option Value) → Heap → Prop} {YP : World → Heap → Prop} {d : DefRec} {K : Params → PySem.W.Frag} (hn : l.most = some 63) (hdf : d.params.defaults = []) (hr : Room k callerA)
    (hY : ∀ (w : World) (h : Heap), YP w h → (K w.params).In h)
    (F : ∀ (w : World) (mg : Str → Option Value) (fa : Addr) (h : Heap), (K w.params).In h → h.Ns mainGlobals mg → mg d.name = some (.ref fa) →
      ∃ fd : FuncData, (∀ (s : Shared) (u : Value), BindsTo s fd ⟨[u], []⟩ [("_law_script", u)]) ∧ ∀ base : Heap, (K w.params).In base → base.Ns mainGlobals mg → FnOk l.prog w (K w.params) mg base (L2.CX l.prog w) k fa fd ["_law_script"] (spD ⟨l.prog, w, K w.params, mg⟩ g))
    (hg : ∀ ns : List Int, ns.length ≤ 63 → (∀ z ∈ ns, Builtin.Int.intBits z ≤ 1048576) → ∃ outs, g [.scr ns] = .ok (.bl true, outs)) :
    PySem.W.WalkO q loose XP YP l.row.toRowW d [] (fun f vs => PySem.call f vs) := by
  refine L2.walk_ofB (n := 63) (k := k) (x := "_law_script") (CX := fun w => L2.CX l.prog w) (sp := fun w vs H Q _ => ∃ (a : Addr) (ns : List Int), vs = [.ref a] ∧ SqL (K w.params) H a (ns.map V.int) ∧ ns.length ≤ 63 ∧ (∀ z ∈ ns, Builtin.Int.intBits z ≤ 1048576) ∧ ∀ H', Q (.bl true) H') hn (by decide) hdf hr hY (fun w mg fa h h1 h2 h3 => ?_)
    (fun w H a ns hl hb _ hS => ⟨a, ns, rfl, hS, hl, hb, fun _ => rfl⟩) fun w H s e s' h => ?_
  · obtain ⟨fd, h4, h5⟩ := F w mg fa h h1 h2 h3
    refine ⟨fd, h4, fun base h6 h7 => (h5 base h6 h7).imp fun vs H Q E ⟨a, ns, e, hS, hl, hb, q⟩ => ?_⟩
    subst e
    obtain ⟨outs, hr⟩ := hg ns hl hb
    refine ⟨scriptW H, [.scr ns], rfl, ⟨fun _ _ h => h, fun _ _ h => by cases h⟩, rfl, fun i d e => ?_, ?_⟩
    · cases i with
      | zero => simp at e; subst e; exact ⟨_, rfl, by simp only [Rep]; exact ⟨a, rfl, hS⟩⟩
      | succ i => simp at e
    · rw [hr]
      intro b v _ _ _ rp
      cases rep_bl rp
      exact q b.H
  · obtain ⟨_, _, _, _, _, _, _, _, _, _, _, _, z⟩ := h
    exact z.elim
end Mi
namespace Mi
open PySem PySem.Spec PyProof.Rows L2

/-! ### what a mirror answers: rows for simp; a continuation is a name with its arguments, so that simp goes on only where the first part is told -/
section
variable {α β : Type} {e env : EnvD} {m n : EM D} {ma mb mc : EM Arg} {mas : EM (List Arg)} {mt nt : EM Bool} {ms ns : EM FlowD} {d d1 d2 : D} {x y : Arg} {b : Bool} {i j : Nat}
theorem bind_ext {r : Res α} {k k' : α → Res β} (h : ∀ x, k x = k' x) : r.bind k = r.bind k' := by rw [funext h]
@[simp] theorem bind_ok (x : α) (k : α → Res β) : Res.bind (.ok x) k = k x := rfl
@[simp] theorem bind_exc (x : Exc) (e : EnvD) (k : α → Res β) : Res.bind (.exc x e) k = .exc x e := rfl
@[simp] theorem bind_bad (k : α → Res β) : Res.bind .bad k = .bad := rfl
def kSeq (k : EM FlowD) : FlowD × EnvD → Res (FlowD × EnvD) := fun (f, e) => match f with
  | .next => k e
  | .brk => .ok (.brk, e)
  | .cont => .ok (.cont, e)
  | .ret d => .ok (.ret d, e)
@[simp] theorem e_seq : mSeq ms ns env = (ms env).bind (kSeq ns) := rfl
@[simp] theorem kSeq_next : kSeq ns (.next, e) = ns e := rfl
@[simp] theorem kSeq_ret : kSeq ns (.ret d, e) = .ok (.ret d, e) := rfl
@[simp] theorem kSeq_brk : kSeq ns (.brk, e) = .ok (.brk, e) := rfl
@[simp] theorem kSeq_cont : kSeq ns (.cont, e) = .ok (.cont, e) := rfl
@[simp] theorem e_next : mNext env = .ok (.next, env) := rfl
@[simp] theorem e_brk : mBrk env = .ok (.brk, env) := rfl
@[simp] theorem e_cnt : mCnt env = .ok (.cont, env) := rfl
def kIf {α : Type} (m n : EM α) : Bool × EnvD → Res (α × EnvD) := fun (b, e) => if b = true then m e else n e
@[simp] theorem e_ifS : mIfS mt ms ns env = (mt env).bind (kIf ms ns) := rfl
@[simp] theorem e_ifE : mIfE mt m n env = (mt env).bind (kIf m n) := rfl
@[simp] theorem kIf_t {m n : EM α} : kIf m n (true, e) = m e := rfl
@[simp] theorem kIf_f {m n : EM α} : kIf m n (false, e) = n e := rfl
def kRet : D × EnvD → Res (FlowD × EnvD) := fun (d, e) => .ok (.ret d, e)
@[simp] theorem e_ret : mRet m env = (m env).bind kRet := rfl
@[simp] theorem kRet_ok : kRet (d, e) = .ok (.ret d, e) := rfl
@[simp] theorem e_retN : mRetN env = .ok (.ret .non, env) := rfl
def kDrop : D × EnvD → Res (FlowD × EnvD) := fun (_, e) => .ok (.next, e)
@[simp] theorem e_drop : mDrop m env = (m env).bind kDrop := rfl
@[simp] theorem kDrop_ok : kDrop (d, e) = .ok (.next, e) := rfl
def kAsg (i : Nat) : D × EnvD → Res (FlowD × EnvD) := fun (d, e) => .ok (.next, e.set i (some d))
@[simp] theorem e_asg : mAsg i m env = (m env).bind (kAsg i) := rfl
@[simp] theorem kAsg_ok : kAsg i (d, e) = .ok (.next, e.set i (some d)) := rfl
def oFlow : Option EnvD → Res (FlowD × EnvD)
  | some e => .ok (.next, e)
  | none => .bad
def kAsgT (t : Tgt) : D × EnvD → Res (FlowD × EnvD) := fun (d, e) => oFlow (mTg t (frzQ d) e)
@[simp] theorem e_asgT {t : Tgt} : mAsgT t m env = (m env).bind (kAsgT t) := by
  unfold mAsgT
  refine bind_ext fun x => ?_
  obtain ⟨d, e⟩ := x
  show _ = oFlow (mTg t (frzQ d) e)
  dsimp only
  cases mTg t (frzQ d) e <;> rfl
@[simp] theorem kAsgT_ok {t : Tgt} : kAsgT t (d, e) = oFlow (mTg t (frzQ d) e) := rfl
@[simp] theorem oFlow_some : oFlow (some e) = .ok (.next, e) := rfl
def kPar (i j : Nat) : List Arg × EnvD → Res (FlowD × EnvD) := fun (xs, e) => match Arg.gets e xs with
  | some [d1, d2] => if fz d1 = true ∧ fz d2 = true then .ok (.next, (e.set i (some d1)).set j (some d2)) else .bad
  | _ => .bad
@[simp] theorem e_par : mPar i j mas env = (mas env).bind (kPar i j) := rfl
def pV (i j : Nat) (e : EnvD) : Option (List D) → Res (FlowD × EnvD)
  | some [d1, d2] => if fz d1 = true ∧ fz d2 = true then .ok (.next, (e.set i (some d1)).set j (some d2)) else .bad
  | _ => .bad
@[simp] theorem kPar_g {xs : List Arg} : kPar i j (xs, e) = pV i j e (Arg.gets e xs) := by
  unfold kPar pV; rfl
@[simp] theorem pV_ok : pV i j e (some [d1, d2]) = if fz d1 = true ∧ fz d2 = true then .ok (.next, (e.set i (some d1)).set j (some d2)) else .bad := rfl
theorem kPar_ok {xs : List Arg} (h : Arg.gets e xs = some [d1, d2]) (h1 : fz d1 = true) (h2 : fz d2 = true) : kPar i j (xs, e) = .ok (.next, (e.set i (some d1)).set j (some d2)) := by
  unfold kPar; simp only [h]; rw [if_pos ⟨h1, h2⟩]
def kFrz : D × EnvD → Res (Arg × EnvD) := fun (d, e) => .ok (.val (frzQ d), e)
@[simp] theorem e_frz : mFrz m env = (m env).bind kFrz := rfl
@[simp] theorem kFrz_ok : kFrz (d, e) = .ok (.val (frzQ d), e) := rfl
@[simp] theorem e_c : mC d env = .ok (d, env) := rfl
def vA (i : Nat) (env : EnvD) : Option (Option D) → Res (Arg × EnvD)
  | some (some _) => .ok (.var i, env)
  | _ => .bad
@[simp] theorem e_varA : mVarA i env = vA i env (env[i]?) := by
  unfold mVarA vA; rfl
@[simp] theorem vA_ok : vA i env (some (some d)) = .ok (.var i, env) := rfl
def vE (i : Nat) (env : EnvD) : Option (Option D) → Res (D × EnvD)
  | some (some d) => if fz d = true then .ok (d, env) else .ok (frz d, env.set i (some (frz d)))
  | _ => .bad
@[simp] theorem e_varE : mVarE i env = vE i env (env[i]?) := by
  unfold mVarE vE; rfl
@[simp] theorem vE_ok (h : fz d = true) : vE i env (some (some d)) = .ok (d, env) := by unfold vE; simp [h]
def vM (np i : Nat) (env : EnvD) : Option (Option D) → Res (D × EnvD)
  | some (some d) => if fz d = true then .ok (d, env) else if i < np then .ok (frz d, env.set i (some (frz d))) else .ok (d, env.set i none)
  | _ => .bad
@[simp] theorem e_varM : mVarM j i env = vM j i env (env[i]?) := by
  unfold mVarM vM; rfl
@[simp] theorem vM_ok (h : fz d = true) : vM j i env (some (some d)) = .ok (d, env) := by unfold vM; simp [h]
theorem vM_mv (h : fz d = false) (h2 : ¬ i < j) : vM j i env (some (some d)) = .ok (d, env.set i none) := by unfold vM; simp [h, h2]
@[simp] theorem get_val : Arg.get e (.val d) = some d := rfl
def gV : Option (Option D) → Option D
  | some (some d) => some d
  | _ => none
@[simp] theorem get_var : Arg.get e (.var i) = gV (e[i]?) := by
  show (match e[i]? with | some (some d) => some d | _ => none) = _
  unfold gV; rfl
@[simp] theorem gV_ok : gV (some (some d)) = some d := rfl
@[simp] theorem mLift_ok : mLift (some d) e = .ok (d, e) := rfl
@[simp] theorem mLift_no : mLift none e = .bad := rfl
def bV (g : D → D → Option D) (e : EnvD) : Option D → Option D → Res (D × EnvD)
  | some d1, some d2 => mLift (g d1 d2) e
  | _, _ => .bad
def kBin2 (g : D → D → Option D) (x : Arg) : Arg × EnvD → Res (D × EnvD) := fun (y, e) => bV g e (x.get e) (y.get e)
def kBin1 (g : D → D → Option D) (mb : EM Arg) : Arg × EnvD → Res (D × EnvD) := fun (x, e) => (mb e).bind (kBin2 g x)
@[simp] theorem e_bin {g : D → D → Option D} : mBin g ma mb env = (ma env).bind (kBin1 g mb) := by
  unfold mBin
  refine bind_ext fun x => ?_
  obtain ⟨x, e1⟩ := x
  show _ = (mb e1).bind (kBin2 g x)
  refine bind_ext fun y => ?_
  obtain ⟨y, e2⟩ := y
  show _ = bV g e2 (x.get e2) (y.get e2)
  dsimp only
  cases x.get e2 <;> cases y.get e2 <;> rfl
@[simp] theorem kBin1_ok {g : D → D → Option D} : kBin1 g mb (x, e) = (mb e).bind (kBin2 g x) := rfl
@[simp] theorem kBin2_ok {g : D → D → Option D} : kBin2 g x (y, e) = bV g e (x.get e) (y.get e) := rfl
@[simp] theorem bV_ok {g : D → D → Option D} : bV g e (some d1) (some d2) = mLift (g d1 d2) e := rfl
def uV (g : D → Option D) (e : EnvD) : Option D → Res (D × EnvD)
  | some d1 => mLift (g d1) e
  | _ => .bad
def kUn (g : D → Option D) : Arg × EnvD → Res (D × EnvD) := fun (x, e) => uV g e (x.get e)
@[simp] theorem e_un {g : D → Option D} : mUn g ma env = (ma env).bind (kUn g) := by
  unfold mUn
  refine bind_ext fun x => ?_
  obtain ⟨x, e1⟩ := x
  show _ = uV g e1 (x.get e1)
  dsimp only
  cases x.get e1 <;> rfl
@[simp] theorem kUn_ok {g : D → Option D} : kUn g (x, e) = uV g e (x.get e) := rfl
@[simp] theorem uV_ok {g : D → Option D} : uV g e (some d) = mLift (g d) e := rfl
def lV (g : List D → Option D) (e : EnvD) : Option (List D) → Res (D × EnvD)
  | some ds => mLift (g ds) e
  | _ => .bad
def kCB (g : List D → Option D) : List Arg × EnvD → Res (D × EnvD) := fun (xs, e) => lV g e (Arg.gets e xs)
@[simp] theorem e_cb {g : List D → Option D} : mCB g mas env = (mas env).bind (kCB g) := by
  unfold mCB
  refine bind_ext fun x => ?_
  obtain ⟨x, e1⟩ := x
  show _ = lV g e1 (Arg.gets e1 x)
  dsimp only
  cases Arg.gets e1 x <;> rfl
@[simp] theorem kCB_ok {g : List D → Option D} {xs : List Arg} : kCB g (xs, e) = lV g e (Arg.gets e xs) := rfl
@[simp] theorem lV_ok {g : List D → Option D} {ds : List D} : lV g e (some ds) = mLift (g ds) e := rfl
def oCons : Option D → Option (List D) → Option (List D)
  | some d, some ds => some (d :: ds)
  | _, _ => none
@[simp] theorem gets_nil : Arg.gets e [] = some [] := rfl
@[simp] theorem gets_cons {xs : List Arg} : Arg.gets e (x :: xs) = oCons (x.get e) (Arg.gets e xs) := by
  unfold oCons
  rw [Arg.gets] <;> rfl
@[simp] theorem oCons_ok {ds : List D} : oCons (some d) (some ds) = some (d :: ds) := rfl
def kA2 (x : Arg) : List Arg × EnvD → Res (List Arg × EnvD) := fun (xs, e) => .ok (x :: xs, e)
def kA1 (ms : List (EM Arg)) : Arg × EnvD → Res (List Arg × EnvD) := fun (x, e) => (mArgs ms e).bind (kA2 x)
@[simp] theorem e_args0 : mArgs [] env = .ok ([], env) := rfl
@[simp] theorem e_args {ms : List (EM Arg)} : mArgs (ma :: ms) env = (ma env).bind (kA1 ms) := rfl
@[simp] theorem kA1_ok {ms : List (EM Arg)} : kA1 ms (x, e) = (mArgs ms e).bind (kA2 x) := rfl
@[simp] theorem kA2_ok {xs : List Arg} : kA2 x (xs, e) = .ok (x :: xs, e) := rfl
/-! tests -/
@[simp] theorem bool_bl : D.bool (.bl b) = some b := rfl
@[simp] theorem mLiftT_ok : mLiftT (some b) e = .ok (b, e) := rfl
def kTB : D × EnvD → Res (Bool × EnvD) := fun (d, e) => mLiftT d.bool e
@[simp] theorem e_tb : mTB m env = (m env).bind kTB := rfl
@[simp] theorem kTB_ok : kTB (.bl b, e) = .ok (b, e) := rfl
def kNotT : Bool × EnvD → Res (Bool × EnvD) := fun (c, e) => .ok (!c, e)
@[simp] theorem e_notT : mNotT mt env = (mt env).bind kNotT := rfl
@[simp] theorem kNotT_ok : kNotT (b, e) = .ok (!b, e) := rfl
def kAndT (n : EM Bool) : Bool × EnvD → Res (Bool × EnvD) := fun (c, e) => if c = true then n e else .ok (false, e)
def kOrT (n : EM Bool) : Bool × EnvD → Res (Bool × EnvD) := fun (c, e) => if c = true then .ok (true, e) else n e
@[simp] theorem e_andT : mAndT mt nt env = (mt env).bind (kAndT nt) := rfl
@[simp] theorem e_orT : mOrT mt nt env = (mt env).bind (kOrT nt) := rfl
@[simp] theorem kAndT_t : kAndT nt (true, e) = nt e := rfl
@[simp] theorem kAndT_f : kAndT nt (false, e) = .ok (false, e) := rfl
@[simp] theorem kOrT_t : kOrT nt (true, e) = .ok (true, e) := rfl
@[simp] theorem kOrT_f : kOrT nt (false, e) = nt e := rfl
def aV (n : EM D) (e : EnvD) : Option Bool → Res (D × EnvD)
  | some true => n e
  | some false => .ok (.bl false, e)
  | none => .bad
def oV (n : EM D) (e : EnvD) : Option Bool → Res (D × EnvD)
  | some true => .ok (.bl true, e)
  | some false => n e
  | none => .bad
def kAndV (n : EM D) : D × EnvD → Res (D × EnvD) := fun (c, e) => aV n e c.bool
def kOrV (n : EM D) : D × EnvD → Res (D × EnvD) := fun (c, e) => oV n e c.bool
@[simp] theorem e_andV : mAndV m n env = (m env).bind (kAndV n) := by
  unfold mAndV
  refine bind_ext fun x => ?_
  obtain ⟨x, e1⟩ := x
  show _ = aV n e1 x.bool
  dsimp only
  rcases x.bool with _ | _ | _ <;> rfl
@[simp] theorem e_orV : mOrV m n env = (m env).bind (kOrV n) := by
  unfold mOrV
  refine bind_ext fun x => ?_
  obtain ⟨x, e1⟩ := x
  show _ = oV n e1 x.bool
  dsimp only
  rcases x.bool with _ | _ | _ <;> rfl
@[simp] theorem kAndV_t : kAndV n (.bl true, e) = n e := rfl
@[simp] theorem kAndV_f : kAndV n (.bl false, e) = .ok (.bl false, e) := rfl
@[simp] theorem kOrV_t : kOrV n (.bl true, e) = .ok (.bl true, e) := rfl
@[simp] theorem kOrV_f : kOrV n (.bl false, e) = n e := rfl
def kNotV : D × EnvD → Res (D × EnvD) := fun (c, e) => mLift (c.bool.map fun b => .bl (!b)) e
@[simp] theorem e_notV : mNotV m env = (m env).bind kNotV := by
  unfold mNotV
  refine bind_ext fun x => ?_
  obtain ⟨x, e1⟩ := x
  show _ = mLift (x.bool.map fun b => .bl (!b)) e1
  dsimp only
  cases x.bool <;> rfl
@[simp] theorem kNotV_ok : kNotV (.bl b, e) = .ok (.bl (!b), e) := rfl
def tV (e : EnvD) : Option D → Res (Bool × EnvD)
  | some d => mLiftT (truD d) e
  | none => .bad
def kTru : Arg × EnvD → Res (Bool × EnvD) := fun (x, e) => tV e (x.get e)
@[simp] theorem e_tru : mTru ma env = (ma env).bind kTru := by
  unfold mTru
  refine bind_ext fun x => ?_
  obtain ⟨x, e1⟩ := x
  show _ = tV e1 (x.get e1)
  dsimp only
  cases x.get e1 <;> rfl
@[simp] theorem kTru_ok : kTru (x, e) = tV e (x.get e) := rfl
@[simp] theorem tV_ok : tV e (some d) = mLiftT (truD d) e := rfl
@[simp] theorem e_yes : mYes env = .ok (true, env) := rfl
/-! displays -/
def dV (f : List D → D) (e : EnvD) : Option (List D) → Res (D × EnvD)
  | some ds => if fzL ds = true ∧ ds.length ≤ 1000 then .ok (f ds, e) else .bad
  | none => .bad
def kDsp (f : List D → D) : List Arg × EnvD → Res (D × EnvD) := fun (xs, e) => dV f e (Arg.gets e xs)
@[simp] theorem e_tup : mTup mas env = (mas env).bind (kDsp .tup) := by
  unfold mTup
  refine bind_ext fun x => ?_
  obtain ⟨x, e1⟩ := x
  show _ = dV .tup e1 (Arg.gets e1 x)
  dsimp only
  cases Arg.gets e1 x <;> rfl
@[simp] theorem e_lst : mLst mas env = (mas env).bind (kDsp (.lst true)) := by
  unfold mLst
  refine bind_ext fun x => ?_
  obtain ⟨x, e1⟩ := x
  show _ = dV (.lst true) e1 (Arg.gets e1 x)
  dsimp only
  cases Arg.gets e1 x <;> rfl
@[simp] theorem kDsp_ok {f : List D → D} {xs : List Arg} : kDsp f (xs, e) = dV f e (Arg.gets e xs) := rfl
@[simp] theorem dV_ok {f : List D → D} {ds : List D} : dV f e (some ds) = if fzL ds = true ∧ ds.length ≤ 1000 then .ok (f ds, e) else .bad := rfl
@[simp] theorem e_dic0 : mDic0 env = .ok (.dic true [] [], env) := rfl
def kCall (g : List D → Res (D × EnvD)) : List Arg × EnvD → Res (D × EnvD) := fun (xs, e) => mCallR g xs e
@[simp] theorem e_call {g : List D → Res (D × EnvD)} : mCall g mas env = (mas env).bind (kCall g) := rfl
def cV (xs : List Arg) (ds : List D) (e : EnvD) : Res (D × EnvD) → Res (D × EnvD)
  | .ok (d, outs) => .ok (d, putBack xs ds outs e)
  | .exc x outs => .exc x (putBack xs ds outs e)
  | .bad => .bad
theorem kCall_ok {g : List D → Res (D × EnvD)} {xs : List Arg} {ds : List D} (h : Arg.gets e xs = some ds) (h2 : (ownVars xs ds).Nodup) : kCall g (xs, e) = cV xs ds e (g ds) := by
  show mCallR g xs e = _
  unfold mCallR cV
  rw [h]; dsimp only; rw [if_pos h2] <;> rfl
@[simp] theorem cV_ok {xs : List Arg} {ds : List D} {outs : EnvD} : cV xs ds e (.ok (d, outs)) = .ok (d, putBack xs ds outs e) := rfl
@[simp] theorem cV_exc {xs : List Arg} {ds : List D} {outs : EnvD} {z : Exc} : cV xs ds e (.exc z outs) = .exc z (putBack xs ds outs e) := rfl
def gCall (g : List D → Res (D × EnvD)) (xs : List Arg) (e : EnvD) : Option (List D) → Res (D × EnvD)
  | some ds => if (ownVars xs ds).Nodup then cV xs ds e (g ds) else .bad
  | none => .bad
@[simp] theorem kCall_g {g : List D → Res (D × EnvD)} {xs : List Arg} : kCall g (xs, e) = gCall g xs e (Arg.gets e xs) := by
  show mCallR g xs e = _
  unfold mCallR gCall
  cases Arg.gets e xs with
  | none => rfl
  | some ds =>
    dsimp only
    by_cases h : (ownVars xs ds).Nodup
    · rw [if_pos h, if_pos h]; rfl
    · rw [if_neg h, if_neg h]
@[simp] theorem gCall_ok {g : List D → Res (D × EnvD)} {xs : List Arg} {ds : List D} : gCall g xs e (some ds) = if (ownVars xs ds).Nodup then cV xs ds e (g ds) else .bad := rfl
def iV (k : TyK) (e : EnvD) : Option D → Res (D × EnvD)
  | some d => mLift ((isK k d).map .bl) e
  | none => .bad
def kIsi (k : TyK) : Arg × EnvD → Res (D × EnvD) := fun (x, e) => iV k e (x.get e)
@[simp] theorem e_isi {k : TyK} : mIsi k ma env = (ma env).bind (kIsi k) := by
  unfold mIsi
  refine bind_ext fun x => ?_
  obtain ⟨x, e1⟩ := x
  show _ = iV k e1 (x.get e1)
  dsimp only
  cases x.get e1 <;> rfl
@[simp] theorem kIsi_ok {k : TyK} : kIsi k (x, e) = iV k e (x.get e) := rfl
@[simp] theorem iV_ok {k : TyK} : iV k e (some d) = mLift ((isK k d).map .bl) e := rfl
/-! chains -/
def chV3 (g' : D → D → Option D) (y : Arg) : Arg × EnvD → Res (D × EnvD) := fun (z, e) => bV g' e (y.get e) (z.get e)
def chV2 (g' : D → D → Option D) (mc : EM Arg) (y : Arg) (e : EnvD) : Option Bool → Res (D × EnvD)
  | some true => (mc e).bind (chV3 g' y)
  | some false => .ok (.bl false, e)
  | none => .bad
def chV1 (g g' : D → D → Option D) (mc : EM Arg) (y : Arg) (e : EnvD) : Option D → Option D → Res (D × EnvD)
  | some d1, some d2 => chV2 g' mc y e ((g d1 d2).bind D.bool)
  | _, _ => .bad
def kCh2 (g g' : D → D → Option D) (mc : EM Arg) (x : Arg) : Arg × EnvD → Res (D × EnvD) := fun (y, e) => chV1 g g' mc y e (x.get e) (y.get e)
def kCh1 (g g' : D → D → Option D) (mb mc : EM Arg) : Arg × EnvD → Res (D × EnvD) := fun (x, e) => (mb e).bind (kCh2 g g' mc x)
@[simp] theorem e_chain {g g' : D → D → Option D} : mChain g g' ma mb mc env = (ma env).bind (kCh1 g g' mb mc) := by
  unfold mChain
  refine bind_ext fun x => ?_
  obtain ⟨x, e1⟩ := x
  show _ = (mb e1).bind (kCh2 g g' mc x)
  refine bind_ext fun y => ?_
  obtain ⟨y, e2⟩ := y
  show _ = chV1 g g' mc y e2 (x.get e2) (y.get e2)
  dsimp only
  cases x.get e2 with
  | none => rfl
  | some d1 =>
    cases y.get e2 with
    | none => rfl
    | some d2 =>
      show _ = chV2 g' mc y e2 ((g d1 d2).bind D.bool)
      dsimp only
      rcases (g d1 d2).bind D.bool with _ | _ | _
      · rfl
      · rfl
      · show (mc e2).bind _ = (mc e2).bind (chV3 g' y)
        refine bind_ext fun z => ?_
        obtain ⟨z, e3⟩ := z
        show _ = bV g' e3 (y.get e3) (z.get e3)
        dsimp only
        cases y.get e3 <;> cases z.get e3 <;> rfl
@[simp] theorem kCh1_ok {g g' : D → D → Option D} : kCh1 g g' mb mc (x, e) = (mb e).bind (kCh2 g g' mc x) := rfl
@[simp] theorem kCh2_ok {g g' : D → D → Option D} : kCh2 g g' mc x (y, e) = chV1 g g' mc y e (x.get e) (y.get e) := rfl
@[simp] theorem chV1_ok {g g' : D → D → Option D} : chV1 g g' mc y e (some d1) (some d2) = chV2 g' mc y e ((g d1 d2).bind D.bool) := rfl
@[simp] theorem chV2_t {g' : D → D → Option D} : chV2 g' mc y e (some true) = (mc e).bind (chV3 g' y) := rfl
@[simp] theorem chV2_f {g' : D → D → Option D} : chV2 g' mc y e (some false) = .ok (.bl false, e) := rfl
@[simp] theorem chV3_ok {g' : D → D → Option D} : chV3 g' y (x, e) = bV g' e (y.get e) (x.get e) := rfl
/-! slices -/
def kSl3 (x : Arg) (lo : Option Int) : Option Int × EnvD → Res (D × EnvD) := fun (hi, e) => uV (fun d => slD d lo hi) e (x.get e)
def kSl2 (mh : EM (Option Int)) (x : Arg) : Option Int × EnvD → Res (D × EnvD) := fun (lo, e) => (mh e).bind (kSl3 x lo)
def kSl1 (ml mh : EM (Option Int)) : Arg × EnvD → Res (D × EnvD) := fun (x, e) => (ml e).bind (kSl2 mh x)
variable {ml mh : EM (Option Int)} {lo hi : Option Int}
@[simp] theorem e_sl : mSl ma ml mh env = (ma env).bind (kSl1 ml mh) := by
  unfold mSl
  refine bind_ext fun x => ?_
  obtain ⟨x, e1⟩ := x
  show _ = (ml e1).bind (kSl2 mh x)
  refine bind_ext fun y => ?_
  obtain ⟨y, e2⟩ := y
  show _ = (mh e2).bind (kSl3 x y)
  refine bind_ext fun z => ?_
  obtain ⟨z, e3⟩ := z
  show _ = uV (fun d => slD d y z) e3 (x.get e3)
  dsimp only
  cases x.get e3 <;> rfl
@[simp] theorem kSl1_ok : kSl1 ml mh (x, e) = (ml e).bind (kSl2 mh x) := rfl
@[simp] theorem kSl2_ok : kSl2 mh x (lo, e) = (mh e).bind (kSl3 x lo) := rfl
@[simp] theorem kSl3_ok : kSl3 x lo (hi, e) = uV (fun d => slD d lo hi) e (x.get e) := rfl
@[simp] theorem e_noP : mNoP env = .ok (none, env) := rfl
def kPart : D × EnvD → Res (Option Int × EnvD) := fun (d, e) => match d with
  | .int i => .ok (some i, e)
  | _ => .bad
@[simp] theorem e_part : mPart m env = (m env).bind kPart := rfl
@[simp] theorem kPart_ok {z : Int} : kPart (.int z, e) = .ok (some z, e) := rfl
/-! stores -/
def sV (j : Nat) (y : D) (e : EnvD) : Option (Option D) → Option D → Res (FlowD × EnvD)
  | some (some d), some i => oFlow ((setQ d i (frzQ y)).map fun d' => e.set j (some d'))
  | _, _ => .bad
def kSet2 (j : Nat) (y : D) : Arg × EnvD → Res (FlowD × EnvD) := fun (x, e) => sV j y e (e[j]?) (x.get e)
def kSetV (j : Nat) (mi : EM D) (y : D) (e : EnvD) : Option (Option D) → Res (FlowD × EnvD)
  | some (some _) => (mFrz mi e).bind (kSet2 j y)
  | _ => .bad
def kSet1 (j : Nat) (mi : EM D) : D × EnvD → Res (FlowD × EnvD) := fun (y, e) => kSetV j mi y e (e[j]?)
@[simp] theorem e_set : mSet j m n env = (n env).bind (kSet1 j m) := by
  unfold mSet
  refine bind_ext fun x => ?_
  obtain ⟨y, e1⟩ := x
  show _ = kSetV j m y e1 (e1[j]?)
  dsimp only
  rcases e1[j]? with _ | _ | d
  · rfl
  · rfl
  · show (mFrz m e1).bind _ = (mFrz m e1).bind (kSet2 j y)
    refine bind_ext fun z => ?_
    obtain ⟨z, e2⟩ := z
    show _ = sV j y e2 (e2[j]?) (z.get e2)
    dsimp only
    rcases e2[j]? with _ | _ | d'
    · rfl
    · rfl
    · cases z.get e2 with
      | none => rfl
      | some i =>
        show _ = oFlow ((setQ d' i (frzQ y)).map fun d'' => e2.set j (some d''))
        dsimp only
        cases setQ d' i (frzQ y) <;> rfl
@[simp] theorem kSet1_ok : kSet1 j m (d, e) = kSetV j m d e (e[j]?) := rfl
@[simp] theorem kSetV_ok : kSetV j m d1 e (some (some d)) = (mFrz m e).bind (kSet2 j d1) := rfl
@[simp] theorem kSet2_ok : kSet2 j d (x, e) = sV j d e (e[j]?) (x.get e) := rfl
@[simp] theorem sV_ok {i : D} : sV j d1 e (some (some d)) (some i) = oFlow ((setQ d i (frzQ d1)).map fun d' => e.set j (some d')) := rfl
/-! loops -/
def kFor (t : Tgt) (body : EM FlowD) : List D × EnvD → Res (FlowD × EnvD) := fun (ds, e) => if fzL ds = true then loopF t body ds e else .bad
@[simp] theorem e_for {mi : EM (List D)} {t : Tgt} : mFor mi t ms env = (mi env).bind (kFor t ms) := rfl
theorem kFor_ok {ds : List D} {t : Tgt} (h : fzL ds = true) : kFor t ms (ds, e) = loopF t ms ds e := by
  show (if fzL ds = true then _ else _) = _
  rw [if_pos h]
@[simp] theorem e_while {fuel : EnvD → Nat} : mWhile fuel mt ms env = whileF mt ms (fuel env) env := rfl
def rV (f : List D → Option (List D)) (e : EnvD) : Option (List D) → Res (List D × EnvD)
  | some ds => match f ds with
    | some l => .ok (l, e)
    | none => .bad
  | none => .bad
def kIt (f : List D → Option (List D)) : List Arg × EnvD → Res (List D × EnvD) := fun (xs, e) => rV f e (Arg.gets e xs)
@[simp] theorem e_it {f : List D → Option (List D)} : mIt mas f env = (mas env).bind (kIt f) := by
  unfold mIt
  refine bind_ext fun x => ?_
  obtain ⟨x, e1⟩ := x
  show _ = rV f e1 (Arg.gets e1 x)
  dsimp only
  cases Arg.gets e1 x <;> rfl
@[simp] theorem kIt_ok {f : List D → Option (List D)} {xs : List Arg} : kIt f (xs, e) = rV f e (Arg.gets e xs) := rfl
theorem rV_ok {f : List D → Option (List D)} {ds l : List D} (h : f ds = some l) : rV f e (some ds) = .ok (l, e) := by
  show (match f ds with | some l => _ | none => _) = _
  rw [h]
def sqV (e : EnvD) : Option D → Res (List D × EnvD)
  | some d => match seqI [d] with
    | some l => .ok (l, e)
    | none => .bad
  | none => .bad
def kIt1 : Arg × EnvD → Res (List D × EnvD) := fun (x, e) => sqV e (x.get e)
@[simp] theorem e_it1 : mIt1 ma env = (ma env).bind kIt1 := by
  unfold mIt1
  refine bind_ext fun x => ?_
  obtain ⟨x, e1⟩ := x
  show _ = sqV e1 (x.get e1)
  dsimp only
  cases x.get e1 <;> rfl
@[simp] theorem kIt1_ok : kIt1 (x, e) = sqV e (x.get e) := rfl
theorem sqV_ok {l : List D} (h : seqI [d] = some l) : sqV e (some d) = .ok (l, e) := by
  show (match seqI [d] with | some l => _ | none => _) = _
  rw [h]
def kLc2 (e : EnvD) (own : List Nat) : List D × EnvD → Res (D × EnvD) := fun (l, e') => .ok (.lst true l, restE e e' own)
def kLc (t : Tgt) (cond : EM Bool) (elt : EM D) (own : List Nat) : List D × EnvD → Res (D × EnvD) := fun (ds, e) => if fzL ds = true ∧ ds.length ≤ 100000 then (loopL t cond elt own ds [] e).bind (kLc2 e own) else .bad
@[simp] theorem e_lc {mi : EM (List D)} {t : Tgt} {own : List Nat} : mLc mi t mt m own env = (mi env).bind (kLc t mt m own) := rfl
theorem kLc_okX {ds : List D} {t : Tgt} {own : List Nat} (h1 : fzL ds = true) (h2 : ds.length ≤ 100000) : kLc t mt m own (ds, e) = (loopL t mt m own ds [] e).bind (kLc2 e own) := by
  show (if fzL ds = true ∧ ds.length ≤ 100000 then _ else _) = _
  rw [if_pos ⟨h1, h2⟩]
theorem kLc_ok {ds : List D} {t : Tgt} {own : List Nat} (h1 : fzL ds = true) (h2 : ds.length ≤ 1000) : kLc t mt m own (ds, e) = (loopL t mt m own ds [] e).bind (kLc2 e own) := kLc_okX h1 (by omega)
@[simp] theorem kLc2_ok {e' : EnvD} {own : List Nat} {l : List D} : kLc2 e own (l, e') = .ok (.lst true l, restE e e' own) := rfl
@[simp] theorem e_exc {s : Str} : mExc s env = .exc ⟨s, [], []⟩ env := rfl
def kTry (yes no : List Str) (suite : EM FlowD) : Res (FlowD × EnvD) → Res (FlowD × EnvD)
  | .exc x e => if x.cls ∈ yes then calmR (suite e) else if x.cls ∈ no then .exc x e else .bad
  | r => r
@[simp] theorem e_try {yes no : List Str} : mTry yes no ms ns env = kTry yes no ns (ms env) := by
  unfold mTry kTry
  cases ms env <;> rfl
@[simp] theorem kTry_ok {yes no : List Str} {f : FlowD × EnvD} : kTry yes no ns (.ok f) = .ok f := rfl
@[simp] theorem kTry_exc {yes no : List Str} {z : Exc} : kTry yes no ns (.exc z e) = if z.cls ∈ yes then calmR (ns e) else if z.cls ∈ no then .exc z e else .bad := rfl
@[simp] theorem calmR_ok {f : FlowD × EnvD} : calmR (.ok f) = .ok f := rfl
def kWh2 (c : EM Bool) (body : EM FlowD) (n : Nat) : FlowD × EnvD → Res (FlowD × EnvD) := fun (f, e2) => match f with
  | .next => whileF c body n e2
  | .cont => whileF c body n e2
  | .brk => .ok (.next, e2)
  | .ret d => .ok (.ret d, e2)
def kWh (c : EM Bool) (body : EM FlowD) (n : Nat) : Bool × EnvD → Res (FlowD × EnvD) := fun (b, e1) => if b = true then (body e1).bind (kWh2 c body n) else .ok (.next, e1)
theorem e_wh {n : Nat} : whileF mt ms (n + 1) env = (mt env).bind (kWh mt ms n) := rfl
@[simp] theorem kWh_t {n : Nat} : kWh mt ms n (true, e) = (ms e).bind (kWh2 mt ms n) := rfl
@[simp] theorem kWh_f {n : Nat} : kWh mt ms n (false, e) = .ok (.next, e) := rfl
@[simp] theorem kWh2_next {n : Nat} : kWh2 mt ms n (.next, e) = whileF mt ms n e := rfl
@[simp] theorem kWh2_cont {n : Nat} : kWh2 mt ms n (.cont, e) = whileF mt ms n e := rfl
@[simp] theorem kWh2_brk {n : Nat} : kWh2 mt ms n (.brk, e) = .ok (.next, e) := rfl
@[simp] theorem kWh2_ret {n : Nat} : kWh2 mt ms n (.ret d, e) = .ok (.ret d, e) := rfl
def kLp (t : Tgt) (body : EM FlowD) (ds : List D) : FlowD × EnvD → Res (FlowD × EnvD) := fun (f, e2) => match f with
  | .next => loopF t body ds e2
  | .cont => loopF t body ds e2
  | .brk => .ok (.next, e2)
  | .ret d => .ok (.ret d, e2)
def lpV (t : Tgt) (body : EM FlowD) (ds : List D) : Option EnvD → Res (FlowD × EnvD)
  | some e1 => (body e1).bind (kLp t body ds)
  | none => .bad
theorem e_lp0 {t : Tgt} : loopF t ms [] e = .ok (.next, e) := rfl
theorem e_lp {t : Tgt} {ds : List D} : loopF t ms (d :: ds) e = lpV t ms ds (mTg t d e) := by
  rw [loopF]
  cases mTg t d e <;> rfl
@[simp] theorem lpV_ok {t : Tgt} {ds : List D} : lpV t ms ds (some e) = (ms e).bind (kLp t ms ds) := rfl
@[simp] theorem kLp_next {t : Tgt} {ds : List D} : kLp t ms ds (.next, e) = loopF t ms ds e := rfl
@[simp] theorem kLp_cont {t : Tgt} {ds : List D} : kLp t ms ds (.cont, e) = loopF t ms ds e := rfl
@[simp] theorem kLp_brk {t : Tgt} {ds : List D} : kLp t ms ds (.brk, e) = .ok (.next, e) := rfl
@[simp] theorem kLp_ret {t : Tgt} {ds : List D} : kLp t ms ds (.ret d, e) = .ok (.ret d, e) := rfl
@[simp] theorem tg_nm : mTg (.nm i) d e = some (e.set i (some d)) := by simp [mTg]
/-! data -/
@[simp] theorem fz_non : fz .non = true := by simp [fz]
@[simp] theorem fz_bl : fz (.bl b) = true := by simp [fz]
@[simp] theorem fz_int {z : Int} : fz (.int z) = true := by simp [fz]
@[simp] theorem fz_str {z : Str} : fz (.str z) = true := by simp [fz]
@[simp] theorem fz_scr {z : List Int} : fz (.scr z) = true := by simp [fz]
@[simp] theorem fz_tup {l : List D} : fz (.tup l) = fzL l := by simp [fz]
@[simp] theorem fz_lst {l : List D} : fz (.lst b l) = (!b && fzL l) := by simp [fz]
@[simp] theorem fz_dic {k l : List D} : fz (.dic b k l) = (!b && (fzL k && fzL l)) := by simp [fz]
@[simp] theorem fzL_nil : fzL [] = true := by simp [fzL]
@[simp] theorem fzL_cons {l : List D} : fzL (d :: l) = (fz d && fzL l) := by simp [fzL]
theorem frzQ_fz (h : fz d = true) : frzQ d = d := by unfold frzQ; rw [if_pos h]
@[simp] theorem frzQ_non : frzQ .non = .non := rfl
@[simp] theorem frzQ_bl : frzQ (.bl b) = .bl b := rfl
@[simp] theorem frzQ_int {z : Int} : frzQ (.int z) = .int z := rfl
@[simp] theorem frzQ_str {z : Str} : frzQ (.str z) = .str z := rfl
@[simp] theorem frzQ_scr {z : List Int} : frzQ (.scr z) = .scr z := rfl
theorem frz_lstt {l : List D} (h : fzL l = true) : frzQ (.lst true l) = .lst false l := by unfold frzQ; simp [frz, frzL_fz l h]
end
end Mi
namespace Mi
open PySem PySem.Spec PyProof.Rows L2

/-! ### several except clauses -/
abbrev Hd := List Str × List Str × EM FlowD
def hdsM : List Hd → Exc → EnvD → Res (FlowD × EnvD)
  | [], x, e => .exc x e
  | (y, n, s) :: r, x, e => if x.cls ∈ y then calmR (s e) else if x.cls ∈ n then hdsM r x e else .bad
def mTryM (hs : List Hd) (body : EM FlowD) : EM FlowD := fun env => match body env with
  | .exc x e => hdsM hs x e
  | r => r
inductive HdM (X : Cx) (G : Gm) : List ExceptHandler → List Hd → List (Value × (Addr → Value → Option Addr → TS)) → Prop
  | nil : HdM X G [] [] []
  | cons {x : Str} {c : Value} {b0 : Stmt} {suite : List Stmt} {np pos' : Pos} {hds : List ExceptHandler} {hs : List Hd} {l : List (Value × (Addr → Value → Option Addr → TS))} {yes no : List Str} {ns : EM FlowD} (hc : Names X x c)
      (hy : ∀ n ∈ yes, ∀ u, G.C.mg n = some u → PySem.W.exmOne G.C.K u c = some true) (hn : ∀ n ∈ no, ∀ u, G.C.mg n = some u → PySem.W.exmOne G.C.K u c = some false)
      (hsu : ∀ (a : Addr) (pn : List (Addr × Obj)), St0 (X.suite a pn) G → PSs (X.suite a pn) (b0 :: suite) (tS G W0 ns)) (r : HdM X G hds hs l) :
      HdM X G (.ExceptHandler (some (.Name x np)) none (b0 :: suite) pos' :: hds) ((yes, no, ns) :: hs) ((c, fun _ _ _ => tS G W0 ns) :: l)
theorem HdM.hds {X : Cx} {G : Gm} {W : WX} {lv : Nat} (s : Go X G W lv) : ∀ {hds : List ExceptHandler} {hs : List Hd} {l : List (Value × (Addr → Value → Option Addr → TS))}, HdM X G hds hs l → HdsOk X hds l := fun h => by
  induction h with
  | nil => exact .nil
  | cons hc hy hn hsu r ih => exact .cons hc (fun a oe cls d pn _ _ => hsu a ((a, oe) :: pn) (s.suite a _)) ih
theorem calm_post {G : Gm} {W W' : WX} {D : Ends} {b : Wd} {r : Res (FlowD × EnvD)} (h : PostS G W D b (calmR r)) : PostS G W' D b r := by
  cases r with
  | bad => exact (show False from h).elim
  | exc x e => exact (show False from h).elim
  | ok fe => obtain ⟨f, e⟩ := fe; cases f <;> exact h
theorem HdM.many {X : Cx} {G : Gm} {W : WX} {D : Ends} {lv : Nat} (s : Go X G W lv) {x : Exc} {e : EnvD} {b : Wd} {σ : L2.St} {cls : Value} {dd : Option Addr} (rel : RelE G b σ e) (er : ExcRep G.C b x cls dd) :
    ∀ {hds : List ExceptHandler} {hs : List Hd} {l : List (Value × (Addr → Value → Option Addr → TS))}, HdM X G hds hs l → PostS G W D b (hdsM hs x e) → wMany X.K W D l cls dd σ b.H := fun h => by
  induction h with
  | nil => exact fun p => p b σ cls dd (Step.refl b) rel er
  | @cons x' c b0 suite np pos' hds hs l yes no ns hc hy hn hsu r ih =>
    intro p
    unfold hdsM at p
    by_cases h1 : x.cls ∈ yes
    · rw [if_pos h1] at p
      exact ⟨true, by rw [s.k]; exact hy _ h1 _ er.1, fun _ u _ => ⟨b, e, rfl, rel, calm_post p⟩, fun z => Bool.noConfusion z⟩
    · rw [if_neg h1] at p
      by_cases h2 : x.cls ∈ no
      · rw [if_pos h2] at p
        exact ⟨false, by rw [s.k]; exact hn _ h2 _ er.1, fun z => Bool.noConfusion z, fun _ => ih p⟩
      · rw [if_neg h2] at p
        exact (show False from p).elim
theorem rs_tryM {X : Cx} {G : Gm} {W : WX} {lv : Nat} {pos : Pos} {body : List Stmt} {h0 : ExceptHandler} {hds : List ExceptHandler} {hs : List Hd} {l : List (Value × (Addr → Value → Option Addr → TS))} {ms : EM FlowD} (s : Go X G W lv) (hst : X.stack = X.env :: X.outer) (hf : X.env.frame = some X.env.locals)
    (hb : ∀ (W' : WX) (pn : List (Addr × Obj)) (xe : Value → Shared → Prop), Go (X.tr pn xe) G W' lv → PSs (X.tr pn xe) body (tS G W' ms)) (hh : HdM X G (h0 :: hds) hs l) :
    PS X (.Try body (h0 :: hds) [] [] pos) (tS G W (mTryM hs ms)) := by
  refine (ps_try_many hst hf s.tk (fun W' pn xe tk pw => hb W' pn xe (s.tr tk pw)) (hh.hds s)).weak fun D σ H q => ?_
  obtain ⟨a, env, rfl, rel, post⟩ := q
  refine ⟨a, env, rfl, rel, ?_⟩
  unfold mTryM at post
  cases hm : ms env with
  | bad => rw [hm] at post; exact post
  | ok fe =>
    obtain ⟨f, e⟩ := fe
    rw [hm] at post
    cases f <;> exact post
  | exc y e =>
    rw [hm] at post
    exact fun b σ' cls dd st r er => HdM.many s r er hh (PostS.step st post)
def kTryM (hs : List Hd) : Res (FlowD × EnvD) → Res (FlowD × EnvD)
  | .exc x e => hdsM hs x e
  | r => r
section
variable {env e : EnvD} {ms : EM FlowD} {hs : List Hd}
@[simp] theorem e_tryM : mTryM hs ms env = kTryM hs (ms env) := by
  unfold mTryM kTryM
  cases ms env <;> rfl
@[simp] theorem kTryM_ok {f : FlowD × EnvD} : kTryM hs (.ok f) = .ok f := rfl
@[simp] theorem kTryM_exc {z : Exc} : kTryM hs (.exc z e) = hdsM hs z e := rfl
end
end Mi
namespace Mi
open PySem PySem.Spec PyProof.Rows L2

/-! ### a slot's own list, rewritten -/
theorem RelE.rewr {G : Gm} {a : Wd} {σ : L2.St} {env : EnvD} {j : Nat} {l : List D} (r : RelE G a σ env) (h : env[j]? = some (some (.lst true l))) :
    ∃ x vs, σ[j]? = some (some (.ref x)) ∧ a.H x = some (.lst vs) ∧ RepL G.C a (j + 1) [] 0 vs l ∧ ∀ (vs' : List V) (l' : List D) (s n : Nat) (q : List Nat), fzL l' = true → RepL G.C a s q n vs' l' →
      Step a ⟨a.F, upd a.H x (.lst vs'), a.t⟩ ∧ RelE G ⟨a.F, upd a.H x (.lst vs'), a.t⟩ σ (env.set j (some (.lst true l'))) := by
  obtain ⟨w, h1, h2⟩ := r.slot j _ h
  simp only [Rep] at h2
  obtain ⟨x, vs, rfl, hx, hl⟩ := h2
  rw [if_pos trivial] at hx
  obtain ⟨tx, hx⟩ := hx
  refine ⟨x, vs, h1, hx, hl, fun vs' l' s n q z hl' => ?_⟩
  have ne : ∀ {y : Addr} {t : Option Tag}, a.t y = t → t ≠ some (j + 1, []) → y ≠ x := fun e ht => by rintro rfl; rw [tx] at e; exact ht e.symm
  have fx : a.F x = none := (r.ok.own x _ tx).1
  have up : ∀ {y : Addr}, y ≠ x → upd a.H x (.lst vs') y = a.H y := fun e => upd_ne e
  have ok' : Ok ⟨a.F, upd a.H x (.lst vs'), a.t⟩ := by
    refine ⟨fun y o e => ?_, fun y t e => ?_⟩
    · have : y ≠ x := by rintro rfl; have e : a.F y = some o := e; rw [fx] at e; cases e
      show upd a.H x _ y = _
      rw [up this]; exact r.ok.sub y o e
    · obtain ⟨g1, o, g2⟩ := r.ok.own y t e
      by_cases q : y = x
      · subst q; exact ⟨g1, _, upd_same⟩
      · exact ⟨g1, o, by show upd a.H x _ y = _; rw [up q]; exact g2⟩
  have mv : ∀ {d : D} {r p} {v1 : V}, (∀ z, (r, z ++ p) ≠ (j + 1, ([] : List Nat))) → Rep G.C a r p v1 d → Rep G.C ⟨a.F, upd a.H x (.lst vs'), a.t⟩ r p v1 d := fun {d r p v1} hne h => by
    have := Rep.to (C := G.C) (a := a) (b := ⟨a.F, upd a.H x (.lst vs'), a.t⟩) (r := r) (s := r) (p := p) (q := p) (fun _ _ h => h) (fun y z o h e => ⟨h, by
      show upd a.H x _ y = _
      rw [up (ne h (by intro q; exact hne z (Option.some.inj q)))]; exact e⟩) d [] v1
    exact this h
  refine ⟨fun y o e t => ⟨by show upd a.H x _ y = _; rw [up (ne t (by simp))]; exact e, t, rfl⟩, ⟨ok', by rw [List.length_set]; exact r.len, fun i d e => ?_, r.prm⟩⟩
  by_cases ij : j = i
  · subst ij
    have hj : j < env.length := (List.getElem?_eq_some_iff.mp h).1
    rw [List.getElem?_set_self hj] at e
    cases e
    refine ⟨.ref x, h1, ?_⟩
    simp only [Rep]
    refine ⟨x, vs', rfl, ?_, ?_⟩
    · rw [if_pos trivial]; exact ⟨tx, upd_same⟩
    · exact RepL.fz (a := a) (b := ⟨a.F, upd a.H x (.lst vs'), a.t⟩) (fun _ _ h => h) l' q [] n vs' z hl'
  · rw [List.getElem?_set_ne ij] at e
    obtain ⟨w, e1, e2⟩ := r.slot i d e
    exact ⟨w, e1, mv (by intro z q; exact ij (Nat.succ.inj (congrArg Prod.fst q)).symm) e2⟩
/- a method of a slot's own list: the arguments, the answer and the list behind it -/
def mMet (j : Nat) (ma : EM (List Arg)) (f : List D → List D → Option (D × List D)) : EM D := fun env => match env[j]? with
  | some (some (.lst true _)) => (ma env).bind fun (xs, e) => match e[j]?, Arg.gets e xs with
    | some (some (.lst true l)), some ds => match f l ds with
      | some (d, l') => .ok (d, e.set j (some (.lst true l')))
      | none => .bad
    | _, _ => .bad
  | _ => .bad
/- r does to the objects what f does to the data -/
def MetOk (C : KM) (r : V → List V → Hp → VK → Prop) (f : List D → List D → Option (D × List D)) : Prop := ∀ (a : Wd) (x : Addr) (vs us : List V) (l ds : List D) (d : D) (l' : List D) (n s : Nat) (p : List Nat) (Q : VK), Ok a → a.H x = some (.lst vs) → RepL C a s p n vs l → Paired (fun d v => ∃ r, Rep C a r [] v d) ds us → f l ds = some (d, l') →
  (∀ v vs' s' n' q, fzL l' = true → RepL C a s' q n' vs' l' → (∃ s'' q'', fz d = true ∧ Rep C a s'' q'' v d) → Q v (upd a.H x (.lst vs'))) → r (.ref x) us a.H Q
theorem met_w {G : Gm} {W : WX} {σ : L2.St} {H : Hp} {Q : VK} {j : Nat} {ma : EM (List Arg)} {f : List D → List D → Option (D × List D)} {r : V → List V → Hp → VK → Prop} (ok : MetOk G.C r f) (h : tE G W (mMet j ma f) σ H Q) : tBM G.C.K "list" r (tVar j) (tArgs G W ma) σ H Q := by
  obtain ⟨a, env, rfl, rel, post⟩ := h
  unfold mMet at post
  split at post
  · rename_i l0 hj
    obtain ⟨x, vs, h1, h2, h3, _⟩ := rel.rewr hj
    refine ⟨.ref x, h1, .inl ⟨rfl, vs, SqL.of h2⟩, tArgs_of rel post fun xs e b us st r' ps p => ?_⟩
    dsimp only at p
    split at p
    · rename_i l ds hj' hg
      cases hf : f l ds with
      | none => rw [hf] at p; exact (show False from p).elim
      | some dl =>
        obtain ⟨d, l'⟩ := dl
        rw [hf] at p
        dsimp only at p
        obtain ⟨x', vs', k1, k2, k3, k4⟩ := r'.rewr hj'
        rw [h1] at k1; cases k1
        refine ok b x vs' us l ds d l' _ _ _ Q r'.ok k2 k3 (gets_rep r' ps hg) hf fun v ws s' n' q z hr ⟨s'', q'', zd, rd⟩ => ?_
        obtain ⟨st', rel'⟩ := k4 ws l' s' n' q z hr
        exact p _ st' rel' v (rd.step r'.ok st' zd)
    · exact (show False from p).elim
  · exact (show False from post).elim
def appF (l ds : List D) : Option (D × List D) := match ds with
  | [y] => if fzL l = true ∧ fz y = true ∧ l.length < 16000000 then some (.non, l ++ [y]) else none
  | _ => none
def extF (l ds : List D) : Option (D × List D) := match ds with
  | [.lst _ m] => if fzL l = true ∧ fzL m = true ∧ l.length + m.length < 16000000 then some (.non, l ++ m) else none
  | _ => none
def popF (l ds : List D) : Option (D × List D) := match ds with
  | [.int i] => if fzL l = true ∧ -(2 ^ 63) ≤ i ∧ i < 2 ^ 63 then match seqIndex? i l.length with
      | some k => (l[k]?).map fun d => (d, l.eraseIdx k)
      | none => none
    else none
  | [] => if fzL l = true then (l[l.length - 1]?).map fun d => (d, l.dropLast) else none
  | _ => none
def insF (l ds : List D) : Option (D × List D) := match ds with
  | [.int i, y] => if fzL l = true ∧ fz y = true ∧ 0 ≤ i ∧ i < 2 ^ 63 ∧ l.length < 16000000 then some (.non, l.take i.toNat ++ [y] ++ l.drop i.toNat) else none
  | _ => none
theorem szl : sizeLine = 16777216 := sizeLine_eq
section
variable {C : KM}
theorem met_app : MetOk C rAppend appF := fun a x vs us l ds d l' n s p Q k hx hl ps hf q => by
  match ds, hf, ps with
  | [y], hf, ps =>
    simp only [appF] at hf
    split at hf
    · rename_i z; cases hf
      obtain ⟨u, rfl, ru, hu⟩ := one_rep ps
      refine ⟨x, vs, u, rfl, rfl, hx, by rw [hl.len, szl]; omega, q .non _ 0 0 [] (by rw [fzL_append, z.1]; simp [fzL, z.2.1]) (RepL.appz (n := n) (s := 0) (q := []) (k := 0) z.1 (by simp [fzL, z.2.1]) hl ?_) ⟨0, [], by simp [fz], by simp [Rep]⟩⟩
      exact ⟨u, [], rfl, Rep.fz (a := a) (b := a) (fun _ _ h => h) y [] [0] u z.2.1 hu, by simp [RepL]⟩
    · cases hf
theorem met_ext : MetOk C rExtend extF := fun a x vs us l ds d l' n s p Q k hx hl ps hf q => by
  match ds, hf, ps with
  | [.lst o m], hf, ps =>
    simp only [extF] at hf
    split at hf
    · rename_i z; cases hf
      obtain ⟨u, rfl, ru, hu⟩ := one_rep ps
      obtain ⟨y, ws, rfl, h1, h2⟩ := rep_lst k hu
      exact ⟨x, y, vs, ws, rfl, rfl, hx, h1, by rw [hl.len, h2.len, szl]; omega, q .non _ 0 0 [] (by rw [fzL_append, z.1, z.2.1]; rfl) (RepL.appz (n := n) (k := 0) z.1 z.2.1 hl h2) ⟨0, [], by simp [fz], by simp [Rep]⟩⟩
    · cases hf
theorem repL_drop {a : Wd} {r : Nat} {p : List Nat} : ∀ {l : List D} {n : Nat} {vs : List V} (k : Nat), fzL l = true → RepL C a r p n vs l → RepL C a r p n (vs.eraseIdx k) (l.eraseIdx k)
  | [], n, vs, k, z, e => by simp only [RepL] at e; subst e; simp [RepL]
  | d :: l, n, vs, 0, z, ⟨v, us, e, h1, h2⟩ => by
    subst e
    simp only [fzL, Bool.and_eq_true] at z
    exact RepL.fz (a := a) (b := a) (fun _ _ h => h) l p p (n + 1) us z.2 h2
  | d :: l, n, vs, k + 1, z, ⟨v, us, e, h1, h2⟩ => by
    subst e
    simp only [fzL, Bool.and_eq_true] at z
    exact ⟨v, us.eraseIdx k, rfl, h1, repL_drop k z.2 h2⟩
theorem fzL_erase {l : List D} (h : fzL l = true) (k : Nat) : fzL (l.eraseIdx k) = true := fzL_all fun d hd => fzL_mem h d (List.mem_of_mem_eraseIdx hd)
theorem met_popAt : MetOk C (fun x vs H Q => rPopAt x vs H Q ∨ rPop x vs H Q) popF := fun a x vs us l ds d l' n s p Q k hx hl ps hf q => by
  match ds, hf, ps with
  | [.int i], hf, ps =>
    simp only [popF] at hf
    split at hf
    · rename_i z
      obtain ⟨u, rfl, ru, hu⟩ := one_rep ps
      cases rep_int hu
      cases hk : seqIndex? i l.length with
      | none => rw [hk] at hf; cases hf
      | some m =>
        rw [hk] at hf
        dsimp only at hf
        cases hm : l[m]? with
        | none => rw [hm] at hf; cases hf
        | some d0 =>
          rw [hm] at hf; cases hf
          obtain ⟨v, h1, h2⟩ := hl.get hm
          exact .inl ⟨x, vs, i, m, v, rfl, rfl, hx, z.2.1, z.2.2, by rw [hl.len]; exact hk, h1, q v _ s n p (fzL_erase z.1 m) (repL_drop m z.1 hl) ⟨s, _, fzL_mem z.1 _ (List.mem_of_getElem? hm), h2⟩⟩
    · cases hf
  | [], hf, ps =>
    simp only [popF] at hf
    split at hf
    · rename_i z
      cases ps
      cases hm : l[l.length - 1]? with
      | none => rw [hm] at hf; cases hf
      | some d0 =>
        rw [hm] at hf; cases hf
        obtain ⟨v, h1, h2⟩ := hl.get hm
        have e1 : vs.dropLast = vs.eraseIdx (vs.length - 1) := by rw [List.eraseIdx_length_sub_one]
        have e2 : l.dropLast = l.eraseIdx (l.length - 1) := by rw [List.eraseIdx_length_sub_one]
        refine .inr ⟨x, vs, v, rfl, rfl, hx, by rw [hl.len]; exact h1, ?_⟩
        rw [e1, hl.len]
        rw [e2] at q
        exact q v _ s n p (fzL_erase z _) (repL_drop _ z hl) ⟨s, _, fzL_mem z _ (List.mem_of_getElem? hm), h2⟩
    · cases hf
end
end Mi
namespace Mi
open PySem PySem.Spec PyProof.Rows L2

/-! ### rules for the methods of a slot's list -/
section
variable {X : Cx} {G : Gm} {W : WX} {lv : Nat} {a b e o : Expr} {es : List Expr} {ma : EM Arg} {mas : EM (List Arg)} {m : EM D} {apos cpos p : Pos} {x : Str}
theorem r_append (s : St0 X G) (j : Nat) (hN : X.N[j]? = some x) (hv : Vis X.env.scope x) (ha : PA X [e] (tArgs G W mas)) (hd : (x == ("__debug__" : Str)) = false := by decide) (hcd : (x == ("__classdict__" : Str)) = false := by decide)
    (hbase : attributeBase (.Name x p) "append" X.env (eval (.Name x p) X.env) = eval (.Name x p) X.env := by rfl) (hfew : ((backTo cpos (starEach [e] X.env)).all (fun x => !x.1) && (backToKw cpos (keywordEach [] X.env)).all (fun x => x.1.isSome)
      && decide ([e].length + ([] : List Keyword).length + (if ([] : List Keyword).isEmpty then 0 else 1) < 30)) = true := by rfl) (hline : (apos.endLine == cpos.line) = true := by rfl) (hs : starEach [e] X.env = (false, eval e X.env) :: starEach [] X.env := by rfl) (hplain : (backTo cpos (starEach [] X.env)).any (·.1) = false := by rfl) :
    PE X (.Call (.Attribute (.Name x p) "append" apos) [e] [] cpos) (tE G W (mMet j mas appF)) :=
  (pe_bm PySem.F.plainAttrs_list PySem.F.slot_list_append PySem.F.type_list_append mt_append (pe_var hN hv hd hcd) ha hbase hfew hline hs hplain).weak fun _ _ _ q => by
    have := met_w met_app q
    rw [s.k]; exact this
theorem r_extend (s : St0 X G) (j : Nat) (hN : X.N[j]? = some x) (hv : Vis X.env.scope x) (ha : PA X [e] (tArgs G W mas)) (hd : (x == ("__debug__" : Str)) = false := by decide) (hcd : (x == ("__classdict__" : Str)) = false := by decide)
    (hbase : attributeBase (.Name x p) "extend" X.env (eval (.Name x p) X.env) = eval (.Name x p) X.env := by rfl) (hfew : ((backTo cpos (starEach [e] X.env)).all (fun x => !x.1) && (backToKw cpos (keywordEach [] X.env)).all (fun x => x.1.isSome)
      && decide ([e].length + ([] : List Keyword).length + (if ([] : List Keyword).isEmpty then 0 else 1) < 30)) = true := by rfl) (hline : (apos.endLine == cpos.line) = true := by rfl) (hs : starEach [e] X.env = (false, eval e X.env) :: starEach [] X.env := by rfl) (hplain : (backTo cpos (starEach [] X.env)).any (·.1) = false := by rfl) :
    PE X (.Call (.Attribute (.Name x p) "extend" apos) [e] [] cpos) (tE G W (mMet j mas extF)) :=
  (pe_bm PySem.F.plainAttrs_list PySem.F.slot_list_extend PySem.F.type_list_extend mt_extend (pe_var hN hv hd hcd) ha hbase hfew hline hs hplain).weak fun _ _ _ q => by
    have := met_w met_ext q
    rw [s.k]; exact this
theorem r_popAt (s : St0 X G) (j : Nat) (hN : X.N[j]? = some x) (hv : Vis X.env.scope x) (ha : PA X [e] (tArgs G W mas)) (hd : (x == ("__debug__" : Str)) = false := by decide) (hcd : (x == ("__classdict__" : Str)) = false := by decide)
    (hbase : attributeBase (.Name x p) "pop" X.env (eval (.Name x p) X.env) = eval (.Name x p) X.env := by rfl) (hfew : ((backTo cpos (starEach [e] X.env)).all (fun x => !x.1) && (backToKw cpos (keywordEach [] X.env)).all (fun x => x.1.isSome)
      && decide ([e].length + ([] : List Keyword).length + (if ([] : List Keyword).isEmpty then 0 else 1) < 30)) = true := by rfl) (hline : (apos.endLine == cpos.line) = true := by rfl) (hs : starEach [e] X.env = (false, eval e X.env) :: starEach [] X.env := by rfl) (hplain : (backTo cpos (starEach [] X.env)).any (·.1) = false := by rfl) :
    PE X (.Call (.Attribute (.Name x p) "pop" apos) [e] [] cpos) (tE G W (mMet j mas popF)) :=
  (pe_bm PySem.F.plainAttrs_list PySem.F.slot_list_pop PySem.F.type_list_pop (MtR.or mt_popAt mt_pop) (pe_var hN hv hd hcd) ha hbase hfew hline hs hplain).weak fun _ _ _ q => by
    have := met_w met_popAt q
    rw [s.k]; exact this
theorem r_pop (s : St0 X G) (j : Nat) (hN : X.N[j]? = some x) (hv : Vis X.env.scope x) (hd : (x == ("__debug__" : Str)) = false := by decide) (hcd : (x == ("__classdict__" : Str)) = false := by decide)
    (hbase : attributeBase (.Name x p) "pop" X.env (eval (.Name x p) X.env) = eval (.Name x p) X.env := by rfl) (hline : (apos.endLine == cpos.line) = true := by rfl) :
    PE X (.Call (.Attribute (.Name x p) "pop" apos) [] [] cpos) (tE G W (mMet j (mArgs []) popF)) :=
  (pe_bm0 PySem.F.plainAttrs_list PySem.F.slot_list_pop PySem.F.type_list_pop (MtR.or mt_popAt mt_pop) (pe_var hN hv hd hcd) hbase hline).weak fun σ H Q q => by
    obtain ⟨v, h1, ty, a, env, rfl, rel, post⟩ := met_w met_popAt q
    refine ⟨v, h1, by rw [s.k]; exact ty, ?_⟩
    exact post a (Step.refl a) rel [] .nil

/-! ### texts -/
def strsOf : List D → Option (List Str)
  | [] => some []
  | .str s :: l => (strsOf l).map (s :: ·)
  | _ => none
theorem strs_rep {C : KM} {a : Wd} {r : Nat} {p : List Nat} : ∀ {l : List D} {n : Nat} {vs : List V} {ys : List Str}, strsOf l = some ys → RepL C a r p n vs l → vs = ys.map V.str
  | [], n, vs, ys, e, h => by cases e; simpa [RepL] using h
  | d :: l, n, vs, ys, e, ⟨v, us, e1, h1, h2⟩ => by
    cases d <;> simp only [strsOf] at e <;> (try (cases e; done))
    case str z =>
      cases hs : strsOf l with
      | none => rw [hs] at e; cases e
      | some zs =>
        rw [hs] at e; cases e
        cases rep_str h1
        rw [e1, strs_rep hs h2]; rfl
def joinD (s : Str) : D → Option D
  | .lst _ l => match strsOf l with
    | some ys => if (ys.map (·.length)).sum + ys.length * s.length ≤ 16777216 then some (.str (Txt.join s ys)) else none
    | none => none
  | .tup l => match strsOf l with
    | some ys => if (ys.map (·.length)).sum + ys.length * s.length ≤ 16777216 then some (.str (Txt.join s ys)) else none
    | none => none
  | _ => none
theorem r_join (s : St0 X G) {z : Str} {k : Nat} (he : PE X e (tArg G W ma)) (hs : starEach [e] X.env = [(false, eval e X.env)] := by rfl) (hbase : attributeBase (.Constant (.str z) k p) "join" X.env (eval (.Constant (.str z) k p) X.env) = eval (.Constant (.str z) k p) X.env := by rfl) (hline : (apos.endLine == cpos.line) = true := by rfl) :
    PE X (.Call (.Attribute (.Constant (.str z) k p) "join" apos) [e] [] cpos) (tE G W (mUn (joinD z) ma)) := (pe_join (pe_str) he hs hbase hline).weak fun σ H Q q => by
  refine ⟨⟨z, rfl⟩, ?_⟩
  obtain ⟨a, env, rfl, rel, post⟩ := q
  refine tArg_of rel post fun x e1 b v s1 rel1 ar1 post1 => ?_
  cases hx : x.get e1 with
  | none => simp only [hx] at post1; exact (show False from post1).elim
  | some d1 =>
    simp only [hx] at post1
    obtain ⟨d, hd, k⟩ := post1.lift rel1
    obtain ⟨r1, p1⟩ := ar1.rep rel1 hx
    cases d1 <;> simp only [joinD] at hd <;> (try (cases hd; done))
    case lst o l =>
      cases hl : strsOf l with
      | none => rw [hl] at hd; cases hd
      | some ys =>
        rw [hl] at hd
        dsimp only at hd
        split at hd
        · rename_i hz; cases hd
          obtain ⟨y, vs, rfl, h1, h2⟩ := rep_lst rel1.ok p1
          rw [strs_rep hl h2] at h1
          exact ⟨z, y, ys, rfl, rfl, .inl (SqL.of h1), hz, k b (Grow.refl b) rel1.ok _ (by simp [Rep])⟩
        · cases hd
    case tup l =>
      cases hl : strsOf l with
      | none => rw [hl] at hd; cases hd
      | some ys =>
        rw [hl] at hd
        dsimp only at hd
        split at hd
        · rename_i hz; cases hd
          obtain ⟨y, vs, rfl, h1, h2⟩ := rep_tup rel1.ok p1
          rw [strs_rep hl h2] at h1
          exact ⟨z, y, ys, rfl, rfl, .inr (by rw [s.k]; exact h1), hz, k b (Grow.refl b) rel1.ok _ (by simp [Rep])⟩
        · cases hd
end

/-! ### sorted texts -/
theorem lt_asym : ∀ {a b : List Nat}, ltCps a b = true → ltCps b a = false
  | [], [], h => by simp [ltCps] at h
  | [], _ :: _, _ => rfl
  | _ :: _, [], h => by simp [ltCps] at h
  | a :: r, b :: t, h => by
    simp only [ltCps, Bool.or_eq_true, decide_eq_true_eq, Bool.and_eq_true, beq_iff_eq] at h
    rcases h with h | ⟨rfl, h⟩
    · have e1 : ¬ b < a := by omega
      have e2 : ¬ b = a := by omega
      simp [ltCps, e1, e2]
    · simp [ltCps, lt_asym h]
theorem lt_tri : ∀ {a b : List Nat}, ltCps a b = false → ltCps b a = false → a = b
  | [], [], _, _ => rfl
  | [], _ :: _, h, _ => by simp [ltCps] at h
  | _ :: _, [], _, h => by simp [ltCps] at h
  | a :: r, b :: t, h, g => by
    simp only [ltCps, Bool.or_eq_false_iff, decide_eq_false_iff_not, Bool.and_eq_false_iff, beq_eq_false_iff_ne] at h g
    have e : a = b := by omega
    subst e
    rcases h.2 with h2 | h2
    · exact absurd rfl h2
    · rcases g.2 with g2 | g2
      · exact absurd rfl g2
      · rw [lt_tri h2 g2]
theorem le_trans' : ∀ {a b c : List Nat}, ltCps b a = false → ltCps c b = false → ltCps c a = false
  | a, b, [], h, g => by
    cases b with
    | nil => exact h
    | cons b t => simp [ltCps] at g
  | [], b, c :: u, h, g => rfl
  | a :: r, [], c :: u, h, g => by simp [ltCps] at h
  | a :: r, b :: t, c :: u, h, g => by
    simp only [ltCps, Bool.or_eq_false_iff, decide_eq_false_iff_not, Bool.and_eq_false_iff, beq_eq_false_iff_ne] at h g ⊢
    refine ⟨by omega, ?_⟩
    by_cases e : c = a
    · right
      subst e
      have e2 : b = c := by omega
      subst e2
      rcases h.2 with h2 | h2
      · exact absurd rfl h2
      · rcases g.2 with g2 | g2
        · exact absurd rfl g2
        · exact le_trans' h2 g2
    · exact .inl e
def leS (a b : Str) : Bool := !ltCps b.cps.toList a.cps.toList
def sortS (xs : List Str) : List Str := xs.mergeSort leS
theorem rising_pw : ∀ (p : Str) (l : List Str), risingS p l = true → (p :: l).Pairwise (fun a b => leS a b = true)
  | p, [], _ => by simp
  | p, x :: l, h => by
    simp only [risingS, Bool.and_eq_true] at h
    have ih := rising_pw x l h.2
    refine List.pairwise_cons.mpr ⟨fun y hy => ?_, ih⟩
    rcases List.mem_cons.mp hy with rfl | hy
    · exact h.1
    · have h2 := (List.pairwise_cons.mp ih).1 y hy
      unfold leS at h2 ⊢
      simp only [Bool.not_eq_true'] at h2 h ⊢
      exact le_trans' h.1 h2
theorem sorted_pw : ∀ {l : List Str}, sortedS l = true → l.Pairwise (fun a b => leS a b = true)
  | [], _ => .nil
  | x :: l, h => rising_pw x l h
theorem sortS_pw (xs : List Str) : (sortS xs).Pairwise (fun a b => leS a b = true) := List.pairwise_mergeSort (fun a b c h g => by
    unfold leS at h g ⊢
    simp only [Bool.not_eq_true'] at h g ⊢
    exact le_trans' h g) (fun a b => by
    unfold leS
    cases h : ltCps b.cps.toList a.cps.toList with
    | false => simp
    | true => simp [lt_asym h]) xs
theorem str_ext {a b : Str} (h : a.cps.toList = b.cps.toList) : a = b := by
  obtain ⟨⟨a⟩⟩ := a
  obtain ⟨⟨b⟩⟩ := b
  simp at h
  subst h; rfl
theorem sort_one {xs ys : List Str} (h : ys.Perm xs) (s : sortedS ys = true) : ys = sortS xs :=
  List.Perm.eq_of_pairwise (le := fun a b => leS a b = true) (fun a b _ _ h g => by
    unfold leS at h g
    simp only [Bool.not_eq_true'] at h g
    exact str_ext (lt_tri g h)) (sorted_pw s) (sortS_pw xs) (h.trans (List.mergeSort_perm xs leS).symm)
def sortD : List D → Option D
  | [.lst _ l] => match strsOf l with
    | some ys => if ys.length < 64 then some (.lst true ((sortS ys).map .str)) else none
    | none => none
  | _ => none
theorem repL_strs {C : KM} {a : Wd} {r : Nat} {p : List Nat} : ∀ (l : List Str) (n : Nat), RepL C a r p n (l.map V.str) (l.map D.str)
  | [], n => by simp [RepL]
  | x :: l, n => ⟨.str x, l.map V.str, rfl, by simp [Rep], repL_strs l (n + 1)⟩
theorem fzL_strs (l : List Str) : fzL (l.map D.str) = true := fzL_map _ (fun _ => by simp [fz]) l
theorem call_sortD {X : Cx} {C : KM} : CallR X (.builtin "sorted") (cD C sortD) := by
  intro pins s σ H xs us Q I r h
  obtain ⟨a, ds, d, rfl, k, ps, hd, q⟩ := h
  match ds, hd with
  | [.lst o l], hd =>
    simp only [sortD] at hd
    cases hl : strsOf l with
    | none => rw [hl] at hd; cases hd
    | some ys =>
      rw [hl] at hd
      dsimp only at hd
      split at hd
      · rename_i hz; cases hd
        obtain ⟨v, rfl, r1, p1⟩ := one_rep ps
        obtain ⟨y, vs, rfl, h1, h2⟩ := rep_lst k p1
        rw [strs_rep hl h2] at h1
        refine cr_sortedS pins s σ a.H _ us Q I r ⟨y, ys, rfl, SqL.of h1, hz, fun zs p hp hs hn => ?_⟩
        rw [sort_one hp hs]
        exact new_lst k (fzL_strs _) (repL_strs (C := C) (a := a) (r := 0) (p := []) _ 0) q p hn
      · cases hd
end Mi
namespace Mi
open PySem PySem.Spec PyProof.Rows L2

/-! ### dicts as lists of pairs -/
def kds : List D → List D → Option (List (Key × D))
  | [], [] => some []
  | k :: ks, w :: ws => match keyD k, kds ks ws with
    | some x, some r => some ((x, w) :: r)
    | _, _ => none
  | _, _ => none
def putG (ds : List (Key × D)) (k : Key) (d : D) : List (Key × D) :=
  if (ds.any fun p => decide (p.1 = k)) = true then ds.map (fun p => if p.1 = k then (p.1, d) else p) else ds ++ [(k, d)]
def dicG (ds : List (Key × D)) : D := .dic true (ds.map fun p => unkD p.1) (ds.map (·.2))
abbrev KVr (C : KM) (a : Wd) : List (Key × V) → List (Key × D) → Prop := Paired (fun x y => x.1 = y.1 ∧ fz y.2 = true ∧ ∃ s q, Rep C a s q x.2 y.2)
section
variable {C : KM} {a : Wd}
theorem kvr_of : ∀ {kvs : List (Key × V)} {ks ws : List D} {ds : List (Key × D)} {r s n m : Nat} {p q : List Nat}, kds ks ws = some ds → fzL ws = true → RepL C a r p n (kvs.map fun x => kV x.1) ks → RepL C a s q m (kvs.map (·.2)) ws → KVr C a kvs ds
  | [], ks, ws, ds, r, s, n, m, p, q, e, z, h, g => by
    have e1 : ks = [] := by cases ks with | nil => rfl | cons _ _ => simp only [RepL, List.map_nil] at h; obtain ⟨_, _, e, _⟩ := h; cases e
    have e2 : ws = [] := by cases ws with | nil => rfl | cons _ _ => simp only [RepL, List.map_nil] at g; obtain ⟨_, _, e, _⟩ := g; cases e
    subst e1 e2
    cases e
    exact .nil
  | x :: kvs, ks, ws, ds, r, s, n, m, p, q, e, z, h, g => by
    cases ks with
    | nil => simp only [RepL, List.map_cons] at h; cases h
    | cons k ks =>
      cases ws with
      | nil => simp only [RepL, List.map_cons] at g; cases g
      | cons w ws =>
        simp only [RepL, List.map_cons] at h g
        obtain ⟨v, us, e1, h1, h2⟩ := h
        obtain ⟨v', us', e1', g1, g2⟩ := g
        cases e1; cases e1'
        simp only [fzL, Bool.and_eq_true] at z
        simp only [kds] at e
        cases hk : keyD k with
        | none => rw [hk] at e; cases e
        | some y =>
          cases hr : kds ks ws with
          | none => rw [hk, hr] at e; cases e
          | some r' =>
            rw [hk, hr] at e; cases e
            have := rep_key h1
            subst this
            rw [keyD_unk] at hk; cases hk
            exact .cons ⟨rfl, z.1, _, _, g1⟩ (kvr_of hr z.2 h2 g2)
theorem kvr_keys : ∀ {kvs : List (Key × V)} {ds : List (Key × D)} {n : Nat}, KVr C a kvs ds → RepL C a 0 [] n (kvs.map fun x => kV x.1) (ds.map fun x => unkD x.1)
  | _, _, n, .nil => by simp [RepL]
  | x :: kvs, y :: ds, n, .cons h t => by
    refine ⟨kV x.1, _, rfl, ?_, kvr_keys t⟩
    rw [h.1]
    obtain ⟨k, d⟩ := y
    cases k <;> simp [unkD, kV, Rep]
theorem kvr_vals : ∀ {kvs : List (Key × V)} {ds : List (Key × D)} {n : Nat}, KVr C a kvs ds → RepL C a 0 [] n (kvs.map (·.2)) (ds.map (·.2))
  | _, _, n, .nil => by simp [RepL]
  | x :: kvs, y :: ds, n, .cons h t => by
    obtain ⟨h1, h2, s, q, h3⟩ := h
    exact ⟨x.2, _, rfl, Rep.fz (a := a) (b := a) (fun _ _ h => h) y.2 _ _ x.2 h2 h3, kvr_vals t⟩
theorem kvr_fz : ∀ {kvs : List (Key × V)} {ds : List (Key × D)}, KVr C a kvs ds → fzL (ds.map (·.2)) = true
  | _, _, .nil => by simp [fzL]
  | _, _, .cons h t => by simp [fzL, h.2.1, kvr_fz t]
theorem fz_keys (ds : List (Key × D)) : fzL (ds.map fun x => unkD x.1) = true := fzL_map _ (fun x => by cases x.1 <;> simp [unkD, fz]) ds
theorem kvr_any {k : Key} : ∀ {kvs : List (Key × V)} {ds : List (Key × D)}, KVr C a kvs ds → (kvs.any fun p => decide (p.1 = k)) = (ds.any fun p => decide (p.1 = k))
  | _, _, .nil => rfl
  | _, _, .cons h t => by rw [List.any_cons, List.any_cons, h.1, kvr_any t]
theorem kvr_app : ∀ {k1 k2 : List (Key × V)} {d1 d2 : List (Key × D)}, KVr C a k1 d1 → KVr C a k2 d2 → KVr C a (k1 ++ k2) (d1 ++ d2)
  | _, _, _, _, .nil, g => g
  | _, _, _, _, .cons h t, g => .cons h (kvr_app t g)
theorem kvr_map {k : Key} {v : V} {d : D} (z : fz d = true) (hr : ∃ s q, Rep C a s q v d) : ∀ {kvs : List (Key × V)} {ds : List (Key × D)}, KVr C a kvs ds → KVr C a (kvs.map fun p => if p.1 = k then (p.1, v) else p) (ds.map fun p => if p.1 = k then (p.1, d) else p)
  | _, _, .nil => .nil
  | x :: kvs, y :: ds, .cons h t => by
    refine .cons ?_ (kvr_map z hr t)
    dsimp only
    by_cases e : x.1 = k
    · have e2 : y.1 = k := by rw [← h.1]; exact e
      rw [if_pos e, if_pos e2]
      exact ⟨h.1, z, hr⟩
    · have e2 : ¬ y.1 = k := by rw [← h.1]; exact e
      rw [if_neg e, if_neg e2]
      exact h
theorem kvr_put {kvs : List (Key × V)} {ds : List (Key × D)} {k : Key} {v : V} {d : D} (h : KVr C a kvs ds) (z : fz d = true) (hr : ∃ s q, Rep C a s q v d) : KVr C a (putK kvs k v) (putG ds k d) := by
  unfold putK putG
  rw [kvr_any (k := k) h]
  split
  · exact kvr_map z hr h
  · exact kvr_app h (.cons ⟨rfl, z, hr⟩ .nil)
theorem kvr_len : ∀ {kvs : List (Key × V)} {ds : List (Key × D)}, KVr C a kvs ds → kvs.length = ds.length
  | _, _, .nil => rfl
  | _, _, .cons h t => by rw [List.length_cons, List.length_cons, kvr_len t]
end

/-! ### xs[i] = y of a slot's own list or dict -/
def setX (d i y : D) : Option D := match d, i with
  | .lst true l, .int k => (ixN l.length k).map fun n => .lst true (l.set n y)
  | .dic true ks ws, x => match kds ks ws, keyD x with
    | some ds, some k => if fzL ws = true ∧ ds.length < 16000000 then some (dicG (putG ds k y)) else none
    | _, _ => none
  | _, _ => none
theorem RelE.rewrD {G : Gm} {a : Wd} {σ : L2.St} {env : EnvD} {j : Nat} {ks ws : List D} (r : RelE G a σ env) (h : env[j]? = some (some (.dic true ks ws))) :
    ∃ x kvs, σ[j]? = some (some (.ref x)) ∧ a.H x = some (.dK kvs) ∧ RepL G.C a (j + 1) [] 0 (kvs.map fun p => kV p.1) ks ∧ RepL G.C a (j + 1) [] 0 (kvs.map (·.2)) ws ∧
      ∀ (kvs' : List (Key × V)) (ds : List (Key × D)), KVr G.C a kvs' ds → Step a ⟨a.F, upd a.H x (.dK kvs'), a.t⟩ ∧ RelE G ⟨a.F, upd a.H x (.dK kvs'), a.t⟩ σ (env.set j (some (dicG ds))) := by
  obtain ⟨w, h1, h2⟩ := r.slot j _ h
  simp only [Rep] at h2
  obtain ⟨x, ho, kv, vs, rfl, hx, dc, zk, hk, hv⟩ := h2
  rw [if_pos trivial] at hx
  obtain ⟨tx, hx⟩ := hx
  cases dc with
  | dk kvs =>
  refine ⟨x, kvs, h1, hx, hk, hv, fun kvs' ds kr => ?_⟩
  have ne : ∀ {y : Addr} {t : Option Tag}, a.t y = t → t ≠ some (j + 1, []) → y ≠ x := fun e ht => by rintro rfl; rw [tx] at e; exact ht e.symm
  have fx : a.F x = none := (r.ok.own x _ tx).1
  have up : ∀ {y : Addr}, y ≠ x → upd a.H x (.dK kvs') y = a.H y := fun e => upd_ne e
  have ok' : Ok ⟨a.F, upd a.H x (.dK kvs'), a.t⟩ := by
    refine ⟨fun y o e => ?_, fun y t e => ?_⟩
    · have : y ≠ x := by rintro rfl; have e : a.F y = some o := e; rw [fx] at e; cases e
      show upd a.H x _ y = _
      rw [up this]; exact r.ok.sub y o e
    · obtain ⟨g1, o, g2⟩ := r.ok.own y t e
      by_cases q : y = x
      · subst q; exact ⟨g1, _, upd_same⟩
      · exact ⟨g1, o, by show upd a.H x _ y = _; rw [up q]; exact g2⟩
  have mv : ∀ {d : D} {r p} {v1 : V}, (∀ z, (r, z ++ p) ≠ (j + 1, ([] : List Nat))) → Rep G.C a r p v1 d → Rep G.C ⟨a.F, upd a.H x (.dK kvs'), a.t⟩ r p v1 d := fun {d r p v1} hne h => by
    have := Rep.to (C := G.C) (a := a) (b := ⟨a.F, upd a.H x (.dK kvs'), a.t⟩) (r := r) (s := r) (p := p) (q := p) (fun _ _ h => h) (fun y z o h e => ⟨h, by
      show upd a.H x _ y = _
      rw [up (ne h (by intro q; exact hne z (Option.some.inj q)))]; exact e⟩) d [] v1
    exact this h
  refine ⟨fun y o e t => ⟨by show upd a.H x _ y = _; rw [up (ne t (by simp))]; exact e, t, rfl⟩, ⟨ok', by rw [List.length_set]; exact r.len, fun i d e => ?_, r.prm⟩⟩
  by_cases ij : j = i
  · subst ij
    have hj : j < env.length := (List.getElem?_eq_some_iff.mp h).1
    rw [List.getElem?_set_self hj] at e
    cases e
    refine ⟨.ref x, h1, ?_⟩
    simp only [dicG, Rep]
    refine ⟨x, .dK kvs', _, _, rfl, ?_, .dk kvs', fz_keys ds, ?_, ?_⟩
    · rw [if_pos trivial]; exact ⟨tx, upd_same⟩
    · exact RepL.fz (a := a) (b := ⟨a.F, upd a.H x (.dK kvs'), a.t⟩) (fun _ _ h => h) _ _ [] 0 _ (fz_keys ds) (kvr_keys (n := 0) kr)
    · exact RepL.fz (a := a) (b := ⟨a.F, upd a.H x (.dK kvs'), a.t⟩) (fun _ _ h => h) _ _ [] 0 _ (kvr_fz kr) (kvr_vals (n := 0) kr)
  · rw [List.getElem?_set_ne ij] at e
    obtain ⟨w, e1, e2⟩ := r.slot i d e
    exact ⟨w, e1, mv (by intro z q; exact ij (Nat.succ.inj (congrArg Prod.fst q)).symm) e2⟩
def mSetX (j : Nat) (mi mv : EM D) : EM FlowD := fun env => (mv env).bind fun (y, e1) =>
  match e1[j]? with
  | some (some _) => (mFrz mi e1).bind fun (x, e2) => match e2[j]?, x.get e2 with
    | some (some d), some i => match setX d i (frzQ y) with
      | some d' => .ok (.next, e2.set j (some d'))
      | none => .bad
    | _, _ => .bad
  | _ => .bad
theorem setX_w {G : Gm} {W : WX} {σ : L2.St} {H : Hp} {j : Nat} {mi mv : EM D} {D : Ends} (h : tS G W (mSetX j mi mv) D σ H) : tAsg (tE G W mv) (gSub (tVar j) (tE G W mi) (fun o i v H Q => rSetL o i v H Q ∨ rSetD o i v H Q)) D σ H := by
  obtain ⟨a, env, rfl, rel, post⟩ := h
  refine tE_ofS rel post fun y e1 b v st r1 rv p1 => ?_
  dsimp only at p1
  split at p1
  · rename_i dj hj0
    obtain ⟨zy, ry⟩ := frzQ_rep (s := 0) (q := []) r1.ok rv
    have r1' := r1.frz0
    obtain ⟨w, hw, _⟩ := r1.slot j _ hj0
    refine ⟨w, hw, ?_⟩
    show tE G W mi σ (frzW b 0).H _
    refine (frz_w (m := mi) (Q := fun i H2 => (rSetL w i v H2 fun H3 => D.nx σ H3) ∨ (rSetD w i v H2 fun H3 => D.nx σ H3)) ?_)
    refine tArg_ofS r1' (PostS.step frzW_step p1) fun x e2 c u s2 r2 ar p2 => ?_
    dsimp only at p2
    split at p2
    · rename_i d i hj hi
      cases hs : setX d i (frzQ y) with
      | none => rw [hs] at p2; exact (show False from p2).elim
      | some d' =>
        rw [hs] at p2
        dsimp only at p2
        obtain ⟨ri, pi⟩ := ar.rep r2 hi
        unfold setX at hs
        split at hs
        · rename_i l k
          cases rep_int pi
          cases hk : ixN l.length k with
          | none => rw [hk] at hs; cases hs
          | some n =>
            rw [hk] at hs; cases hs
            obtain ⟨xx, vs, g1, g2, g3, g4, g5⟩ := r2.put (n := n) (s := 0) (q := []) hj zy (ry.step r1'.ok s2 zy)
            rw [hw] at g1; cases g1
            exact .inl ⟨xx, vs, k, n, rfl, rfl, g2, by rw [g3]; exact hk, p2 _ σ g4 g5⟩
        · rename_i x' ks ws
          cases hd : kds ks ws with
          | none => rw [hd] at hs; cases hs
          | some ds =>
            cases hk : keyD i with
            | none => rw [hd, hk] at hs; cases hs
            | some k =>
              rw [hd, hk] at hs
              dsimp only at hs
              split at hs
              · rename_i z; cases hs
                obtain ⟨xx, kvs, g1, g2, g3, g4, g5⟩ := r2.rewrD hj
                rw [hw] at g1; cases g1
                have kr := kvr_of hd z.1 g3 g4
                obtain ⟨s3, r3⟩ := g5 _ _ (kvr_put (k := k) (v := v) kr zy ⟨0, [], ry.step r1'.ok s2 zy⟩)
                exact .inr ⟨xx, _, rfl, .inl ⟨kvs, k, g2, keyD_rep hk pi, by rw [kvr_len kr, szl]; omega, rfl⟩, p2 _ σ s3 r3⟩
              · cases hs
        · cases hs
    · exact (show False from p2).elim
  · exact (show False from p1).elim
theorem PSet.or {X : Cx} {t u : TSet} (h : PSet X t) (g : PSet X u) : PSet X (fun o i v H Q => t o i v H Q ∨ u o i v H Q) := by
  intro pins s σ H o i v ov iv w Q I ro ri rv q
  rcases q with q | q
  · exact h pins s σ H o i v ov iv w Q I ro ri rv q
  · exact g pins s σ H o i v ov iv w Q I ro ri rv q
theorem rs_putX {X : Cx} {G : Gm} {W : WX} {a e : Expr} {m n : EM D} {pos p : Pos} {x : Str} (s : St0 X G) (j : Nat) {pos' : Pos} (hN : X.N[j]? = some x) (hv : Vis X.env.scope x) (hi : PE X a (tE G W n)) (he : PE X e (tE G W m)) (hs : swapsWithSole [.Subscript (.Name x p) a pos'] e pos.line X.env = pure false := by rfl) (hw : swappedStores [.Subscript (.Name x p) a pos'] e X.env = pure none := by rfl)
    (h1 : (assignEach [.Subscript (.Name x p) a pos'] X.env).map (·.2) = [assign (.Subscript (.Name x p) a pos') X.env] := by rfl)
    (ha : ∀ v, assign (.Subscript (.Name x p) a pos') X.env v = (do
      let ov ← holding [v] (eval (.Name x p) X.env)
      let iv ← holding [v, ov] (eval a X.env)
      standAt pos'
      holding [v, ov, iv] (setItem ov iv v)
      release [v, ov, iv] []) := by intro _; rfl) (hd : (x == ("__debug__" : Str)) = false := by decide) (hcd : (x == ("__classdict__" : Str)) = false := by decide) : PS X (.Assign [.Subscript (.Name x p) a pos'] e pos) (tS G W (mSetX j n m)) :=
  (ps_asg he (pg_sub (pe_var hN hv hd hcd) hi (PSet.or set_list (set_dict (by have := s.u; omega))) ha) hs hw h1).weak fun _ _ _ q => setX_w q
end Mi
namespace Mi
open PySem PySem.Spec PyProof.Rows L2

/-! ### dict(..) -/
section
variable {X : Cx} {pins : List (Addr × Obj)} {σ : L2.St} {H : Hp} {s : Shared}
theorem plain_of (I : Inv X pins σ H s) {x : Addr} {vs : List V} (h : XT X.K H x vs) : ∃ its : List Value, Vals vs its ∧ PySem.PlainSeq "tuple" s.heap x its.toArray ∧ vs.length ≤ sizeLine := by
  rcases h with ⟨ob, h, hd, hc⟩ | ⟨o, its, n, hk, hc, hd, hs, hz, r⟩
  · obtain ⟨e, z, its, r, o', e', _, n, dt⟩ := (show ObjOk X.prog X.w H s.heap x (.frz ob (.tup vs)) from I.hok x _ h)
    rw [e] at e'; cases e'
    exact ⟨its, r, ⟨ob, n, e, hc, hd, dt⟩, z⟩
  · refine ⟨its.toList, r, ⟨o, n, I.kIn x o hk, hc, hd, by simpa using hs⟩, ?_⟩
    have e := r.length
    simp only [Array.length_toList] at e
    omega
theorem pairsV (I : Inv X pins σ H s) : ∀ {ps : List Addr} {kvs : List (Key × V)}, Paired (fun p kv => SqT X.K H p [kV kv.1, kv.2]) ps kvs →
    ∃ (prs : List (Key × Value)) (zs : List (Value × Value)), KV kvs prs ∧ prs.length = ps.length ∧ zs.length = ps.length ∧ ∀ (j : Nat) (k v : Value), zs[j]? = some (k, v) → ∃ (b : Addr) (key : Key), ps[j]? = some b ∧ IsTup s.heap b #[k, v] ∧ prs[j]? = some (key, v) ∧ keyIs key k = true
  | _, _, .nil => ⟨[], [], .nil, rfl, rfl, fun j k v e => by simp at e⟩
  | _, _, .cons (a := p) (b := kv) h t => by
    obtain ⟨prs, zs, r, hl, hz, hp⟩ := pairsV I t
    obtain ⟨its, rv, ht, _⟩ := I.tuple h
    obtain ⟨u, y, ei, ru, ry⟩ := vals2 rv
    subst ei
    refine ⟨(kv.1, y) :: prs, (u, y) :: zs, .cons ⟨rfl, ry⟩ r, by simp [hl], by simp [hz], fun j k v e => ?_⟩
    cases j with
    | zero =>
      have e' : (u, y) = (k, v) := Option.some.inj e
      cases e'
      exact ⟨p, kv.1, rfl, ht, rfl, kV_is (P := X.prog) (w := X.w) ru⟩
    | succ j =>
      obtain ⟨b, key, e1, e2, e3, e4⟩ := hp j k v (by simpa using e)
      exact ⟨b, key, by simpa using e1, e2, by simpa using e3, e4⟩
/- dict(t) of a tuple of pairs -/
theorem call_dictT (hcalm : X.calm = true) : CallR X (.type "dict") (fun xs H Q => ∃ (a : Addr) (ps : List Addr) (kvs : List (Key × V)), xs = [.ref a] ∧ XT X.K H a (ps.map V.ref) ∧ Paired (fun p kv => SqT X.K H p [kV kv.1, kv.2]) ps kvs ∧
    ∀ p, H p = none → Q (.ref p) (upd H p (.dK (mergeK [] kvs)))) := by
  intro pins s σ H xs us Q I r q
  obtain ⟨a, ps, kvs, rfl, hq, hp, q⟩ := q
  obtain ⟨u, rfl, rx⟩ := vals1 r
  cases rx
  obtain ⟨its, rv, pl, hz⟩ := plain_of I hq
  obtain rfl := refs_at rv
  rw [List.length_map] at hz
  obtain ⟨prs, zs, rel, hl, hzl, hpr⟩ := pairsV I hp
  have hit : PySem.PairItems s.heap (ps.map Value.ref).toArray (fun j => (ps[j]?).getD 0) zs := by
    refine ⟨by simp [hzl], fun j k v e => ?_⟩
    obtain ⟨b, key, e1, e2, _, _⟩ := hpr j k v e
    refine ⟨by simp [e1], ?_⟩
    simp only [e1, Option.getD_some]
    exact .inl e2
  refine PySem.call_dict_pairs (knd := mixKind X.prog X.w) (kvs := prs) (PySem.PairArg.tuple a (ps.map Value.ref).toArray (fun j => (ps[j]?).getD 0) zs) (I.ok.hd hcalm) ⟨pl, hit⟩ ⟨by rw [hl, hzl], fun i k v e => ?_⟩ (by rw [hzl]; exact hz) fun h' tk hd' k => ?_
  · obtain ⟨b, key, _, _, e3, e4⟩ := hpr i k v e
    exact ⟨key, e3, e4⟩
  · have hm : (s.heap.objs.size == sysModules) = false := beq_eq_false_iff_ne.mpr (Nat.ne_of_gt I.big)
    have hlen : (mergeK [] kvs).length ≤ sizeLine := Nat.le_trans (length_mergeK kvs []) (by rw [List.length_nil, Nat.zero_add, rel.length, hl]; exact hz)
    exact ⟨.ref s.heap.objs.size, upd H s.heap.objs.size (.dK (mergeK [] kvs)), I.laid (t' := tk) (fun b o e => k b o (by simp) e) (Nat.le_refl _) (show ObjOk X.prog X.w _ _ _ (.dK (mergeK [] kvs)) from ⟨hlen, hm, merged [] prs, KV.merge rel .nil, hd'⟩), rfl, q _ (I.hok.fresh (Nat.le_refl _))⟩
end
def pairsD : List D → Option (List (Key × D))
  | [] => some []
  | .tup [k, w] :: r => match keyD k, pairsD r with
    | some x, some ds => if fz w = true then some ((x, w) :: ds) else none
    | _, _ => none
  | _ => none
def mergeG (ds : List (Key × D)) (acc : List (Key × D)) : List (Key × D) := ds.foldl (fun acc p => putG acc p.1 p.2) acc
theorem kvr_merge {C : KM} {a : Wd} : ∀ {kvs : List (Key × V)} {ds : List (Key × D)} {k0 : List (Key × V)} {d0 : List (Key × D)}, KVr C a kvs ds → KVr C a k0 d0 → KVr C a (mergeK k0 kvs) (mergeG ds d0)
  | _, _, _, _, .nil, g => g
  | x :: kvs, y :: ds, k0, d0, .cons h t, g => by
    obtain ⟨h1, h2, h3⟩ := h
    have := kvr_put (k := y.1) g h2 h3
    rw [← h1] at this
    show KVr C a (mergeK (putK k0 x.1 x.2) kvs) (mergeG ds (putG d0 y.1 y.2))
    rw [← h1]
    exact kvr_merge t this
theorem pairs_rep {C : KM} {a : Wd} {r : Nat} {p : List Nat} (ok : Ok a) : ∀ {l : List D} {n : Nat} {vs : List V} {ds : List (Key × D)}, pairsD l = some ds → RepL C a r p n vs l →
    ∃ (ps : List Addr) (kvs : List (Key × V)), vs = ps.map V.ref ∧ Paired (fun p kv => SqT C.K a.H p [kV kv.1, kv.2]) ps kvs ∧ KVr C a kvs ds
  | [], n, vs, ds, e, h => by cases e; simp only [RepL] at h; subst h; exact ⟨[], [], rfl, .nil, .nil⟩
  | d :: l, n, vs, ds, e, ⟨v, us, e1, h1, h2⟩ => by
    match d, e, h1 with
    | .tup [k, w], e, h1 =>
      simp only [pairsD] at e
      cases hk : keyD k with
      | none => rw [hk] at e; cases e
      | some x =>
        cases hr : pairsD l with
        | none => rw [hk, hr] at e; cases e
        | some ds' =>
          rw [hk, hr] at e
          dsimp only at e
          split at e
          · rename_i z; cases e
            obtain ⟨ps, kvs, rfl, g1, g2⟩ := pairs_rep ok hr h2
            obtain ⟨y, ws, rfl, t1, t2⟩ := rep_tup ok h1
            simp only [RepL] at t2
            obtain ⟨v1, u1, rfl, q1, v2, u2, rfl, q2, rfl⟩ := t2
            have := keyD_rep hk q1
            subst this
            exact ⟨y :: ps, (x, v2) :: kvs, by rw [e1]; rfl, .cons t1 g1, .cons ⟨rfl, z, _, _, q2⟩ g2⟩
          · cases e
def dictD : List D → Option D
  | [.dic _ ks ws] => if fzL ws = true then some (.dic true ks ws) else none
  | [.tup l] => (pairsD l).map fun ds => dicG (mergeG ds [])
  | [.lst _ l] => (pairsD l).map fun ds => dicG (mergeG ds [])
  | _ => none
theorem new_dicG {C : KM} {a : Wd} {Q : VK} {kvs : List (Key × V)} {ds : List (Key × D)} (k : Ok a) (h : KVr C a kvs ds) (q : ∀ z b, Grow a b → Ok b → Rep C b 0 [] z (dicG ds) → Q z b.H) : ∀ x, a.H x = none → Q (.ref x) (upd a.H x (.dK kvs)) :=
  new_dic (C := C) (r := 0) (p := []) k (fz_keys ds) (kvr_fz h) (kvr_keys (n := 0) h) (kvr_vals (n := 0) h) q
theorem call_dictDD {X : Cx} {C : KM} (hC : C.K = X.K) (hc : X.calm = true) : CallR X (.type "dict") (cD C dictD) := by
  intro pins s σ H xs us Q I r h
  obtain ⟨a, ds, d, rfl, k, ps, hd, q⟩ := h
  match ds, hd with
  | [.dic o ks ws], hd =>
    simp only [dictD] at hd
    split at hd
    · rename_i z; cases hd
      obtain ⟨v, rfl, r1, p1⟩ := one_rep ps
      obtain ⟨x, u, kv, vs, rfl, h1, h2, h3, h4, h5⟩ := rep_dic k p1
      cases h2
      exact call_dictD pins s σ a.H _ us Q I r ⟨x, _, rfl, .inl h1, new_dic k h3 z h4 h5 q⟩
    · cases hd
  | [.tup l], hd =>
    simp only [dictD] at hd
    cases hp : pairsD l with
    | none => rw [hp] at hd; cases hd
    | some ds =>
      rw [hp] at hd; cases hd
      obtain ⟨v, rfl, r1, p1⟩ := one_rep ps
      have p1' := p1
      simp only [Rep] at p1'
      obtain ⟨x, vs, rfl, hx, hl⟩ := p1'
      obtain ⟨as, kvs, rfl, g1, g2⟩ := pairs_rep k hp hl
      rw [hC] at hx g1
      exact call_dictT hc pins s σ a.H _ us Q I r ⟨x, as, kvs, rfl, xt_mono k.sub hx, g1, new_dicG k (kvr_merge g2 .nil) q⟩
  | [.lst o l], hd =>
    simp only [dictD] at hd
    cases hp : pairsD l with
    | none => rw [hp] at hd; cases hd
    | some ds =>
      rw [hp] at hd; cases hd
      obtain ⟨v, rfl, r1, p1⟩ := one_rep ps
      obtain ⟨x, vs, rfl, hx, hl⟩ := rep_lst k p1
      obtain ⟨as, kvs, rfl, g1, g2⟩ := pairs_rep k hp hl
      rw [hC] at g1
      exact call_dictP hc pins s σ a.H _ us Q I r ⟨x, as, kvs, rfl, SqL.of hx, g1, new_dicG k (kvr_merge g2 .nil) q⟩
/- list(..), of a dict too -/
def listX : List D → Option D
  | [.dic _ ks _] => if fzL ks = true then some (.lst true ks) else none
  | ds => listD ds
theorem call_listX {X : Cx} {C : KM} (hC : C.K = X.K) (hc : X.calm = true) : CallR X (.type "list") (cD C listX) := by
  intro pins s σ H xs us Q I r h
  obtain ⟨a, ds, d, rfl, k, ps, hd, q⟩ := h
  match ds, hd, ps with
  | [.dic o ks ws], hd, ps =>
    simp only [listX] at hd
    split at hd
    · rename_i z; cases hd
      obtain ⟨v, rfl, r1, p1⟩ := one_rep ps
      obtain ⟨x, u, kv, vs, rfl, h1, h2, h3, h4, h5⟩ := rep_dic k p1
      cases h2
      exact call_list_dK hc pins s σ a.H _ us Q I r ⟨x, _, rfl, h1, new_lst k z h4 q⟩
    · cases hd
  | [.lst o l], hd, ps => exact call_listD hC pins s σ a.H xs us Q I r ⟨a, _, d, rfl, k, ps, hd, q⟩
  | [.tup l], hd, ps => exact call_listD hC pins s σ a.H xs us Q I r ⟨a, _, d, rfl, k, ps, hd, q⟩
  | [.scr l], hd, ps => exact call_listD hC pins s σ a.H xs us Q I r ⟨a, _, d, rfl, k, ps, hd, q⟩
end Mi
namespace Mi
open PySem PySem.Spec PyProof.Rows L2

/-! ### dict comprehensions -/
def loopDc (t : Tgt) (cond : EM Bool) (ek : EM Arg) (ev : EM D) (own : List Nat) : List D → List (Key × D) → EnvD → Res (List (Key × D) × EnvD)
  | [], acc, e => .ok (acc, e)
  | d :: ds, acc, e => match mTg t d (wipeE e own) with
    | none => .bad
    | some e1 => match cond e1 with
      | .ok (true, e2) => match ek e2 with
        | .ok (x, e3) => match ev e3 with
          | .ok (y, e4) => match (x.get e4).bind keyD with
            | some k => loopDc t cond ek ev own ds (putG acc k (frzQ y)) e4
            | none => .bad
          | _ => .bad
        | _ => .bad
      | .ok (false, e2) => loopDc t cond ek ev own ds acc e2
      | _ => .bad
def mDc (mi : EM (List D)) (t : Tgt) (cond : EM Bool) (ek : EM Arg) (ev : EM D) (own : List Nat) : EM D := fun env => (mi env).bind fun (ds, e) =>
  if fzL ds = true ∧ ds.length ≤ 1000 then (loopDc t cond ek ev own ds [] e).bind fun (l, e') => .ok (dicG l, restE e e' own) else .bad
structure GrowX (C : KM) (b c : Wd) (A : Addr) (acc : List (Key × D)) : Prop where
  st : Step b c
  ok : Ok c
  f : c.F A = none
  t : c.t A = none
  h : ∃ kvs, c.H A = some (.dK kvs) ∧ KVr C c kvs acc
theorem kvr_step {C : KM} {a b : Wd} (k : Ok a) (st : Step a b) : ∀ {kvs : List (Key × V)} {ds : List (Key × D)}, KVr C a kvs ds → KVr C b kvs ds
  | _, _, .nil => .nil
  | _, _, .cons h t => .cons ⟨h.1, h.2.1, 0, [], let ⟨s, q, r⟩ := h.2.2; r.step k st h.2.1⟩ (kvr_step k st t)
theorem GrowX.next {C : KM} {b c c' : Wd} {A : Addr} {acc : List (Key × D)} (g : GrowX C b c A acc) (st : Step c c') (ok : Ok c') : GrowX C b c' A acc := by
  obtain ⟨vs, h1, h2⟩ := g.h
  obtain ⟨k1, k2, k3⟩ := st A _ h1 g.t
  exact ⟨g.st.trans st, ok, k3.trans g.f, k2, ⟨vs, k1, kvr_step g.ok st h2⟩⟩
theorem kvr_put_A {C : KM} {c : Wd} {A : Addr} {o : HO} : ∀ {kvs : List (Key × V)} {ds : List (Key × D)}, KVr C c kvs ds → KVr C (putA c A o) kvs ds
  | _, _, .nil => .nil
  | _, y :: _, .cons h t => .cons ⟨h.1, h.2.1, 0, [], let ⟨s, q, r⟩ := h.2.2; Rep.fz (a := c) (b := putA c A o) (fun _ _ h => h) y.2 _ _ _ h.2.1 r⟩ (kvr_put_A t)
theorem GrowX.push {C : KM} {b c : Wd} {A : Addr} {acc : List (Key × D)} {kvs : List (Key × V)} {k : Key} {v : V} {y : D} {r : Nat} {p : List Nat} (g : GrowX C b c A acc) (hA : b.H A = none) (h : c.H A = some (.dK kvs)) (zy : fz y = true) (rp : Rep C c r p v y) :
    GrowX C b (putA c A (.dK (putK kvs k v))) A (putG acc k y) := by
  obtain ⟨us, h1, h2⟩ := g.h
  rw [h] at h1; cases h1
  refine ⟨fun x o e t => ?_, putA_ok g.ok g.f, g.f, g.t, ⟨_, upd_same, kvr_put_A (kvr_put h2 zy ⟨r, p, rp⟩)⟩⟩
  obtain ⟨g1, g2, g3⟩ := g.st x o e t
  have ne : x ≠ A := by rintro rfl; rw [hA] at e; cases e
  exact ⟨by show upd c.H A _ x = _; rw [upd_ne ne]; exact g1, g2, g3⟩
theorem putG_len (ds : List (Key × D)) (k : Key) (d : D) : (putG ds k d).length ≤ ds.length + 1 := by
  unfold putG
  split
  · rw [List.length_map]; omega
  · rw [List.length_append]; simp
section
variable {G : Gm} {W : WX} {σ : L2.St} {H : Hp} {Q : VK}
theorem dc_w {mi : EM (List D)} {t : Tgt} {cond : EM Bool} {ek : EM Arg} {ev : EM D} {own : List Nat} (hf : Tgt.off G.io t) (ho : ∀ i ∈ G.io, i ∉ own) (hown : Tgt.ins own t)
    (h : tE G W (mDc mi t cond ek ev own) σ H Q) : tDc (tI G W mi) (gT G.C.K t) (tT G W0 cond) (tArg G W0 ek) (tE G W0 ev) own σ H Q := by
  obtain ⟨a, env, rfl, rel, post⟩ := h
  refine ⟨a, env, rfl, rel, post.bind.imp fun ds e b st r p => ?_⟩
  dsimp only at p
  split at p
  · rename_i z
    refine ⟨z.1, fun J hJ A hA => ?_⟩
    have fA : b.F A = none := by
      cases q : b.F A with
      | none => rfl
      | some u => have := r.ok.sub A u q; rw [hA] at this; cases this
    have tA : b.t A = none := by
      cases q : b.t A with
      | none => rfl
      | some u => obtain ⟨_, u, h⟩ := r.ok.own A u q; rw [hA] at h; cases h
    let K : List (Key × D) × EnvD → Res (D × EnvD) := fun (l, e') => .ok (dicG l, restE e e' own)
    refine ⟨fun i m H => m = ds.length - i ∧ i ≤ ds.length ∧ ∃ c acc e1, c.H = H ∧ GrowX G.C b c A acc ∧ acc.length ≤ i ∧ e1.length = e.length ∧ RelE G c (wipe σ own) (wipeE e1 own) ∧
      PostR G W σ b ((loopDc t cond ek ev own (ds.drop i) acc e1).bind K) fun d _ b => ∀ v, Rep G.C b 0 [] v d → Q v b.H, ⟨_, rfl, Nat.zero_le _, putA b A (.dK []), [], e, rfl, ?_, Nat.zero_le _, rfl, ?_, p⟩, ?_⟩
    · refine ⟨fun x o h t => ?_, putA_ok r.ok fA, fA, tA, ⟨[], upd_same, .nil⟩⟩
      have ne : x ≠ A := by rintro rfl; rw [hA] at h; cases h
      exact ⟨by show upd b.H A _ x = _; rw [upd_ne ne]; exact h, t, rfl⟩
    · exact putA_rel (r.wiped ho) fA tA
    · rintro i m H ⟨rfl, hi, c, acc, e1, rfl, gl, hacc, hel, rc, pc⟩
      obtain ⟨hgo, hstop⟩ := hJ c gl.ok gl.st
      by_cases hlt : i < ds.length
      · obtain ⟨d, hd⟩ : ∃ d, ds[i]? = some d := ⟨_, List.getElem?_eq_getElem hlt⟩
        obtain ⟨h1, h2⟩ := hgo i d hd
        have hdrop : ds.drop i = d :: ds.drop (i + 1) := by
          rw [List.drop_eq_getElem_cons hlt]
          rw [List.getElem?_eq_getElem hlt] at hd
          cases hd; rfl
        rw [hdrop] at pc
        simp only [loopDc] at pc
        refine .inr ⟨h1, fun H' => ∃ c acc e1, c.H = H' ∧ GrowX G.C b c A acc ∧ acc.length ≤ i + 1 ∧ e1.length = e.length ∧ RelE G c (wipe σ own) (wipeE e1 own) ∧
          PostR G W σ b ((loopDc t cond ek ev own (ds.drop (i + 1)) acc e1).bind K) fun d _ b => ∀ v, Rep G.C b 0 [] v d → Q v b.H, fun H' q => ⟨ds.length - (i + 1), by omega, rfl, hlt, q⟩, fun x H' y => ?_⟩
        obtain ⟨c1, rfl, gr, ok1, rp⟩ := h2 x H' y
        cases ht : mTg t d (wipeE e1 own) with
        | none => rw [ht] at pc; exact (show False from pc).elim
        | some e2 =>
          rw [ht] at pc
          dsimp only at pc
          have gl1 := gl.next gr.step ok1
          refine gT_mono t (ins_w t hown _ x c1.H (fun σ2 H2 => H2 = c1.H ∧ RelE G c1 σ2 e2) (tg_w t hf (rc.grow gr ok1) (fzL_mem z.1 d (List.mem_of_getElem? hd)) rp ht fun σ2 r2 => ⟨rfl, r2⟩)) fun σ2 H2 ⟨hw, hH, r2⟩ => ?_
          subst hH
          rw [wipe_wipe] at hw
          refine ⟨hw, c1, e2, rfl, r2, ?_⟩
          have hlen : ∀ {c : Wd} {e' : EnvD}, RelE G c σ2 e' → e'.length = e.length := fun {c e'} r' => by
            have := congrArg List.length hw
            rw [wipe_length, wipe_length] at this
            rw [r'.len, this, r.len]
          cases hc : cond e2 with
          | bad => rw [hc] at pc; exact (show False from pc).elim
          | exc x e3 => rw [hc] at pc; exact (show False from pc).elim
          | ok be =>
            obtain ⟨bb, e3⟩ := be
            rw [hc] at pc
            intro c2 st2 r3
            cases bb with
            | false =>
              rw [if_neg Bool.false_ne_true]
              exact ⟨c2, acc, e3, rfl, gl1.next st2 r3.ok, Nat.le_succ_of_le hacc, hlen r3, r3.rewiped hw ho, pc⟩
            | true =>
              rw [if_pos rfl]
              refine ⟨c2, e3, rfl, r3, ?_⟩
              dsimp only at pc
              cases hk : ek e3 with
              | bad => rw [hk] at pc; exact (show False from pc).elim
              | exc x e4 => rw [hk] at pc; exact (show False from pc).elim
              | ok xe =>
                obtain ⟨xa, e4⟩ := xe
                rw [hk] at pc
                intro c3 st3 r4 vk ark
                refine ⟨c3, e4, rfl, r4, ?_⟩
                dsimp only at pc
                cases he : ev e4 with
                | bad => rw [he] at pc; exact (show False from pc).elim
                | exc x e5 => rw [he] at pc; exact (show False from pc).elim
                | ok ye =>
                  obtain ⟨y, e5⟩ := ye
                  rw [he] at pc
                  intro c4 st4 r5 v rv
                  dsimp only at pc
                  have ark := ark.step r4.ok st4
                  cases hx : xa.get e5 with
                  | none => simp only [hx, Option.bind_none] at pc; exact (show False from pc).elim
                  | some dk =>
                    cases hkk : keyD dk with
                    | none => simp only [hx, Option.bind_some, hkk] at pc; exact (show False from pc).elim
                    | some key =>
                      simp only [hx, Option.bind_some, hkk] at pc
                      obtain ⟨rk, pk⟩ := ark.rep r5 hx
                      have ev2 := keyD_rep hkk pk
                      have gl4 := ((gl1.next st2 r3.ok).next st3 r4.ok).next st4 r5.ok
                      obtain ⟨kvs, k1, k2⟩ := gl4.h
                      obtain ⟨zy, rq⟩ := frzQ_rep (s := 0) (q := []) r5.ok rv
                      have gl5 := (gl4.next (frzW_step (r := 0)) (frzW_ok r5.ok)).push (k := key) hA k1 zy rq
                      refine ⟨kvs, key, ev2, k1, ?_, putA (frzW c4 0) A (.dK (putK kvs key v)), putG acc key (frzQ y), e5, rfl, gl5, ?_, hlen r5, ?_, pc⟩
                      · rw [kvr_len k2]; exact small1000 (by omega)
                      · exact Nat.le_trans (putG_len _ _ _) (by omega)
                      · exact putA_rel ((r5.rewiped hw ho).frz0) (gl4.next (frzW_step (r := 0)) (frzW_ok r5.ok)).f (gl4.next (frzW_step (r := 0)) (frzW_ok r5.ok)).t
      · have e2 : i = ds.length := by omega
        subst e2
        rw [List.drop_length] at pc
        refine .inl ⟨hstop, ?_⟩
        obtain ⟨kvs, k1, k2⟩ := gl.h
        have pc : ∀ b', Step b b' → RelE G b' σ (restE e e1 own) → ∀ v, Rep G.C b' 0 [] v (dicG acc) → Q v b'.H := pc
        have rel' := r.unwiped rc gl.st hel
        refine pc (tagA c A) (fun x o h t => ?_) ?_ (.ref A) ?_
        · obtain ⟨g1, g2, g3⟩ := gl.st x o h t
          have ne : x ≠ A := by rintro rfl; rw [hA] at h; cases h
          exact ⟨g1, by show (if x = A then some (0, []) else c.t x) = none; rw [if_neg ne]; exact g2, g3⟩
        · exact ⟨tagA_ok gl.ok gl.f k1, rel'.len, fun i d h => let ⟨v, e, q⟩ := rel'.slot i d h; ⟨v, e, tagA_to gl.t q⟩, rel'.prm⟩
        · simp only [dicG, Rep]
          refine ⟨A, .dK kvs, _, _, rfl, ?_, .dk kvs, fz_keys acc, ?_, ?_⟩
          · rw [if_pos trivial]
            exact ⟨by show (if A = A then some (0, []) else c.t A) = _; rw [if_pos rfl], k1⟩
          · exact RepL.fz (a := c) (b := tagA c A) (fun _ _ h => h) _ _ [] 0 _ (fz_keys acc) (kvr_keys (n := 0) k2)
          · exact RepL.fz (a := c) (b := tagA c A) (fun _ _ h => h) _ _ [] 0 _ (kvr_fz k2) (kvr_vals (n := 0) k2)
  · exact (show False from p).elim
theorem r_dc {X : Cx} {lv : Nat} {e tg kx vx : Expr} {mi : EM (List D)} {mt : EM Bool} {ek : EM Arg} {m : EM D} {ifs : List Expr} {scope : Scope} {pos : Pos} (s : Go X G W lv) (own : List (Str × Nat)) (t : Tgt) (hio : Tgt.off G.io t) (hio2 : ∀ i ∈ G.io, i ∉ own.map (·.2)) (hown : Tgt.ins (own.map (·.2)) t) (hi : PI X tg e (tI G W mi)) (ok : BlkOk X.N X.env.scope scope own)
    (hg : ∀ (s : Shared) (H : Hp) (C : Addr) (cl : List (Str × Addr)) (fp : List Addr), PG (X.blk s H scope (compEnvC scope cl C X.env) fp) tg (gT G.C.K t))
    (ht : ∀ (s : Shared) (H : Hp) (C : Addr) (cl : List (Str × Addr)) (fp : List Addr), Go (X.blk s H scope (compEnvC scope cl C X.env) fp) G W0 lv → PTs (X.blk s H scope (compEnvC scope cl C X.env) fp) ifs (tT G W0 mt))
    (hk : ∀ (s : Shared) (H : Hp) (C : Addr) (cl : List (Str × Addr)) (fp : List Addr), Go (X.blk s H scope (compEnvC scope cl C X.env) fp) G W0 lv → PE (X.blk s H scope (compEnvC scope cl C X.env) fp) kx (tArg G W0 ek))
    (he : ∀ (s : Shared) (H : Hp) (C : Addr) (cl : List (Str × Addr)) (fp : List Addr), Go (X.blk s H scope (compEnvC scope cl C X.env) fp) G W0 lv → PE (X.blk s H scope (compEnvC scope cl C X.env) fp) vx (tE G W0 m)) (hs : ∀ x, foldedSetIterable e X.env x = pure x := by intro _; rfl) :
    PE X (.DictComp kx vx [⟨tg, e, ifs, 0⟩] scope pos) (tE G W (mDc mi t mt ek m (own.map (·.2)))) :=
  (pe_dc s.cm s.n hi ok hg (fun s0 H C cl fp => ht s0 H C cl fp (s.blk ..)) (fun s0 H C cl fp => hk s0 H C cl fp (s.blk ..)) (fun s0 H C cl fp => he s0 H C cl fp (s.blk ..)) hs).weak fun _ _ _ q => dc_w hio hio2 hown q
end
end Mi
namespace Mi
open PySem PySem.Spec PyProof.Rows L2

/-! ### fields of instances -/
structure FldOk (C : KM) (c f : Str) : Prop where
  ex : ∃ u, C.mg c = some (.ref u) ∧ Cls C.K u ∧ NoAttr C.K u f
def fldD : List Str → List D → Str → Option D
  | g :: ns, w :: ws, f => if f = g then some w else fldD ns ws f
  | _, _, _ => none
def fldG (cs : List Str) (f : Str) : D → Option D
  | .ins _ c ns ws => if c ∈ cs then pick (fldD ns ws f) else none
  | _ => none
theorem fld_rep {C : KM} {a : Wd} {r : Nat} {p : List Nat} {f : Str} : ∀ {ns : List Str} {ws : List D} {vs : List V} {n : Nat} {d : D}, fldD ns ws f = some d → RepL C a r p n vs ws → ∃ v j, (ns.zip vs).lookup f = some v ∧ Rep C a r (j :: p) v d
  | [], ws, vs, n, d, e, h => by simp [fldD] at e
  | g :: ns, [], vs, n, d, e, h => by simp [fldD] at e
  | g :: ns, w :: ws, vs, n, d, e, ⟨v, us, e1, h1, h2⟩ => by
    subst e1
    simp only [fldD] at e
    by_cases q : f = g
    · rw [if_pos q] at e; cases e
      subst q
      exact ⟨v, n, by simp [List.lookup], h1⟩
    · rw [if_neg q] at e
      obtain ⟨v', j, g1, g2⟩ := fld_rep e h2
      have qb : (f == g) = false := by simpa using q
      exact ⟨v', j, by simp only [List.zip_cons_cons, List.lookup, qb]; exact g1, g2⟩
theorem rep_ins {C : KM} {a : Wd} {r : Nat} {p : List Nat} {v : V} {o : Bool} {c : Str} {ns : List Str} {ws : List D} (k : Ok a) (h : Rep C a r p v (.ins o c ns ws)) :
    ∃ x u dx vs, v = .ref x ∧ C.mg c = some (.ref u) ∧ vs.length = ns.length ∧ a.H x = some (.ins u dx (ns.zip vs)) ∧ RepL C a r p 0 vs ws := by
  simp only [Rep] at h
  obtain ⟨x, u, dx, vs, e, hm, hl, c, h⟩ := h
  refine ⟨x, u, dx, vs, e, hm, hl, ?_, h⟩
  cases o with
  | true => rw [if_pos rfl] at c; exact c.2
  | false => rw [if_neg Bool.false_ne_true] at c; exact k.sub _ _ c.1
section
variable {X : Cx} {G : Gm} {W : WX} {lv : Nat} {e : Expr} {ma : EM Arg} {m : EM D} {pos p pos' : Pos} {x f : Str}
theorem r_fld (s : St0 X G) (cs : List Str) (hc : ∀ c ∈ cs, FldOk G.C c f) (ha : PE X e (tArg G W ma)) (hb : attributeBase e f X.env (eval e X.env) = eval e X.env := by rfl) : PE X (.Attribute e f pos) (tE G W (mUn (fldG cs f) ma)) :=
  (pe_fld ha hb).weak fun σ H Q q => by
    obtain ⟨a, env, rfl, rel, post⟩ := q
    refine tArg_of rel post fun x e1 b v s1 rel1 ar1 post1 => ?_
    cases hx : x.get e1 with
    | none => simp only [hx] at post1; exact (show False from post1).elim
    | some d1 =>
      simp only [hx] at post1
      obtain ⟨d, hd, k⟩ := post1.lift rel1
      obtain ⟨r1, p1⟩ := ar1.rep rel1 hx
      cases d1 <;> simp only [fldG] at hd <;> (try (cases hd; done))
      case ins o c ns ws =>
        split at hd
        · rename_i hin
          obtain ⟨h1, h2⟩ := pick_eq hd
          obtain ⟨y, u, dx, vs, rfl, hm, hl, hH, hr⟩ := rep_ins rel1.ok p1
          obtain ⟨v, j, g1, g2⟩ := fld_rep h1 hr
          obtain ⟨u', hm', cl, na⟩ := (hc c hin).ex
          rw [hm] at hm'; cases hm'
          rw [← s.k] at cl na
          exact ⟨y, u, dx, _, v, rfl, hH, cl, na, g1, k b (Grow.refl b) rel1.ok v (g2.step rel1.ok (Step.refl b) h2)⟩
        · cases hd
end
/-! ### self.f = e -/
def putW (f : Str) (y : D) : List Str → List D → List Str × List D
  | g :: ns, x :: ws => if g = f then (g :: ns, y :: ws) else (g :: (putW f y ns ws).1, x :: (putW f y ns ws).2)
  | _, _ => ([f], [y])
theorem put_rep {C : KM} {a : Wd} {f : Str} {y : D} {v : V} (zy : fz y = true) (hy : ∃ s q, Rep C a s q v y) : ∀ {ns : List Str} {ws : List D} {vs : List V} {r n : Nat} {p : List Nat}, fzL ws = true → vs.length = ns.length → RepL C a r p n vs ws →
    ∃ vs', putF f v (ns.zip vs) = (putW f y ns ws).1.zip vs' ∧ vs'.length = (putW f y ns ws).1.length ∧ fzL (putW f y ns ws).2 = true ∧ RepL C a 0 [] n vs' (putW f y ns ws).2
  | [], ws, vs, r, n, p, z, hl, h => by
    have e : vs = [] := List.length_eq_zero_iff.mp hl
    subst e
    obtain ⟨s, q, hy⟩ := hy
    cases ws with
    | nil => exact ⟨[v], rfl, rfl, by simp [putW, fzL, zy], v, [], rfl, Rep.fz (a := a) (b := a) (fun _ _ h => h) y _ _ v zy hy, by simp [RepL]⟩
    | cons w ws => obtain ⟨_, _, e, _⟩ := h; cases e
  | g :: ns, [], vs, r, n, p, z, hl, h => by
    simp only [RepL] at h
    subst h
    simp at hl
  | g :: ns, w :: ws, vs, r, n, p, z, hl, ⟨u, us, e1, h1, h2⟩ => by
    subst e1
    simp only [fzL, Bool.and_eq_true] at z
    simp only [List.length_cons, Nat.add_right_cancel_iff] at hl
    by_cases q : g = f
    · subst q
      obtain ⟨s, q, hy⟩ := hy
      refine ⟨v :: us, by simp [putF, putW], by simp [putW, hl], by simp [putW, fzL, zy, z.2], ?_⟩
      simp only [putW, if_true]
      exact ⟨v, us, rfl, Rep.fz (a := a) (b := a) (fun _ _ h => h) y _ _ v zy hy, RepL.fz (a := a) (b := a) (fun _ _ h => h) ws _ _ _ us z.2 h2⟩
    · obtain ⟨vs', g1, g2, g3, g4⟩ := put_rep (f := f) zy hy (n := n + 1) z.2 hl h2
      refine ⟨u :: vs', ?_, ?_, ?_, ?_⟩
      · simp only [List.zip_cons_cons, putF, putW, if_neg q, g1]
      · simp [putW, if_neg q, g2]
      · simp [putW, if_neg q, fzL, z.1, g3]
      · simp only [putW, if_neg q]
        exact ⟨u, vs', rfl, Rep.fz (a := a) (b := a) (fun _ _ h => h) w _ _ u z.1 h1, g4⟩
def fsetG (cs : List Str) (f : Str) (d y : D) : Option D := match d with
  | .ins true c ns ws => if c ∈ cs ∧ fzL ws = true ∧ ns.length < 900 then some (.ins true c (putW f y ns ws).1 (putW f y ns ws).2) else none
  | _ => none
def mFSet (j : Nat) (cs : List Str) (f : Str) (mv : EM D) : EM FlowD := fun env => (mv env).bind fun (y, e) => match e[j]? with
  | some (some d) => match fsetG cs f d (frzQ y) with
    | some d' => .ok (.next, e.set j (some d'))
    | none => .bad
  | _ => .bad
theorem RelE.rewrI {G : Gm} {a : Wd} {σ : L2.St} {env : EnvD} {j : Nat} {c : Str} {ns : List Str} {ws : List D} (r : RelE G a σ env) (h : env[j]? = some (some (.ins true c ns ws))) :
    ∃ x u dx vs, σ[j]? = some (some (.ref x)) ∧ G.C.mg c = some (.ref u) ∧ vs.length = ns.length ∧ a.H x = some (.ins u dx (ns.zip vs)) ∧ RepL G.C a (j + 1) [] 0 vs ws ∧
      ∀ (ns' : List Str) (ws' : List D) (vs' : List V) (s n : Nat) (q : List Nat), vs'.length = ns'.length → fzL ws' = true → RepL G.C a s q n vs' ws' →
        Step a ⟨a.F, upd a.H x (.ins u dx (ns'.zip vs')), a.t⟩ ∧ RelE G ⟨a.F, upd a.H x (.ins u dx (ns'.zip vs')), a.t⟩ σ (env.set j (some (.ins true c ns' ws'))) := by
  obtain ⟨w, h1, h2⟩ := r.slot j _ h
  simp only [Rep] at h2
  obtain ⟨x, u, dx, vs, rfl, hm, hl, hx, hr⟩ := h2
  rw [if_pos trivial] at hx
  obtain ⟨tx, hx⟩ := hx
  refine ⟨x, u, dx, vs, h1, hm, hl, hx, hr, fun ns' ws' vs' s n q hl' z hr' => ?_⟩
  have ne : ∀ {y : Addr} {t : Option Tag}, a.t y = t → t ≠ some (j + 1, []) → y ≠ x := fun e ht => by rintro rfl; rw [tx] at e; exact ht e.symm
  have fx : a.F x = none := (r.ok.own x _ tx).1
  have up : ∀ {y : Addr}, y ≠ x → upd a.H x (.ins u dx (ns'.zip vs')) y = a.H y := fun e => upd_ne e
  have ok' : Ok ⟨a.F, upd a.H x (.ins u dx (ns'.zip vs')), a.t⟩ := by
    refine ⟨fun y o e => ?_, fun y t e => ?_⟩
    · have : y ≠ x := by rintro rfl; have e : a.F y = some o := e; rw [fx] at e; cases e
      show upd a.H x _ y = _
      rw [up this]; exact r.ok.sub y o e
    · obtain ⟨g1, o, g2⟩ := r.ok.own y t e
      by_cases q : y = x
      · subst q; exact ⟨g1, _, upd_same⟩
      · exact ⟨g1, o, by show upd a.H x _ y = _; rw [up q]; exact g2⟩
  have mv : ∀ {d : D} {r p} {v1 : V}, (∀ z, (r, z ++ p) ≠ (j + 1, ([] : List Nat))) → Rep G.C a r p v1 d → Rep G.C ⟨a.F, upd a.H x (.ins u dx (ns'.zip vs')), a.t⟩ r p v1 d := fun {d r p v1} hne h => by
    have := Rep.to (C := G.C) (a := a) (b := ⟨a.F, upd a.H x (.ins u dx (ns'.zip vs')), a.t⟩) (r := r) (s := r) (p := p) (q := p) (fun _ _ h => h) (fun y z o h e => ⟨h, by
      show upd a.H x _ y = _
      rw [up (ne h (by intro q; exact hne z (Option.some.inj q)))]; exact e⟩) d [] v1
    exact this h
  refine ⟨fun y o e t => ⟨by show upd a.H x _ y = _; rw [up (ne t (by simp))]; exact e, t, rfl⟩, ⟨ok', by rw [List.length_set]; exact r.len, fun i d e => ?_, r.prm⟩⟩
  by_cases ij : j = i
  · subst ij
    have hj : j < env.length := (List.getElem?_eq_some_iff.mp h).1
    rw [List.getElem?_set_self hj] at e
    cases e
    refine ⟨.ref x, h1, ?_⟩
    simp only [Rep]
    refine ⟨x, u, dx, vs', rfl, hm, hl', ?_, ?_⟩
    · rw [if_pos trivial]; exact ⟨tx, upd_same⟩
    · exact RepL.fz (a := a) (b := ⟨a.F, upd a.H x (.ins u dx (ns'.zip vs')), a.t⟩) (fun _ _ h => h) ws' q [] n vs' z hr'
  · rw [List.getElem?_set_ne ij] at e
    obtain ⟨w, e1, e2⟩ := r.slot i d e
    exact ⟨w, e1, mv (by intro z q; exact ij (Nat.succ.inj (congrArg Prod.fst q)).symm) e2⟩
section
variable {X : Cx} {G : Gm} {W : WX} {e : Expr} {m : EM D} {pos p pos' : Pos} {x f : Str}
theorem rs_fld (s : St0 X G) (j : Nat) (cs : List Str) (hc : ∀ c ∈ cs, FldOk G.C c f) (hN : X.N[j]? = some x) (hv : Vis X.env.scope x) (he : PE X e (tE G W m)) (hs : swapsWith e (some (.Attribute (.Name x p) f pos')) pos.line X.env = pure false := by rfl)
    (hd : (x == ("__debug__" : Str)) = false := by decide) (hcd : (x == ("__classdict__" : Str)) = false := by decide) : PS X (.Assign [.Attribute (.Name x p) f pos'] e pos) (tS G W (mFSet j cs f m)) :=
  (ps_fld (pe_var hN hv hd hcd) he hs).weak fun D σ H q => by
    obtain ⟨a, env, rfl, rel, post⟩ := q
    refine tE_ofS rel post fun y e1 b v st r1 rv p1 => ?_
    dsimp only at p1
    split at p1
    · rename_i d hj
      obtain ⟨zy, ry⟩ := frzQ_rep (s := 0) (q := []) r1.ok rv
      cases hf : fsetG cs f d (frzQ y) with
      | none => rw [hf] at p1; exact (show False from p1).elim
      | some d' =>
        rw [hf] at p1
        dsimp only at p1
        unfold fsetG at hf
        split at hf
        · rename_i c ns ws
          split at hf
          · rename_i z; cases hf
            obtain ⟨xx, u, dx, vs, h1, hm, hl, hH, hr, k⟩ := r1.frz0.rewrI hj
            obtain ⟨u', hm', cl, na⟩ := (hc c z.1).ex
            rw [hm] at hm'; cases hm'
            rw [← s.k] at cl na
            obtain ⟨vs', g1, g2, g3, g4⟩ := put_rep (f := f) zy ⟨0, [], ry⟩ (n := 0) z.2.1 hl hr
            obtain ⟨k1, k2⟩ := k _ _ vs' 0 0 [] g2 g3 g4
            refine ⟨.ref xx, h1, xx, u, dx, _, rfl, hH, cl, na, ?_, ?_⟩
            · rw [List.length_zip]; omega
            · rw [g1]
              exact p1 _ σ (frzW_step.trans k1) k2
          · cases hf
        · cases hf
    · exact (show False from p1).elim
end
end Mi
namespace Mi
open PySem PySem.Spec PyProof.Rows L2

/-! ### a new instance: C(..), __init__ is a def g of the instance and the arguments -/
def makeR (c : Str) (g : List D → Res (D × EnvD)) (xs : List Arg) (e : EnvD) : Res (D × EnvD) := match mCallR g (.var e.length :: xs) (e ++ [some (.ins true c [] [])]) with
  | .ok (.non, e') => match e'[e.length]? with
    | some (some d) => .ok (d, e'.take e.length)
    | _ => .bad
  | .exc x e' => .exc x (e'.take e.length)
  | _ => .bad
def mMake (c : Str) (g : List D → Res (D × EnvD)) (ma : EM (List Arg)) : EM D := fun env => (ma env).bind fun (xs, e) => makeR c g xs e
/- the world with the new instance in a slot behind the frame's -/
def insW (b : Wd) (x dx u : Addr) (j : Nat) : Wd := ⟨b.F, upd (upd b.H dx (.own x)) x (.ins u dx []), fun y => if y = x then some (j + 1, []) else b.t y⟩
theorem RelE.cut {G : Gm} {a : Wd} {σ : L2.St} {w : Option V} {e : EnvD} (r : RelE G a (σ ++ [w]) e) (hp : ∀ i ∈ G.io, ∀ v, G.vs0[i]? = some v → σ[i]? = some (some v)) : RelE G a σ (e.take σ.length) := by
  have hl : e.length = σ.length + 1 := by rw [r.len]; simp
  refine ⟨r.ok, by rw [List.length_take]; omega, fun i d h => ?_, hp⟩
  have hi : i < σ.length := by
    have := (List.getElem?_eq_some_iff.mp h).1
    rw [List.length_take] at this; omega
  rw [List.getElem?_take_of_lt hi] at h
  obtain ⟨v, e1, q⟩ := r.slot i d h
  rw [List.getElem?_append_left hi] at e1
  exact ⟨v, e1, q⟩
theorem make_sp {G : Gm} {W : WX} {σ : L2.St} {b : Wd} {e : EnvD} {xs : List Arg} {vs : List V} {c : Str} {g : List D → Res (D × EnvD)} {Q : VK} {u x dx : Addr} (rel : RelE G b σ e) (hm : G.C.mg c = some (.ref u)) (ps : Paired (ArgRep G.C b σ) xs vs) (hx : b.H x = none) (hdx : b.H dx = none) (hne : dx ≠ x)
    (post : PostR G W σ b (makeR c g xs e) fun d _ b => ∀ v, Rep G.C b 0 [] v d → Q v b.H) :
    spD G.C g (.ref x :: vs) (upd (upd b.H dx (.own x)) x (.ins u dx [])) (fun v H2 => v = .non ∧ Q (.ref x) H2) (fun cls dd H' => W cls dd σ H') := by
  have fx : b.F x = none := by
    cases q : b.F x with
    | none => rfl
    | some o => have := rel.ok.sub x o q; rw [hx] at this; cases this
  have tx : b.t x = none := by
    cases q : b.t x with
    | none => rfl
    | some o => obtain ⟨_, o, h⟩ := rel.ok.own x o q; rw [hx] at h; cases h
  have kp : ∀ y o, b.H y = some o → (insW b x dx u e.length).H y = some o ∧ (insW b x dx u e.length).t y = b.t y := fun y o h => by
    have n1 : y ≠ x := by rintro rfl; rw [hx] at h; cases h
    have n2 : y ≠ dx := by rintro rfl; rw [hdx] at h; cases h
    exact ⟨by show upd (upd b.H dx _) x _ y = _; rw [upd_ne n1, upd_ne n2]; exact h, if_neg n1⟩
  have gr : Grow b (insW b x dx u e.length) := ⟨fun y o h => ⟨(kp y o h).1, (kp y o h).2, rfl⟩⟩
  have ok1 : Ok (insW b x dx u e.length) := by
    refine ⟨fun y o h => (kp y o (rel.ok.sub y o h)).1, fun y t h => ?_⟩
    have h : (if y = x then some (e.length + 1, []) else b.t y) = some t := h
    by_cases q : y = x
    · subst q; exact ⟨fx, _, upd_same⟩
    · rw [if_neg q] at h
      obtain ⟨h1, o, h2⟩ := rel.ok.own y t h
      exact ⟨h1, o, (kp y o h2).1⟩
  have rel1 := rel.grow gr ok1
  have hle : e.length = σ.length := rel.len
  have rel2 : RelE G (insW b x dx u e.length) (σ ++ [some (.ref x)]) (e ++ [some (.ins true c [] [])]) := by
    refine ⟨ok1, by simp [rel.len], fun i d h => ?_, fun i hi v hv => ?_⟩
    · by_cases q : i < e.length
      · rw [List.getElem?_append_left q] at h
        obtain ⟨v, e1, r⟩ := rel1.slot i d h
        exact ⟨v, by rw [List.getElem?_append_left (by omega)]; exact e1, r⟩
      · have e1 : i = e.length := by
          have := (List.getElem?_eq_some_iff.mp h).1
          simp at this; omega
        subst e1
        rw [List.getElem?_append_right (Nat.le_refl _)] at h
        simp at h
        subst h
        refine ⟨.ref x, by rw [List.getElem?_append_right (by omega)]; simp [hle], ?_⟩
        simp only [Rep]
        refine ⟨x, u, dx, [], rfl, hm, rfl, ?_, by simp [RepL]⟩
        rw [if_pos trivial]
        exact ⟨if_pos rfl, upd_same⟩
    · have := rel.prm i hi v hv
      have hl := (List.getElem?_eq_some_iff.mp this).1
      rw [List.getElem?_append_left hl]; exact this
  have ps2 : Paired (ArgRep G.C (insW b x dx u e.length) (σ ++ [some (.ref x)])) (.var e.length :: xs) (.ref x :: vs) := by
    refine .cons (show (σ ++ [some (V.ref x)])[e.length]? = some (some (.ref x)) by rw [List.getElem?_append_right (by omega)]; simp [hle]) ?_
    clear post
    induction ps with
    | nil => exact .nil
    | @cons y w ys ws h t ih =>
      refine .cons ?_ ih
      cases y with
      | val d => exact ⟨h.1, h.2.step rel.ok gr.step h.1⟩
      | var i =>
        have h : σ[i]? = some (some w) := h
        have hl := (List.getElem?_eq_some_iff.mp h).1
        show (σ ++ [some (V.ref x)])[i]? = _
        rw [List.getElem?_append_left hl]; exact h
  have key := call_sp (W := fun cls dd _ H' => W cls dd σ H') (Q := fun v H2 => v = .non ∧ Q (.ref x) H2) (g := g) rel2 ps2 ?_
  · exact key
  · unfold makeR at post
    cases hr : mCallR g (.var e.length :: xs) (e ++ [some (.ins true c [] [])]) with
    | bad => rw [hr] at post; exact (show False from post).elim
    | exc y e' =>
      rw [hr] at post
      intro b' cls dd st r er
      have := (r.cut rel.prm)
      rw [← hle] at this
      exact post b' cls dd (gr.step.trans st) this er
    | ok de =>
      obtain ⟨d0, e'⟩ := de
      rw [hr] at post
      cases d0 <;> dsimp only at post <;> first | exact (show False from post).elim | skip
      split at post
      · rename_i d hd
        intro b' st r v rv
        cases rep_non rv
        obtain ⟨w, e1, rw1⟩ := r.slot _ d hd
        rw [List.getElem?_append_right (by omega)] at e1
        simp [hle] at e1
        subst e1
        refine ⟨rfl, ?_⟩
        have r2 := r.cut rel.prm
        rw [← hle] at r2
        refine post (mvW b' (e.length + 1) 0) (gr.step.trans (st.trans mvW_step)) ?_ (.ref x) (mvW_rep rw1)
        refine ⟨mvW_ok r2.ok, r2.len, fun i d h => ?_, r2.prm⟩
        obtain ⟨v, h1, h2⟩ := r2.slot i d h
        have hi : i < e.length := by
          have := (List.getElem?_eq_some_iff.mp h).1
          rw [List.length_take] at this; omega
        exact ⟨v, h1, mvW_else (by omega) h2⟩
      · exact (show False from post).elim
/- a class that may be made -/
structure MkOk (C : KM) (k : Nat) (c : Str) (g : List D → Res (D × EnvD)) : Prop where
  ex : ∃ (u f : Addr) (fd : FuncData) (ps : List Str), C.mg c = some (.ref u) ∧ Mk C.K u f ∧ Binds C.K fd ps [] ∧ ∀ base : Heap, C.K.In base → base.Ns mainGlobals C.mg → FnOk C.P C.w C.K C.mg base (L2.CX C.P C.w) k f fd ps (spD C g)
section
variable {X : Cx} {G : Gm} {W : WX} {lv j : Nat} {e : Expr} {es : List Expr} {mas : EM (List Arg)} {pos p : Pos} {x : Str} {g : List D → Res (D × EnvD)}
theorem run_makeS {CX : CXT} {k : Nat} {f C : Addr} {fd : FuncData} {ps : List Str} {sp : Sp} {E : L2.St → XK} {pins : List (Addr × Obj)} {σ : L2.St} {H : Hp} {s : Shared} {Q : VK} {us : List Value} {vs : List V} (M : Mk X.K C f) (F : FnOk X.prog X.w X.K X.mg X.base CX k f fd ps sp) (hr : Room (k + 1) X.A) (hb : Binds X.K fd ps [])
    (hx : PassesAt CX X σ (E σ)) (I : Inv X pins σ H s) (r : Vals vs us)
    (h : ∀ x dx, H x = none → H dx = none → dx ≠ x → sp (.ref x :: vs) (upd (upd H dx (.own x)) x (.ins C dx [])) (fun v H2 => v = .non ∧ Q (.ref x) H2) (E σ)) :
    wpAny (model X.prog X.w) X.A (call (.ref C) us) (EP X pins σ Q) X.xe s := by
  have hq := h (s.heap.objs.size + 1) s.heap.objs.size (I.hok.fresh (Nat.le_succ _)) (I.hok.fresh (Nat.le_refl _)) (Nat.ne_of_lt (Nat.lt_succ_self _))
  have I2 := Inv.made (C := C) I
  have r2 : Vals (V.ref (s.heap.objs.size + 1) :: vs) (Value.ref (s.heap.objs.size + 1) :: us) := .cons rfl r
  have hl : (Value.ref (s.heap.objs.size + 1) :: us).length = ps.length := by rw [← r2.length]; exact F.len _ _ _ _ hq
  have b2 := hb _ (Value.ref (s.heap.objs.size + 1) :: us) I2.kIn (by rw [List.append_nil]; exact hl)
  rw [List.append_nil] at b2
  refine wpAny_call (make_map (f := f) I.kIn M.makes M.init (beq_iff_eq.mp M.fn) (codeAny_mono (F.run _ X.stack _ _ ⟨Value.ref (s.heap.objs.size + 1) :: us, []⟩ (Value.ref (s.heap.objs.size + 1) :: us) _ _ (E σ) (hr.make C us []) (I2.env0.make C us []) b2 r2 hq) fun r s' hq' => ?_))
  cases r with
  | error e => exact hx pins _ _ e s' I2 hq'
  | ok fl =>
    cases fl with
    | ret u =>
      obtain ⟨v, H', I3, rv, ev, q3⟩ := I2.after hq'
      subst ev
      exact ⟨rv, ⟨V.ref (s.heap.objs.size + 1), H', I3, rfl, q3⟩⟩
    | next => exact False.elim hq'
    | brk => exact False.elim hq'
    | cont => exact False.elim hq'
theorem r_make (s : Go X G W lv) (F : MkOk G.C j x g) (hj : j + 1 ≤ lv) (hg : Gl X x) (ha : PA X (e :: es) (tArgs G W mas)) (hdb : (x == ("__debug__" : Str)) = false := by decide) (he : starEach (e :: es) X.env = (false, eval e X.env) :: starEach es X.env := by rfl)
    (hpl : (backTo pos (starEach es X.env)).any (·.1) = false := by rfl) : PE X (.Call (.Name x p) (e :: es) [] pos) (tE G W (mMake x g mas)) := by
  obtain ⟨u, f, fd, ps, h1, h2, h3, h4⟩ := F.ex
  refine ⟨fun pins s0 σ H Q I h => ?_⟩
  have hk : G.C.K.In X.base := by rw [← s.k]; exact I.ok.mod.kin
  have hb : X.base.Ns mainGlobals G.C.mg := by rw [← s.m]; exact I.ok.mod.glob
  have F' := h4 X.base hk hb
  have e1 := s.p; have e2 := s.w; have e3 := s.k; have e4 := s.m
  rw [← e1, ← e2, ← e3, ← e4] at F'
  have M' : Mk X.K u f := by rw [e3]; exact h2
  have B' : Binds X.K fd ps [] := by rw [e3]; exact h3
  refine wpAny_Call_Name_kw (ld_glob I hg (by rw [e4]; exact h1) ?_ hdb)
  obtain ⟨a, env, rfl, rel, post⟩ := h
  have hA : tArgs G W mas σ a.H (fun vs H1 => ∀ y dy, H1 y = none → H1 dy = none → dy ≠ y → spD G.C g (.ref y :: vs) (upd (upd H1 dy (.own y)) y (.ins u dy [])) (fun v H2 => v = .non ∧ Q (.ref y) H2) (fun cls dd H' => W cls dd σ H')) :=
    tArgs_of rel post fun xs e1 b vs s1 r ps p y dy hy hdy hne => make_sp r h1 ps hy hdy hne p
  refine PySem.W.callWith_K (h₀ := X.base) I.ok.mod.kin M'.kp (thn (ha.run pos pins s0 σ _ _ I hA) fun us s1 ⟨vs, H1, I1, r, q⟩ => ⟨I1.kIn, ?_⟩) he hpl
  exact run_makeS (E := WE W) M' F' (s.rm.mono hj) B' (passAt s.tk σ) I1 r q
end
end Mi
namespace Mi
open PySem PySem.Spec PyProof.Rows L2

/-! ### what is never reached -/
def mBad : EM FlowD := fun _ => .bad
theorem rs_bad {X : Cx} {G : Gm} {W : WX} {st : Stmt} : PS X st (tS G W mBad) := ⟨fun _ _ _ _ _ _ h => by
  obtain ⟨_, _, _, _, p⟩ := h
  exact (show False from p).elim⟩
/-! ### max, min of a list -/
def maxX : List D → Option D
  | [.lst _ l] => match intsOf l with
    | some (n :: ns) => some (.int (ns.foldl (fun a b => if b > a then b else a) n))
    | _ => none
  | ds => maxD ds
theorem max_fold : ∀ (ns : List Int) (n : Int), (ns.foldl (fun a b => if b > a then b else a) n ∈ n :: ns) ∧ ∀ y ∈ n :: ns, y ≤ ns.foldl (fun a b => if b > a then b else a) n
  | [], n => by simp
  | m :: ns, n => by
    rw [List.foldl_cons]
    obtain ⟨h1, h2⟩ := max_fold ns (if m > n then m else n)
    have h0 : n ≤ (if m > n then m else n) ∧ m ≤ (if m > n then m else n) := by split <;> omega
    have hb := h2 (if m > n then m else n) List.mem_cons_self
    refine ⟨?_, fun y hy => ?_⟩
    · rcases List.mem_cons.mp h1 with e | e
      · rw [e]; split <;> simp
      · exact List.mem_cons_of_mem _ (List.mem_cons_of_mem _ e)
    · rcases List.mem_cons.mp hy with rfl | hy
      · omega
      · rcases List.mem_cons.mp hy with rfl | hy
        · omega
        · exact h2 y (List.mem_cons_of_mem _ hy)
theorem call_maxX {X : Cx} {C : KM} (hc : X.calm = true) : CallR X (.builtin "max") (cD C maxX) := by
  intro pins s σ H xs us Q I r h
  obtain ⟨a, ds, d, rfl, k, ps, hd, q⟩ := h
  match ds, hd, ps with
  | [.lst o l], hd, ps =>
    simp only [maxX] at hd
    split at hd
    · rename_i n ns hi
      cases hd
      obtain ⟨v, rfl, r1, p1⟩ := one_rep ps
      obtain ⟨x, vs, rfl, h1, h2⟩ := rep_lst k p1
      have e := ints_rep hi h2
      subst e
      obtain ⟨m1, m2⟩ := max_fold ns n
      refine cr_max hc pins s σ a.H _ us Q I r ⟨x, n :: ns, rfl, SqL.of h1, by simp, fun m hm hu => ?_⟩
      have e : m = ns.foldl (fun a b => if b > a then b else a) n := Int.le_antisymm (m2 m hm) (hu _ m1)
      subst e
      exact q _ a (Grow.refl a) k (by simp [Rep])
    · cases hd
  | [.int i, .int j], hd, ps => exact call_maxD hc pins s σ a.H xs us Q I r ⟨a, _, d, rfl, k, ps, hd, q⟩
/-! ### a def, a method -/
theorem fn_okQ {C : KM} {N ps : List Str} {st : Stmt} {x qual : Str} {f : Addr} {fd : FuncData} {lv : Nat} (io : List Nat) (m : EM FlowD) (F : Fun C.K x qual st f fd) (S : FnScope N ps (defScope st)) (base : Heap)
    (body : ∀ (base : Heap) (cdv : Value) (A : Around) (outer : List Env) (s : Shared) (H : Hp) (E : XK) (vs : List V) (W : WX), Go (CxD C base N qual (defScope st) f cdv A outer s H E) ⟨C, vs, io⟩ W lv → PSs (CxD C base N qual (defScope st) f cdv A outer s H E) (defBody st) (tS ⟨C, vs, io⟩ W m)) :
    FnOk C.P C.w C.K C.mg base (L2.CX C.P C.w) (lv + 1) f fd ps (spD C (runD ps.length N.length io m)) := by
  have hpl : ps.length ≤ N.length := by have := congrArg List.length S.pre; rw [List.length_take] at this; omega
  refine F.okX S (fun vs H Q E h => ?_) fun cdv A outer s H vs Q E hr h => ?_
  · obtain ⟨a, ds, _, _, hl, _, h⟩ := h
    unfold runD at h
    by_cases z : ds.length = ps.length ∧ ownOk io ds 0 = true
    · rw [← hl, z.1]
    · rw [if_neg z] at h; exact h.elim
  · obtain ⟨a, ds, rfl, ok, hl, hrep, h⟩ := h
    have go : Go (CxD C base N qual (defScope st) f cdv A outer s a.H E) ⟨C, vs, io⟩ (fun cls d _ H => E cls d H) lv :=
      { p := rfl, w := rfl, k := rfl, m := rfl, n := S.nd, u := by have := hr.un; show (A.deeper _).units + 64 < cLine; omega, tk := takes_of rfl rfl rfl rfl, pw := passes_of rfl, rm := hr, cm := rfl }
    refine ⟨_, body base cdv A outer s a.H E vs _ go, ?_⟩
    unfold runD at h
    by_cases z : ds.length = ps.length ∧ ownOk io ds 0 = true
    · rw [if_pos z] at h
      have hlen : vs.length = ps.length := by rw [← hl, z.1]
      refine ⟨a, ds.map some ++ List.replicate (N.length - ps.length) none, rfl, ⟨ok, ?_, fun i d e => ?_, fun i hi v hv => ?_⟩, ?_⟩
      · unfold L2.start
        rw [List.length_append, List.length_append, List.length_map, List.length_map, List.length_replicate, List.length_replicate, z.1, hlen]
      · have hi : i < ds.length := by
          by_cases hi : i < ds.length
          · exact hi
          · rw [List.getElem?_append_right (by simpa using hi), List.getElem?_replicate] at e
            split at e <;> cases e
        have e2 : ds[i]? = some d := by
          rw [List.getElem?_append_left (by simpa using hi), List.getElem?_map] at e
          cases q : ds[i]? with
          | none => rw [q] at e; cases e
          | some d' => rw [q] at e; cases e; rfl
        obtain ⟨v, h1, h2⟩ := hrep i d e2
        refine ⟨v, ?_, h2⟩
        unfold L2.start
        rw [List.getElem?_append_left (by rw [List.length_map]; exact (List.getElem?_eq_some_iff.mp h1).1), List.getElem?_map, h1]; rfl
      · have hv : vs[i]? = some v := hv
        unfold L2.start
        rw [List.getElem?_append_left (by rw [List.length_map]; exact (List.getElem?_eq_some_iff.mp hv).1), List.getElem?_map, hv]; rfl
      · cases hm : m (ds.map some ++ List.replicate (N.length - ps.length) none) with
        | bad => rw [hm] at h; exact h.elim
        | exc y e => rw [hm] at h; exact fun b σ cls dd st r er => h b cls dd st r.ok (outs_rep r (Nat.le_of_eq hlen.symm)) er
        | ok fe =>
          obtain ⟨fl, e⟩ := fe
          rw [hm] at h
          cases fl with
          | next => exact fun b σ st r => h b .non st r.ok (outs_rep r (Nat.le_of_eq hlen.symm)) (by simp [Rep])
          | ret d => exact fun b σ v st r rp => h b v st r.ok (outs_rep r (Nat.le_of_eq hlen.symm)) rp
          | brk => exact h.elim
          | cont => exact h.elim
    · rw [if_neg z] at h; exact h.elim
theorem mk_def {C : KM} {N ps : List Str} {st : Stmt} {c qual : Str} {f u : Addr} {fd : FuncData} {lv : Nat} (io : List Nat) (m : EM FlowD) (F : Fun C.K "__init__" qual st f fd) (S : FnScope N ps (defScope st)) (hb : Binds C.K fd ps []) (hm : C.mg c = some (.ref u)) (M : Mk C.K u f)
    (body : ∀ (base : Heap) (cdv : Value) (A : Around) (outer : List Env) (s : Shared) (H : Hp) (E : XK) (vs : List V) (W : WX), Go (CxD C base N qual (defScope st) f cdv A outer s H E) ⟨C, vs, io⟩ W lv → PSs (CxD C base N qual (defScope st) f cdv A outer s H E) (defBody st) (tS ⟨C, vs, io⟩ W m)) :
    MkOk C (lv + 1) c (runD ps.length N.length io m) := ⟨u, f, fd, ps, hm, M, hb, fun base _ _ => fn_okQ io m F S base body⟩
end Mi
namespace Mi
open PySem PySem.Spec PyProof.Rows L2

/-! ### rows for simp, the later mirrors -/
section
variable {e env : EnvD} {m n : EM D} {ma mb : EM Arg} {mas : EM (List Arg)} {mt : EM Bool} {d d1 : D} {x y : Arg} {j : Nat} {c fl : Str} {cs : List Str} {xs : List Arg} {l ds : List D}
/-! a method of a slot's list -/
def metV (j : Nat) (f : List D → List D → Option (D × List D)) (e : EnvD) : Option (Option D) → Option (List D) → Res (D × EnvD)
  | some (some (.lst true l)), some ds => match f l ds with
    | some (d, l') => .ok (d, e.set j (some (.lst true l')))
    | none => .bad
  | _, _ => .bad
def kMet (j : Nat) (f : List D → List D → Option (D × List D)) : List Arg × EnvD → Res (D × EnvD) := fun (xs, e) => metV j f e (e[j]?) (Arg.gets e xs)
def met0 (j : Nat) (mas : EM (List Arg)) (f : List D → List D → Option (D × List D)) (env : EnvD) : Option (Option D) → Res (D × EnvD)
  | some (some (.lst true _)) => (mas env).bind (kMet j f)
  | _ => .bad
variable {f : List D → List D → Option (D × List D)}
@[simp] theorem e_met : mMet j mas f env = met0 j mas f env (env[j]?) := by
  unfold mMet met0
  rcases env[j]? with _ | _ | d
  · rfl
  · rfl
  · cases d <;> rfl
@[simp] theorem met0_ok : met0 j mas f env (some (some (.lst true l))) = (mas env).bind (kMet j f) := rfl
@[simp] theorem kMet_ok : kMet j f (xs, e) = metV j f e (e[j]?) (Arg.gets e xs) := rfl
def metR (j : Nat) (e : EnvD) : Option (D × List D) → Res (D × EnvD)
  | some (d, l') => .ok (d, e.set j (some (.lst true l')))
  | none => .bad
@[simp] theorem metV_ok : metV j f e (some (some (.lst true l))) (some ds) = metR j e (f l ds) := rfl
@[simp] theorem metR_ok : metR j e (some (d, l)) = .ok (d, e.set j (some (.lst true l))) := rfl
/-! stores -/
def sxV (j : Nat) (y : D) (e : EnvD) : Option (Option D) → Option D → Res (FlowD × EnvD)
  | some (some d), some i => oFlow ((setX d i (frzQ y)).map fun d' => e.set j (some d'))
  | _, _ => .bad
def kSx2 (j : Nat) (y : D) : Arg × EnvD → Res (FlowD × EnvD) := fun (x, e) => sxV j y e (e[j]?) (x.get e)
def kSxV (j : Nat) (mi : EM D) (y : D) (e : EnvD) : Option (Option D) → Res (FlowD × EnvD)
  | some (some _) => (mFrz mi e).bind (kSx2 j y)
  | _ => .bad
def kSx1 (j : Nat) (mi : EM D) : D × EnvD → Res (FlowD × EnvD) := fun (y, e) => kSxV j mi y e (e[j]?)
@[simp] theorem e_setX : mSetX j m n env = (n env).bind (kSx1 j m) := by
  unfold mSetX
  refine bind_ext fun z => ?_
  obtain ⟨y, e1⟩ := z
  show _ = kSxV j m y e1 (e1[j]?)
  dsimp only
  rcases e1[j]? with _ | _ | d
  · rfl
  · rfl
  · show (mFrz m e1).bind _ = (mFrz m e1).bind (kSx2 j y)
    refine bind_ext fun z => ?_
    obtain ⟨z, e2⟩ := z
    show _ = sxV j y e2 (e2[j]?) (z.get e2)
    dsimp only
    rcases e2[j]? with _ | _ | d'
    · rfl
    · rfl
    · cases z.get e2 with
      | none => rfl
      | some i =>
        show _ = oFlow ((setX d' i (frzQ y)).map fun d'' => e2.set j (some d''))
        dsimp only
        cases setX d' i (frzQ y) <;> rfl
@[simp] theorem kSx1_ok : kSx1 j m (d, e) = kSxV j m d e (e[j]?) := rfl
@[simp] theorem kSxV_ok : kSxV j m d1 e (some (some d)) = (mFrz m e).bind (kSx2 j d1) := rfl
@[simp] theorem kSx2_ok : kSx2 j d (x, e) = sxV j d e (e[j]?) (x.get e) := rfl
@[simp] theorem sxV_ok {i : D} : sxV j d1 e (some (some d)) (some i) = oFlow ((setX d i (frzQ d1)).map fun d' => e.set j (some d')) := rfl
def fsV (j : Nat) (cs : List Str) (fl : Str) (y : D) (e : EnvD) : Option (Option D) → Res (FlowD × EnvD)
  | some (some d) => oFlow ((fsetG cs fl d (frzQ y)).map fun d' => e.set j (some d'))
  | _ => .bad
def kFSet (j : Nat) (cs : List Str) (fl : Str) : D × EnvD → Res (FlowD × EnvD) := fun (y, e) => fsV j cs fl y e (e[j]?)
@[simp] theorem e_fset : mFSet j cs fl m env = (m env).bind (kFSet j cs fl) := by
  unfold mFSet
  refine bind_ext fun z => ?_
  obtain ⟨y, e⟩ := z
  show _ = fsV j cs fl y e (e[j]?)
  dsimp only
  rcases e[j]? with _ | _ | d
  · rfl
  · rfl
  · show _ = oFlow ((fsetG cs fl d (frzQ y)).map fun d' => e.set j (some d'))
    dsimp only
    cases fsetG cs fl d (frzQ y) <;> rfl
@[simp] theorem kFSet_ok : kFSet j cs fl (d, e) = fsV j cs fl d e (e[j]?) := rfl
@[simp] theorem fsV_ok : fsV j cs fl d1 e (some (some d)) = oFlow ((fsetG cs fl d (frzQ d1)).map fun d' => e.set j (some d')) := rfl
/-! a new instance -/
def mkV2 (n : Nat) (e' : EnvD) : Option (Option D) → Res (D × EnvD)
  | some (some d) => .ok (d, e'.take n)
  | _ => .bad
def mkV (n : Nat) : Res (D × EnvD) → Res (D × EnvD)
  | .ok (.non, e') => mkV2 n e' (e'[n]?)
  | .exc x e' => .exc x (e'.take n)
  | _ => .bad
def kMake (c : Str) (g : List D → Res (D × EnvD)) : List Arg × EnvD → Res (D × EnvD) := fun (xs, e) => mkV e.length (gCall g (.var e.length :: xs) (e ++ [some (.ins true c [] [])]) (Arg.gets (e ++ [some (.ins true c [] [])]) (.var e.length :: xs)))
variable {g : List D → Res (D × EnvD)}
@[simp] theorem e_make : mMake c g mas env = (mas env).bind (kMake c g) := by
  unfold mMake
  refine bind_ext fun z => ?_
  obtain ⟨xs, e⟩ := z
  show makeR c g xs e = mkV e.length _
  have hk := kCall_g (g := g) (xs := .var e.length :: xs) (e := e ++ [some (.ins true c [] [])])
  have hk : mCallR g (.var e.length :: xs) (e ++ [some (.ins true c [] [])]) = gCall g (.var e.length :: xs) (e ++ [some (.ins true c [] [])]) (Arg.gets (e ++ [some (.ins true c [] [])]) (.var e.length :: xs)) := hk
  unfold makeR
  rw [← hk]
  cases mCallR g (.var e.length :: xs) (e ++ [some (.ins true c [] [])]) with
  | bad => rfl
  | exc x e' => rfl
  | ok de =>
    obtain ⟨d0, e'⟩ := de
    cases d0 <;> first | rfl | skip
@[simp] theorem kMake_ok : kMake c g (xs, e) = mkV e.length (gCall g (.var e.length :: xs) (e ++ [some (.ins true c [] [])]) (Arg.gets (e ++ [some (.ins true c [] [])]) (.var e.length :: xs))) := rfl
@[simp] theorem mkV_ok {n : Nat} : mkV n (.ok (.non, e)) = mkV2 n e (e[n]?) := rfl
@[simp] theorem mkV_exc {n : Nat} {z : Exc} : mkV n (.exc z e) = .exc z (e.take n) := rfl
@[simp] theorem mkV2_ok {n : Nat} : mkV2 n e (some (some d)) = .ok (d, e.take n) := rfl
/-! dict comprehensions -/
def kDc2 (e : EnvD) (own : List Nat) : List (Key × D) × EnvD → Res (D × EnvD) := fun (l, e') => .ok (dicG l, restE e e' own)
def kDc (t : Tgt) (cond : EM Bool) (ek : EM Arg) (ev : EM D) (own : List Nat) : List D × EnvD → Res (D × EnvD) := fun (ds, e) => if fzL ds = true ∧ ds.length ≤ 1000 then (loopDc t cond ek ev own ds [] e).bind (kDc2 e own) else .bad
@[simp] theorem e_dc {mi : EM (List D)} {t : Tgt} {own : List Nat} : mDc mi t mt ma m own env = (mi env).bind (kDc t mt ma m own) := rfl
theorem kDc_ok {t : Tgt} {own : List Nat} (h1 : fzL ds = true) (h2 : ds.length ≤ 1000) : kDc t mt ma m own (ds, e) = (loopDc t mt ma m own ds [] e).bind (kDc2 e own) := by
  show (if fzL ds = true ∧ ds.length ≤ 1000 then _ else _) = _
  rw [if_pos ⟨h1, h2⟩]
@[simp] theorem kDc2_ok {e' : EnvD} {own : List Nat} {l : List (Key × D)} : kDc2 e own (l, e') = .ok (dicG l, restE e e' own) := rfl
end
/-! data -/
@[simp] theorem addD_i {i j : Int} : addD (.int i) (.int j) = some (.int (i + j)) := rfl
@[simp] theorem subD_i {i j : Int} : subD (.int i) (.int j) = some (.int (i - j)) := rfl
@[simp] theorem negD_i {i : Int} : negD (.int i) = some (.int (-i)) := rfl
@[simp] theorem intD_i {i : Int} : intD [.int i] = some (.int i) := rfl
@[simp] theorem ltD_i {i j : Int} : ltD (.int i) (.int j) = some (.bl (decide (i < j))) := rfl
@[simp] theorem leD_i {i j : Int} : leD (.int i) (.int j) = some (.bl (decide (i ≤ j))) := rfl
@[simp] theorem gtD_i {i j : Int} : gtD (.int i) (.int j) = some (.bl (decide (j < i))) := rfl
@[simp] theorem geD_i {i j : Int} : geD (.int i) (.int j) = some (.bl (decide (j ≤ i))) := rfl
@[simp] theorem eqD_i {i j : Int} : eqD (.int i) (.int j) = some (.bl (decide (i = j))) := by show some (D.bl (i == j)) = _; by_cases h : i = j <;> simp [h]
@[simp] theorem neD_i {i j : Int} : neD (.int i) (.int j) = some (.bl (!decide (i = j))) := by show some (D.bl (!(i == j))) = _; by_cases h : i = j <;> simp [h]
@[simp] theorem nisD_b {a b : Bool} : nisD (.bl a) (.bl b) = some (.bl (!(a == b))) := rfl
@[simp] theorem isD_b {a b : Bool} : isD (.bl a) (.bl b) = some (.bl (a == b)) := rfl
@[simp] theorem eqD_b {a b : Bool} : eqD (.bl a) (.bl b) = some (.bl (a == b)) := rfl
@[simp] theorem neD_s {a b : Str} : neD (.str a) (.str b) = some (.bl (!(a == b))) := rfl
@[simp] theorem eqD_s {a b : Str} : eqD (.str a) (.str b) = some (.bl (a == b)) := rfl
@[simp] theorem lenD_l {b : Bool} {l : List D} : lenD [.lst b l] = some (.int l.length) := rfl
@[simp] theorem lenD_t {l : List D} : lenD [.tup l] = some (.int l.length) := rfl
@[simp] theorem lenD_scr {l : List Int} : lenD [.scr l] = some (.int l.length) := rfl
@[simp] theorem lenD_d {b : Bool} {k w : List D} : lenD [.dic b k w] = some (.int k.length) := rfl
theorem modD_i {i j : Int} (h : 0 < j) : modD (.int i) (.int j) = some (.int (i % j)) := by simp [modD, h]
theorem fdivD_i {i j : Int} (h : 0 < j) (h2 : j.natAbs.log2 < 9000) : fdivD (.int i) (.int j) = some (.int (i / j)) := by simp [fdivD, h, h2]
theorem mulD_i {i j : Int} (h : j.natAbs < 18446744073709551616 ∨ i.natAbs < 18446744073709551616) : mulD (.int i) (.int j) = some (.int (i * j)) := by
  unfold mulD
  dsimp only
  rcases h with h | h <;> simp [h]
theorem ixD_lst {l : List D} {r : Int} {o : Bool} (h : 0 ≤ r) (h2 : r < l.length) (z : fzL l = true) : ∃ d ∈ l, ixD (.lst o l) (.int r) = some d := by
  have e : r.toNat < l.length := by omega
  have m : l[r.toNat] ∈ l := List.getElem_mem e
  exact ⟨l[r.toNat], m, by simp [ixD, atI, ixN, h, h2, pick, e, fzL_mem z _ m]⟩
end Mi
namespace Mi
open PySem PySem.Spec PyProof.Rows L2

/-! ### comprehensions whose turns change nothing -/
theorem set_none_idem {e : EnvD} {k : Nat} {o : Option D} : (e.set k o).set k none = e.set k none := by rw [List.set_set]
/- f the element, p the test, by the item -/
theorem loop_pure {k : Nat} {cond : EM Bool} {elt : EM D} {f : D → D} {p : D → Bool} {e0 : EnvD} (h0 : e0.set k none = e0) : ∀ (ds acc : List D) (e : EnvD), e.set k none = e0 →
    (∀ d ∈ ds, cond (e0.set k (some d)) = .ok (p d, e0.set k (some d))) → (∀ d ∈ ds, p d = true → elt (e0.set k (some d)) = .ok (f d, e0.set k (some d))) →
    ∃ e', loopL (.nm k) cond elt [k] ds acc e = .ok (acc ++ (ds.filter p).map (fun d => frzQ (f d)), e') ∧ e'.set k none = e0
  | [], acc, e, he, _, _ => ⟨e, by simp [loopL], he⟩
  | d :: ds, acc, e, he, hc, hf => by
    have w : wipeE e [k] = e0 := by simp only [wipeE]; exact he
    have hs : (e0.set k (some d)).set k none = e0 := by rw [set_none_idem]; exact h0
    have c1 := hc d List.mem_cons_self
    simp only [loopL, w, tg_nm, c1]
    cases hp : p d with
    | false =>
      obtain ⟨e', g1, g2⟩ := loop_pure h0 ds acc (e0.set k (some d)) hs (fun x hx => hc x (List.mem_cons_of_mem _ hx)) (fun x hx => hf x (List.mem_cons_of_mem _ hx))
      refine ⟨e', ?_, g2⟩
      rw [List.filter_cons_of_neg (by simp [hp])]
      exact g1
    | true =>
      have f1 := hf d List.mem_cons_self hp
      obtain ⟨e', g1, g2⟩ := loop_pure h0 ds (acc ++ [frzQ (f d)]) (e0.set k (some d)) hs (fun x hx => hc x (List.mem_cons_of_mem _ hx)) (fun x hx => hf x (List.mem_cons_of_mem _ hx))
      refine ⟨e', ?_, g2⟩
      rw [List.filter_cons_of_pos (by simp [hp]), List.map_cons]
      simp only [f1]
      rw [g1]
      simp
theorem lc_pureX {k : Nat} {elt : EM D} (f : D → D) {e : EnvD} {ds : List D} (hz : fzL ds = true) (hl : ds.length ≤ 100000) (hf : ∀ d ∈ ds, elt (e.set k (some d)) = .ok (f d, e.set k (some d))) :
    kLc (.nm k) mYes elt [k] (ds, e) = .ok (.lst true (ds.map fun d => frzQ (f d)), e.set k (restV e k)) := by
  rw [kLc_okX hz hl]
  have e0 : (e.set k none).set k none = e.set k none := set_none_idem
  have s1 : ∀ d, (e.set k none).set k (some d) = e.set k (some d) := fun d => by rw [List.set_set]
  obtain ⟨e', g1, g2⟩ := loop_pure (cond := mYes) (elt := elt) (f := f) (p := fun _ => true) e0 ds [] e rfl (fun d _ => by simp) (fun d hd _ => by rw [s1]; exact hf d hd)
  rw [g1, show ds.filter (fun _ => true) = ds from List.filter_eq_self.mpr fun _ _ => rfl]
  simp only [bind_ok, kLc2_ok, List.nil_append, restE]
  rw [show e'.set k (restV e k) = (e'.set k none).set k (restV e k) by rw [List.set_set], g2, List.set_set]
theorem lc_pure {k : Nat} {elt : EM D} (f : D → D) {e : EnvD} {ds : List D} (hz : fzL ds = true) (hl : ds.length ≤ 1000) (hf : ∀ d ∈ ds, elt (e.set k (some d)) = .ok (f d, e.set k (some d))) :
    kLc (.nm k) mYes elt [k] (ds, e) = .ok (.lst true (ds.map fun d => frzQ (f d)), e.set k (restV e k)) := lc_pureX f hz (by omega) hf
theorem lc_filterX {k : Nat} {cond : EM Bool} {elt : EM D} (f : D → D) (p : D → Bool) {e : EnvD} {ds : List D} (hz : fzL ds = true) (hl : ds.length ≤ 100000) (hc : ∀ d ∈ ds, cond (e.set k (some d)) = .ok (p d, e.set k (some d))) (hf : ∀ d ∈ ds, p d = true → elt (e.set k (some d)) = .ok (f d, e.set k (some d))) :
    kLc (.nm k) cond elt [k] (ds, e) = .ok (.lst true ((ds.filter p).map fun d => frzQ (f d)), e.set k (restV e k)) := by
  rw [kLc_okX hz hl]
  have e0 : (e.set k none).set k none = e.set k none := set_none_idem
  have s1 : ∀ d, (e.set k none).set k (some d) = e.set k (some d) := fun d => by rw [List.set_set]
  obtain ⟨e', g1, g2⟩ := loop_pure (cond := cond) (elt := elt) (f := f) (p := p) e0 ds [] e rfl (fun d hd => by rw [s1]; exact hc d hd) (fun d hd hp => by rw [s1]; exact hf d hd hp)
  rw [g1]
  simp only [bind_ok, kLc2_ok, List.nil_append, restE]
  rw [show e'.set k (restV e k) = (e'.set k none).set k (restV e k) by rw [List.set_set], g2, List.set_set]
theorem lc_filter {k : Nat} {cond : EM Bool} {elt : EM D} (f : D → D) (p : D → Bool) {e : EnvD} {ds : List D} (hz : fzL ds = true) (hl : ds.length ≤ 1000) (hc : ∀ d ∈ ds, cond (e.set k (some d)) = .ok (p d, e.set k (some d))) (hf : ∀ d ∈ ds, p d = true → elt (e.set k (some d)) = .ok (f d, e.set k (some d))) :
    kLc (.nm k) cond elt [k] (ds, e) = .ok (.lst true ((ds.filter p).map fun d => frzQ (f d)), e.set k (restV e k)) := lc_filterX f p hz (by omega) hc hf
theorem loop_dpure {k : Nat} {ek : EM Arg} {ev : EM D} {kf : D → Key} {f : D → D} {e0 : EnvD} (h0 : e0.set k none = e0) : ∀ (ds : List D) (acc : List (Key × D)) (e : EnvD), e.set k none = e0 →
    (∀ d ∈ ds, ∃ x, ek (e0.set k (some d)) = .ok (x, e0.set k (some d)) ∧ (x.get (e0.set k (some d))).bind keyD = some (kf d)) → (∀ d ∈ ds, ev (e0.set k (some d)) = .ok (f d, e0.set k (some d))) →
    ∃ e', loopDc (.nm k) mYes ek ev [k] ds acc e = .ok (mergeG (ds.map fun d => (kf d, frzQ (f d))) acc, e') ∧ e'.set k none = e0
  | [], acc, e, he, _, _ => ⟨e, by simp [loopDc, mergeG], he⟩
  | d :: ds, acc, e, he, hk, hf => by
    have w : wipeE e [k] = e0 := by simp only [wipeE]; exact he
    have hs : (e0.set k (some d)).set k none = e0 := by rw [set_none_idem]; exact h0
    obtain ⟨x, k1, k2⟩ := hk d List.mem_cons_self
    have f1 := hf d List.mem_cons_self
    obtain ⟨e', g1, g2⟩ := loop_dpure h0 ds (putG acc (kf d) (frzQ (f d))) (e0.set k (some d)) hs (fun x hx => hk x (List.mem_cons_of_mem _ hx)) (fun x hx => hf x (List.mem_cons_of_mem _ hx))
    refine ⟨e', ?_, g2⟩
    simp only [loopDc, w, tg_nm, e_yes, k1, f1, k2]
    rw [g1]; rfl
theorem dc_pure {k : Nat} {ek : EM Arg} {ev : EM D} (kf : D → Key) (f : D → D) {e : EnvD} {ds : List D} (hz : fzL ds = true) (hl : ds.length ≤ 1000) (hk : ∀ d ∈ ds, ∃ x, ek (e.set k (some d)) = .ok (x, e.set k (some d)) ∧ (x.get (e.set k (some d))).bind keyD = some (kf d)) (hf : ∀ d ∈ ds, ev (e.set k (some d)) = .ok (f d, e.set k (some d))) :
    kDc (.nm k) mYes ek ev [k] (ds, e) = .ok (dicG (mergeG (ds.map fun d => (kf d, frzQ (f d))) []), e.set k (restV e k)) := by
  rw [kDc_ok hz hl]
  have e0 : (e.set k none).set k none = e.set k none := set_none_idem
  have s1 : ∀ d, (e.set k none).set k (some d) = e.set k (some d) := fun d => by rw [List.set_set]
  obtain ⟨e', g1, g2⟩ := loop_dpure (ek := ek) (ev := ev) (kf := kf) (f := f) e0 ds [] e rfl (fun d hd => by rw [s1]; exact hk d hd) (fun d hd => by rw [s1]; exact hf d hd)
  rw [g1]
  simp only [bind_ok, kDc2_ok, restE]
  rw [show e'.set k (restV e k) = (e'.set k none).set k (restV e k) by rw [List.set_set], g2, List.set_set]
/-! keys that come once -/
theorem putG_new {ds : List (Key × D)} {k : Key} {d : D} (h : k ∉ ds.map (·.1)) : putG ds k d = ds ++ [(k, d)] := by
  unfold putG
  rw [if_neg]
  intro z
  rw [List.any_eq_true] at z
  obtain ⟨x, hx, hk⟩ := z
  exact h (List.mem_map.mpr ⟨x, hx, by simpa using hk⟩)
theorem mergeG_new : ∀ (ds acc : List (Key × D)), (acc.map (·.1) ++ ds.map (·.1)).Nodup → mergeG ds acc = acc ++ ds
  | [], acc, _ => by simp [mergeG]
  | x :: ds, acc, h => by
    have hx : x.1 ∉ acc.map (·.1) := by
      intro z
      rw [List.nodup_append] at h
      exact h.2.2 x.1 z x.1 (by simp) rfl
    show mergeG ds (putG acc x.1 x.2) = _
    rw [putG_new hx]
    rw [mergeG_new ds (acc ++ [(x.1, x.2)]) (by simpa using h)]
    simp
theorem allD_true {b : Bool} {l : List D} (h : ∀ d ∈ l, d = .bl true) : allD [.lst b l] = some (.bl true) := by
  have : blsOf l = some (List.replicate l.length true) := by
    clear b
    induction l with
    | nil => rfl
    | cons d l ih =>
      rw [h d List.mem_cons_self, blsOf, ih fun x hx => h x (List.mem_cons_of_mem _ hx)]
      rfl
  simp only [allD, this, Option.map_some]
  congr 2
  simp
end Mi
namespace Mi
open PySem PySem.Spec PyProof.Rows L2

/-! ### comprehensions with two generators, the second over a list or a tuple -/
abbrev FM (a c : Wd) : Prop := ∀ x o, a.F x = some o → c.F x = some o
def ItF (C : KM) (a : Wd) (ds : List D) (J : It) : Prop := ∀ c, Ok c → FM a c → (∀ i d, ds[i]? = some d → J.go i c.H ∧ ∀ x H', J.yld i c.H x H' → H' = c.H ∧ Rep C c 0 [] x d) ∧ J.stop ds.length c.H
theorem itF_lst {C : KM} {a : Wd} {l : List D} {x : Addr} {vs : List V} {r n : Nat} {p : List Nat} (k : Ok a) (z : fzL l = true) (hx : a.F x = some (.lst vs)) (h : RepL C a r p n vs l) : ItF C a l (Itl C.K x) := fun c ok st => by
  have hc : SqL C.K c.H x vs := SqL.of (ok.sub _ _ (st _ _ hx))
  refine ⟨fun i d e => ?_, ⟨vs, hc, by rw [h.len]; exact Nat.le_refl _⟩⟩
  obtain ⟨v, h1, h2⟩ := h.get e
  refine ⟨⟨vs, v, hc, h1⟩, fun y H' q => ?_⟩
  obtain ⟨rfl, q⟩ := q
  have e2 := q vs hc
  rw [h1] at e2; cases e2
  exact ⟨rfl, Rep.fz st d _ _ v (fzL_mem z d (List.mem_of_getElem? e)) h2⟩
theorem itF_tup {C : KM} {a : Wd} {l : List D} {x : Addr} {vs : List V} {r n : Nat} {p : List Nat} (k : Ok a) (z : fzL l = true) (hx : SqT C.K a.F x vs) (h : RepL C a r p n vs l) : ItF C a l (Itt C.K x) := fun c ok st => by
  have hc : SqT C.K c.H x vs := sqt_mono (fun y o h => ok.sub _ _ (st _ _ h)) hx
  refine ⟨fun i d e => ?_, ⟨vs, hc, by rw [h.len]; exact Nat.le_refl _⟩⟩
  obtain ⟨v, h1, h2⟩ := h.get e
  refine ⟨⟨vs, v, hc, h1⟩, fun y H' q => ?_⟩
  obtain ⟨rfl, q⟩ := q
  have e2 := q vs hc
  rw [h1] at e2; cases e2
  exact ⟨rfl, Rep.fz st d _ _ v (fzL_mem z d (List.mem_of_getElem? e)) h2⟩
def seq2 : D → Option (List D)
  | .lst false l => if fzL l = true then some l else none
  | .tup l => if fzL l = true then some l else none
  | _ => none
def loopL2 (t : Tgt) (cond : EM Bool) (ma1 : EM Arg) (t1 : Tgt) (cond1 : EM Bool) (elt : EM D) (own own1 : List Nat) : List D → List D → EnvD → Res (List D × EnvD)
  | [], acc, e => .ok (acc, e)
  | d :: ds, acc, e => match mTg t d (wipeE e own) with
    | none => .bad
    | some e1 => match cond e1 with
      | .ok (true, e2) => match ma1 e2 with
        | .ok (x, e3) => match (x.get e3).bind seq2 with
          | some ds1 => if acc.length + ds1.length ≤ 100000 then (loopL t1 cond1 elt own1 ds1 acc e3).bind fun (acc', e4) => loopL2 t cond ma1 t1 cond1 elt own own1 ds acc' e4 else .bad
          | none => .bad
        | _ => .bad
      | .ok (false, e2) => loopL2 t cond ma1 t1 cond1 elt own own1 ds acc e2
      | _ => .bad
def mLc2 (mi : EM (List D)) (t : Tgt) (cond : EM Bool) (ma1 : EM Arg) (t1 : Tgt) (cond1 : EM Bool) (elt : EM D) (own own1 : List Nat) : EM D := fun env => (mi env).bind fun (ds, e) =>
  if fzL ds = true then (loopL2 t cond ma1 t1 cond1 elt own own1 ds [] e).bind fun (l, e') => .ok (.lst true l, restE e e' own) else .bad
theorem res_assoc {α β γ : Type} (r : Res α) (f : α → Res β) (g : β → Res γ) : (r.bind f).bind g = r.bind fun x => (f x).bind g := by cases r <;> rfl
theorem wipe_sub (σ : L2.St) {own : List Nat} : ∀ vs : List Nat, (∀ i ∈ vs, i ∈ own) → wipe (wipe σ vs) own = wipe σ own
  | [], _ => rfl
  | v :: vs, h => by
    show wipe ((wipe σ vs).set v none) own = _
    rw [wipe_set (h v (by simp)), wipe_sub σ vs fun i hi => h i (by simp [hi])]
theorem wipeE_set {e : EnvD} {i : Nat} {v : Option D} : ∀ {own : List Nat}, i ∈ own → wipeE (e.set i v) own = wipeE e own
  | k :: vs, h => by
    unfold wipeE
    by_cases q : k = i
    · subst q
      by_cases hm : k ∈ vs
      · rw [wipeE_set hm]
      · have : ∀ {vs : List Nat}, k ∉ vs → wipeE (e.set k v) vs = (wipeE e vs).set k v := fun {vs} => by
          induction vs with
          | nil => intro _; rfl
          | cons u us ih =>
            intro h
            simp only [List.mem_cons, not_or] at h
            unfold wipeE
            rw [ih h.2, List.set_comm _ _ h.1]
        rw [this hm, List.set_set]
    · rw [wipeE_set (by
        rcases List.mem_cons.mp h with h | h
        · exact absurd h.symm q
        · exact h)]
theorem wipeE_sub (e : EnvD) {own : List Nat} : ∀ vs : List Nat, (∀ i ∈ vs, i ∈ own) → wipeE (wipeE e vs) own = wipeE e own
  | [], _ => rfl
  | v :: vs, h => by
    show wipeE ((wipeE e vs).set v none) own = _
    rw [wipeE_set (h v (by simp)), wipeE_sub e vs fun i hi => h i (by simp [hi])]
theorem small100k {n : Nat} (h : n < 100001) : n < sizeLine := by rw [show sizeLine = 16777216 from sizeLine_eq]; omega
section
variable {G : Gm} {W : WX} {σ : L2.St} {H : Hp} {Q : VK}
theorem lc2_w {mi : EM (List D)} {t t1 : Tgt} {cond cond1 : EM Bool} {ma1 : EM Arg} {elt : EM D} {own own1 : List Nat} (hf : Tgt.off G.io t) (hf1 : Tgt.off G.io t1) (ho : ∀ i ∈ G.io, i ∉ own) (hown : Tgt.ins own t) (hown1 : Tgt.ins own1 t1) (hsub : ∀ i ∈ own1, i ∈ own)
    (h : tE G W (mLc2 mi t cond ma1 t1 cond1 elt own own1) σ H Q) :
    tLc2 (tI G W mi) (gT G.C.K t) (tT G W0 cond) (fun σ H R => iList G.C.K (tArg G W0 ma1) σ H R ∨ iTup G.C.K (tArg G W0 ma1) σ H R) (gT G.C.K t1) (tT G W0 cond1) (tE G W0 elt) own own1 σ H Q := by
  have ho1 : ∀ i ∈ G.io, i ∉ own1 := fun i hi hm => ho i hi (hsub i hm)
  obtain ⟨a, env, rfl, rel, post⟩ := h
  refine ⟨a, env, rfl, rel, post.bind.imp fun ds e b st r p => ?_⟩
  dsimp only at p
  split at p
  · rename_i z
    refine ⟨z, fun J hJ A hA => ?_⟩
    have fA : b.F A = none := by
      cases q : b.F A with
      | none => rfl
      | some u => have := r.ok.sub A u q; rw [hA] at this; cases this
    have tA : b.t A = none := by
      cases q : b.t A with
      | none => rfl
      | some u => obtain ⟨_, u, h⟩ := r.ok.own A u q; rw [hA] at h; cases h
    let K : List D × EnvD → Res (D × EnvD) := fun (l, e') => .ok (.lst true l, restE e e' own)
    let L : List D → List D → EnvD → Res (List D × EnvD) := loopL2 t cond ma1 t1 cond1 elt own own1
    refine ⟨fun i m H => m = ds.length - i ∧ i ≤ ds.length ∧ ∃ c acc e1, c.H = H ∧ GrowL G.C b c A acc ∧ e1.length = e.length ∧ RelE G c (wipe σ own) (wipeE e1 own) ∧
      PostR G W σ b ((L (ds.drop i) acc e1).bind K) fun d _ b => ∀ v, Rep G.C b 0 [] v d → Q v b.H, ⟨_, rfl, Nat.zero_le _, putA b A (.lst []), [], e, rfl, ?_, rfl, ?_, p⟩, ?_⟩
    · refine ⟨fun x o h t => ?_, putA_ok r.ok fA, fA, tA, ⟨[], upd_same, by simp [RepL]⟩, rfl⟩
      have ne : x ≠ A := by rintro rfl; rw [hA] at h; cases h
      exact ⟨by show upd b.H A _ x = _; rw [upd_ne ne]; exact h, t, rfl⟩
    · exact putA_rel (r.wiped ho) fA tA
    · rintro i m H ⟨rfl, hi, c, acc, e1, rfl, gl, hel, rc, pc⟩
      obtain ⟨hgo, hstop⟩ := hJ c gl.ok gl.st
      by_cases hlt : i < ds.length
      · obtain ⟨d, hd⟩ : ∃ d, ds[i]? = some d := ⟨_, List.getElem?_eq_getElem hlt⟩
        obtain ⟨h1, h2⟩ := hgo i d hd
        have hdrop : ds.drop i = d :: ds.drop (i + 1) := by
          rw [List.drop_eq_getElem_cons hlt]
          rw [List.getElem?_eq_getElem hlt] at hd
          cases hd; rfl
        have pc : PostR G W σ b ((loopL2 t cond ma1 t1 cond1 elt own own1 (ds.drop i) acc e1).bind K) fun d _ b => ∀ v, Rep G.C b 0 [] v d → Q v b.H := pc
        rw [hdrop] at pc
        simp only [loopL2] at pc
        refine .inr ⟨h1, fun H' => ∃ c acc e1, c.H = H' ∧ GrowL G.C b c A acc ∧ e1.length = e.length ∧ RelE G c (wipe σ own) (wipeE e1 own) ∧
          PostR G W σ b ((L (ds.drop (i + 1)) acc e1).bind K) fun d _ b => ∀ v, Rep G.C b 0 [] v d → Q v b.H, fun H' q => ⟨ds.length - (i + 1), by omega, rfl, hlt, q⟩, fun x H' y => ?_⟩
        obtain ⟨c1, rfl, gr, ok1, rp⟩ := h2 x H' y
        cases ht : mTg t d (wipeE e1 own) with
        | none => rw [ht] at pc; exact (show False from pc).elim
        | some e2 =>
          rw [ht] at pc
          dsimp only at pc
          have gl1 := gl.next gr.step ok1
          refine gT_mono t (ins_w t hown _ x c1.H (fun σ2 H2 => H2 = c1.H ∧ RelE G c1 σ2 e2) (tg_w t hf (rc.grow gr ok1) (fzL_mem z d (List.mem_of_getElem? hd)) rp ht fun σ2 r2 => ⟨rfl, r2⟩)) fun σ2 H2 ⟨hw, hH, r2⟩ => ?_
          subst hH
          rw [wipe_wipe] at hw
          refine ⟨hw, c1, e2, rfl, r2, ?_⟩
          have hlen : ∀ {c : Wd} {e' : EnvD}, RelE G c σ2 e' → e'.length = e.length := fun {c e'} r' => by
            have := congrArg List.length hw
            rw [wipe_length, wipe_length] at this
            rw [r'.len, this, r.len]
          cases hc : cond e2 with
          | bad => rw [hc] at pc; exact (show False from pc).elim
          | exc x e3 => rw [hc] at pc; exact (show False from pc).elim
          | ok be =>
            obtain ⟨bb, e3⟩ := be
            rw [hc] at pc
            intro c2 st2 r3
            cases bb with
            | false =>
              rw [if_neg Bool.false_ne_true]
              exact ⟨c2, acc, e3, rfl, gl1.next st2 r3.ok, hlen r3, r3.rewiped hw ho, pc⟩
            | true =>
              rw [if_pos rfl]
              dsimp only at pc
              cases hm : ma1 e3 with
              | bad => rw [hm] at pc; exact (show False from pc).elim
              | exc x e4 => rw [hm] at pc; exact (show False from pc).elim
              | ok xe =>
                obtain ⟨y, e4⟩ := xe
                rw [hm] at pc
                dsimp only at pc
                cases hs : (y.get e4).bind seq2 with
                | none => rw [hs] at pc; exact (show False from pc).elim
                | some ds1 =>
                  rw [hs] at pc
                  dsimp only at pc
                  split at pc
                  · rename_i hbd
                    rw [res_assoc] at pc
                    -- the inner loop
                    have inner : ∀ (c3 : Wd) (J1 : It), Step c2 c3 → RelE G c3 σ2 e4 → fzL ds1 = true → ItF G.C c3 ds1 J1 → ∃ W1 : Nat → Nat → Hp → Prop, (∃ m, W1 0 m c3.H) ∧ ∀ j k H, W1 j k H →
                        (J1.stop j H ∧ ∃ c acc e1, c.H = H ∧ GrowL G.C b c A acc ∧ e1.length = e.length ∧ RelE G c (wipe σ own) (wipeE e1 own) ∧ PostR G W σ b ((L (ds.drop (i + 1)) acc e1).bind K) fun d _ b => ∀ v, Rep G.C b 0 [] v d → Q v b.H) ∨
                        (J1.go j H ∧ ∃ Nx1 : Hp → Prop, (∀ H', Nx1 H' → ∃ k', k' < k ∧ W1 (j + 1) k' H') ∧ ∀ x H', J1.yld j H x H' → gT G.C.K t1 x (wipe σ2 own1) H' fun σ3 H5 => wipe σ3 own1 = wipe σ2 own1 ∧ tT G W0 cond1 σ3 H5 fun b H6 =>
                          if b = true then tE G W0 elt σ3 H6 fun y H7 => ∃ acc, H7 A = some (.lst acc) ∧ acc.length < sizeLine ∧ Nx1 (upd H7 A (.lst (acc ++ [y]))) else Nx1 H6) := by
                      intro c3 J1 st3 r4 z1 hJ1
                      have gl3 := (gl1.next st2 r3.ok).next st3 r4.ok
                      refine ⟨fun j k H => k = ds1.length - j ∧ j ≤ ds1.length ∧ ∃ c' acc' e', c'.H = H ∧ GrowL G.C b c' A acc' ∧ acc'.length ≤ acc.length + j ∧ e'.length = e.length ∧ FM c3 c' ∧ RelE G c' (wipe σ2 own1) (wipeE e' own1) ∧
                        PostR G W σ b ((loopL t1 cond1 elt own1 (ds1.drop j) acc' e').bind fun x => (L (ds.drop (i + 1)) x.1 x.2).bind K) fun d _ b => ∀ v, Rep G.C b 0 [] v d → Q v b.H,
                        ⟨_, rfl, Nat.zero_le _, c3, acc, e4, rfl, gl3, Nat.le_refl _, hlen r4, fun _ _ h => h, r4.wiped ho1, pc⟩, ?_⟩
                      rintro j k H ⟨rfl, hj, c', acc', e', rfl, gl', hacc', hel', fm, rc', pc'⟩
                      obtain ⟨hgo1, hstop1⟩ := hJ1 c' gl'.ok fm
                      by_cases hlt1 : j < ds1.length
                      · obtain ⟨d1, hd1⟩ : ∃ d, ds1[j]? = some d := ⟨_, List.getElem?_eq_getElem hlt1⟩
                        obtain ⟨k1, k2⟩ := hgo1 j d1 hd1
                        have hdrop1 : ds1.drop j = d1 :: ds1.drop (j + 1) := by
                          rw [List.drop_eq_getElem_cons hlt1]
                          rw [List.getElem?_eq_getElem hlt1] at hd1
                          cases hd1; rfl
                        rw [hdrop1] at pc'
                        simp only [loopL] at pc'
                        refine .inr ⟨k1, fun H' => ∃ c' acc' e', c'.H = H' ∧ GrowL G.C b c' A acc' ∧ acc'.length ≤ acc.length + (j + 1) ∧ e'.length = e.length ∧ FM c3 c' ∧ RelE G c' (wipe σ2 own1) (wipeE e' own1) ∧
                          PostR G W σ b ((loopL t1 cond1 elt own1 (ds1.drop (j + 1)) acc' e').bind fun x => (L (ds.drop (i + 1)) x.1 x.2).bind K) fun d _ b => ∀ v, Rep G.C b 0 [] v d → Q v b.H,
                          fun H' q => ⟨ds1.length - (j + 1), by omega, rfl, hlt1, q⟩, fun x H' y => ?_⟩
                        obtain ⟨rfl, rp1⟩ := k2 x H' y
                        cases ht1 : mTg t1 d1 (wipeE e' own1) with
                        | none => rw [ht1] at pc'; exact (show False from pc').elim
                        | some e5 =>
                          rw [ht1] at pc'
                          dsimp only at pc'
                          refine gT_mono t1 (ins_w t1 hown1 _ x c'.H (fun σ3 H2 => H2 = c'.H ∧ RelE G c' σ3 e5) (tg_w t1 hf1 rc' (fzL_mem z1 d1 (List.mem_of_getElem? hd1)) rp1 ht1 fun σ3 r2 => ⟨rfl, r2⟩)) fun σ3 H2 ⟨hw1, hH, r5⟩ => ?_
                          subst hH
                          rw [wipe_wipe] at hw1
                          refine ⟨hw1, c', e5, rfl, r5, ?_⟩
                          have hlen1 : ∀ {c : Wd} {e' : EnvD}, RelE G c σ3 e' → e'.length = e.length := fun {c e'} r' => by
                            have q1 := congrArg List.length hw1
                            have q2 := congrArg List.length hw
                            rw [wipe_length, wipe_length] at q1 q2
                            rw [r'.len, q1, q2, r.len]
                          cases hc1 : cond1 e5 with
                          | bad => rw [hc1] at pc'; exact (show False from pc').elim
                          | exc x e3 => rw [hc1] at pc'; exact (show False from pc').elim
                          | ok be =>
                            obtain ⟨b1, e6⟩ := be
                            rw [hc1] at pc'
                            intro c4 st4 r6
                            have fm4 : FM c3 c4 := fun x o h => st4.f gl'.ok (fm x o h)
                            cases b1 with
                            | false =>
                              show if false = true then _ else _
                              rw [if_neg Bool.false_ne_true]
                              exact ⟨c4, acc', e6, rfl, gl'.next st4 r6.ok, by omega, hlen1 r6, fm4, r6.rewiped hw1 ho1, pc'⟩
                            | true =>
                              show if true = true then _ else _
                              rw [if_pos rfl]
                              refine ⟨c4, e6, rfl, r6, ?_⟩
                              dsimp only at pc'
                              cases he : elt e6 with
                              | bad => rw [he] at pc'; exact (show False from pc').elim
                              | exc x e4 => rw [he] at pc'; exact (show False from pc').elim
                              | ok ye =>
                                obtain ⟨yy, e7⟩ := ye
                                rw [he] at pc'
                                intro c5 st5 r7 v rv
                                have gl5 := (gl'.next st4 r6.ok).next st5 r7.ok
                                obtain ⟨vs, q1, q2⟩ := gl5.h
                                obtain ⟨zy, rq⟩ := frzQ_rep (s := 0) (q := []) r7.ok rv
                                have glf := gl5.next (frzW_step (r := 0)) (frzW_ok r7.ok)
                                have gl6 := glf.push (vs := vs) hA q1 zy rq
                                refine ⟨vs, q1, ?_, putA (frzW c5 0) A (.lst (vs ++ [v])), acc' ++ [frzQ yy], e7, rfl, gl6, ?_, hlen1 r7, ?_, ?_, pc'⟩
                                · rw [q2.len]; exact small100k (by omega)
                                · rw [List.length_append]; simp only [List.length_cons, List.length_nil]; omega
                                · intro x o h
                                  have h5 : c5.F x = some o := st5.f r6.ok (fm4 x o h)
                                  exact (frzW_step (r := 0)).f r7.ok h5
                                · exact putA_rel ((r7.rewiped hw1 ho1).frz0) glf.f glf.t
                      · have e2 : j = ds1.length := by omega
                        subst e2
                        rw [List.drop_length] at pc'
                        refine .inl ⟨hstop1, c', acc', e', rfl, gl', hel', ?_, pc'⟩
                        have := rc'.wiped ho
                        rw [wipe_sub σ2 own1 hsub, wipeE_sub e' own1 hsub, hw] at this
                        exact this
                    cases hy : y.get e4 with
                    | none => rw [hy] at hs; cases hs
                    | some dd =>
                      rw [hy] at hs
                      have hs : seq2 dd = some ds1 := hs
                      match dd, hy, hs with
                      | .lst false l, hy, hs =>
                        simp only [seq2] at hs
                        split at hs
                        · rename_i z1; cases hs
                          refine .inl ⟨c2, e3, rfl, r3, ?_⟩
                          rw [hm]
                          intro c3 st3 r4 v ar
                          obtain ⟨r1, p1⟩ := ar.rep r4 hy
                          have p1' := p1
                          simp only [Rep] at p1'
                          obtain ⟨x2, vs, rfl, hx2, hl⟩ := p1'
                          rw [if_neg Bool.false_ne_true] at hx2
                          exact ⟨x2, rfl, ⟨_, SqL.of (r4.ok.sub _ _ hx2.1)⟩, inner c3 _ st3 r4 z1 (itF_lst r4.ok z1 hx2.1 hl)⟩
                        · cases hs
                      | .tup l, hy, hs =>
                        simp only [seq2] at hs
                        split at hs
                        · rename_i z1; cases hs
                          refine .inr ⟨c2, e3, rfl, r3, ?_⟩
                          rw [hm]
                          intro c3 st3 r4 v ar
                          obtain ⟨r1, p1⟩ := ar.rep r4 hy
                          have p1' := p1
                          simp only [Rep] at p1'
                          obtain ⟨x2, vs, rfl, hx2, hl⟩ := p1'
                          exact ⟨x2, rfl, ⟨_, sqt_mono r4.ok.sub hx2.sq⟩, inner c3 _ st3 r4 z1 (itF_tup r4.ok z1 hx2.sq hl)⟩
                        · cases hs
                  · exact (show False from pc).elim
      · have e2 : i = ds.length := by omega
        subst e2
        have pc : PostR G W σ b ((loopL2 t cond ma1 t1 cond1 elt own own1 (ds.drop ds.length) acc e1).bind K) fun d _ b => ∀ v, Rep G.C b 0 [] v d → Q v b.H := pc
        rw [List.drop_length] at pc
        refine .inl ⟨hstop, ?_⟩
        obtain ⟨vs, k1, k2⟩ := gl.h
        have pc : ∀ b', Step b b' → RelE G b' σ (restE e e1 own) → ∀ v, Rep G.C b' 0 [] v (.lst true acc) → Q v b'.H := pc
        have rel' := r.unwiped rc gl.st hel
        refine pc (tagA c A) (fun x o h t => ?_) ?_ (.ref A) ?_
        · obtain ⟨g1, g2, g3⟩ := gl.st x o h t
          have ne : x ≠ A := by rintro rfl; rw [hA] at h; cases h
          exact ⟨g1, by show (if x = A then some (0, []) else c.t x) = none; rw [if_neg ne]; exact g2, g3⟩
        · exact ⟨tagA_ok gl.ok gl.f k1, rel'.len, fun i d h => let ⟨v, e, q⟩ := rel'.slot i d h; ⟨v, e, tagA_to gl.t q⟩, rel'.prm⟩
        · simp only [Rep]
          refine ⟨A, vs, rfl, ?_, ?_⟩
          · rw [if_pos trivial]
            exact ⟨by show (if A = A then some (0, []) else c.t A) = _; rw [if_pos rfl], k1⟩
          · exact repL_to (fun d j v _ h => tagA_to gl.t h) gl.z k2
  · exact (show False from p).elim
end
end Mi
namespace Mi
open PySem PySem.Spec PyProof.Rows L2
/-! ### rules: two generators -/
section
variable {X : Cx} {G : Gm} {W : WX} {lv : Nat} {e tg tg1 iter1 : Expr} {m : EM D} {ma1 : EM Arg} {mt mt1 : EM Bool} {mi : EM (List D)} {pos p : Pos} {x : Str}
theorem ri_seq2 (s : St0 X G) (ha : PE X e (tArg G W ma1)) : PI X tg e (fun σ H R => iList G.C.K (tArg G W ma1) σ H R ∨ iTup G.C.K (tArg G W ma1) σ H R) := by
  have := pi_or (tg := tg) (pi_list ha) (pi_tup ha)
  rw [s.k] at this
  exact this
theorem r_lc2 {elt : Expr} {ifs ifs1 : List Expr} {scope : Scope} (s : Go X G W lv) (own : List (Str × Nat)) (own1 : List Nat) (t t1 : Tgt) (hio : Tgt.off G.io t) (hio1 : Tgt.off G.io t1) (hio2 : ∀ i ∈ G.io, i ∉ own.map (·.2)) (hown : Tgt.ins (own.map (·.2)) t) (hown1 : Tgt.ins own1 t1) (hsub : ∀ i ∈ own1, i ∈ own.map (·.2))
    (hi : PI X tg e (tI G W mi)) (ok : BlkOk X.N X.env.scope scope own)
    (hg : ∀ (s : Shared) (H : Hp) (C : Addr) (cl : List (Str × Addr)) (fp : List Addr), PG (X.blk s H scope (compEnvC scope cl C X.env) fp) tg (gT G.C.K t))
    (ht : ∀ (s : Shared) (H : Hp) (C : Addr) (cl : List (Str × Addr)) (fp : List Addr), Go (X.blk s H scope (compEnvC scope cl C X.env) fp) G W0 lv → PTs (X.blk s H scope (compEnvC scope cl C X.env) fp) ifs (tT G W0 mt))
    (hi1 : ∀ (s : Shared) (H : Hp) (C : Addr) (cl : List (Str × Addr)) (fp : List Addr), Go (X.blk s H scope (compEnvC scope cl C X.env) fp) G W0 lv → PE (X.blk s H scope (compEnvC scope cl C X.env) fp) iter1 (tArg G W0 ma1))
    (hg1 : ∀ (s : Shared) (H : Hp) (C : Addr) (cl : List (Str × Addr)) (fp : List Addr), PG (X.blk s H scope (compEnvC scope cl C X.env) fp) tg1 (gT G.C.K t1))
    (ht1 : ∀ (s : Shared) (H : Hp) (C : Addr) (cl : List (Str × Addr)) (fp : List Addr), Go (X.blk s H scope (compEnvC scope cl C X.env) fp) G W0 lv → PTs (X.blk s H scope (compEnvC scope cl C X.env) fp) ifs1 (tT G W0 mt1))
    (he : ∀ (s : Shared) (H : Hp) (C : Addr) (cl : List (Str × Addr)) (fp : List Addr), Go (X.blk s H scope (compEnvC scope cl C X.env) fp) G W0 lv → PE (X.blk s H scope (compEnvC scope cl C X.env) fp) elt (tE G W0 m)) (hs : ∀ x, foldedSetIterable e X.env x = pure x := by intro _; rfl) (hs1 : ∀ env x, foldedSetIterable iter1 env x = pure x := by intro _ _; rfl) :
    PE X (.ListComp elt [⟨tg, e, ifs, 0⟩, ⟨tg1, iter1, ifs1, 0⟩] scope pos) (tE G W (mLc2 mi t mt ma1 t1 mt1 m (own.map (·.2)) own1)) :=
  (pe_lc2 s.cm s.n hi ok hsub hg (fun s0 H C cl fp => ht s0 H C cl fp (s.blk ..)) (fun s0 H C cl fp => ri_seq2 (s.blk ..).toSt0 (hi1 s0 H C cl fp (s.blk ..))) hg1 (fun s0 H C cl fp => ht1 s0 H C cl fp (s.blk ..)) (fun s0 H C cl fp => he s0 H C cl fp (s.blk ..)) hs hs1).weak fun _ _ _ q => lc2_w hio hio1 hio2 hown hown1 hsub q
theorem rs_lc2 {elt : Expr} {ifs ifs1 : List Expr} {scope : Scope} {py : Pos} (s : Go X G W lv) (i : Nat) (own : List (Str × Nat)) (own1 : List Nat) (t t1 : Tgt) (hioi : i ∉ G.io) (hio : Tgt.off G.io t) (hio1 : Tgt.off G.io t1) (hio2 : ∀ i ∈ G.io, i ∉ own.map (·.2)) (hown : Tgt.ins (own.map (·.2)) t) (hown1 : Tgt.ins own1 t1) (hsub : ∀ i ∈ own1, i ∈ own.map (·.2))
    (hy : X.N[i]? = some x) (hyl : X.env.scope.names.lookup x = some .local) (hsw : swapsWith (.ListComp elt [⟨tg, e, ifs, 0⟩, ⟨tg1, iter1, ifs1, 0⟩] scope p) (some (.Name x py)) pos.line X.env = pure true) (hi : PI X tg e (tI G W mi)) (ok : BlkOk X.N X.env.scope scope own)
    (hg : ∀ (s : Shared) (H : Hp) (C : Addr) (cl : List (Str × Addr)) (fp : List Addr), PG (X.blk s H scope (compEnvC scope cl C X.env) fp) tg (gT G.C.K t))
    (ht : ∀ (s : Shared) (H : Hp) (C : Addr) (cl : List (Str × Addr)) (fp : List Addr), Go (X.blk s H scope (compEnvC scope cl C X.env) fp) G W0 lv → PTs (X.blk s H scope (compEnvC scope cl C X.env) fp) ifs (tT G W0 mt))
    (hi1 : ∀ (s : Shared) (H : Hp) (C : Addr) (cl : List (Str × Addr)) (fp : List Addr), Go (X.blk s H scope (compEnvC scope cl C X.env) fp) G W0 lv → PE (X.blk s H scope (compEnvC scope cl C X.env) fp) iter1 (tArg G W0 ma1))
    (hg1 : ∀ (s : Shared) (H : Hp) (C : Addr) (cl : List (Str × Addr)) (fp : List Addr), PG (X.blk s H scope (compEnvC scope cl C X.env) fp) tg1 (gT G.C.K t1))
    (ht1 : ∀ (s : Shared) (H : Hp) (C : Addr) (cl : List (Str × Addr)) (fp : List Addr), Go (X.blk s H scope (compEnvC scope cl C X.env) fp) G W0 lv → PTs (X.blk s H scope (compEnvC scope cl C X.env) fp) ifs1 (tT G W0 mt1))
    (he : ∀ (s : Shared) (H : Hp) (C : Addr) (cl : List (Str × Addr)) (fp : List Addr), Go (X.blk s H scope (compEnvC scope cl C X.env) fp) G W0 lv → PE (X.blk s H scope (compEnvC scope cl C X.env) fp) elt (tE G W0 m)) (hs : ∀ x, foldedSetIterable e X.env x = pure x := by intro _; rfl) (hs1 : ∀ env x, foldedSetIterable iter1 env x = pure x := by intro _ _; rfl) :
    PS X (.Assign [.Name x py] (.ListComp elt [⟨tg, e, ifs, 0⟩, ⟨tg1, iter1, ifs1, 0⟩] scope p) pos) (tS G W (mAsg i (mLc2 mi t mt ma1 t1 mt1 m (own.map (·.2)) own1))) :=
  (ps_setLc2 s.cm s.n hy hyl hsw hi ok hsub hg (fun s0 H C cl fp => ht s0 H C cl fp (s.blk ..)) (fun s0 H C cl fp => ri_seq2 (s.blk ..).toSt0 (hi1 s0 H C cl fp (s.blk ..))) hg1 (fun s0 H C cl fp => ht1 s0 H C cl fp (s.blk ..)) (fun s0 H C cl fp => he s0 H C cl fp (s.blk ..)) hs hs1).weak fun D σ H q => by
    obtain ⟨a, env, h1, rel, post⟩ := asg_w hioi q
    exact lc2_w hio hio1 hio2 hown hown1 hsub ⟨a, env, h1, rel, post⟩
end
end Mi
namespace Mi
open PySem PySem.Spec PyProof.Rows L2
/-! ### more of lists: sorted of a tuple, list of a text, reverse, insert, isinstance of two types, xs[::-1] -/
section
variable {X : Cx}
theorem call_sortedTup : CallR X (.builtin "sorted") (fun xs H Q => ∃ (a : Addr) (ks : List Str), xs = [.ref a] ∧ SqT X.K H a (ks.map V.str) ∧ ks.length < 64 ∧
    ∀ ys p, ys.Perm ks → sortedS ys = true → H p = none → Q (.ref p) (upd H p (.lst (ys.map V.str)))) := by
  intro pins s σ H xs us Q I r q
  obtain ⟨a, ks, ex, hd, h64, q⟩ := q
  subst ex
  obtain ⟨u, eu, rx⟩ := vals1 r
  subst eu
  cases rx
  obtain ⟨its, rv, pl, hz⟩ := I.tuple hd
  obtain ⟨o, ho, hc, n, hdt⟩ := pl
  have hlen0 := rv.length
  rw [List.length_map] at hlen0
  refine Calls.call_function_entry PyProof.Rows.kind_sorted PyProof.Rows.plain_sorted PyProof.Rows.entry_sorted (PyProof.Rows.args_sorted1 _) ?_
  unfold Builtin.«sorted»
  refine wpAny_bind (m := checkCount "sorted" 1 1 _) (wpAny_pure ?_)
  refine wpAny_bind (wpAny_collect_seq a (.inr rfl) ho hc hdt (fun h' hk => ?_) (by rw [List.size_toArray, ← hlen0, sizeLine_eq]; omega))
  have hS : StrsAre its ks := rv.strs
  have hal : its.length = ks.length := hlen0.symm
  have I1 : Inv X pins σ H { s with heap := h' } := I.kept (t' := s.toks) hk
  rw [show its.toArray.toList = its from rfl]
  refine wpAny_bind (wpAny_newList ?_ (by rw [hal, sizeLine_eq]; omega))
  have hoL : (h'.push (seqObj "list" its.toArray 0)).get? h'.objs.size = some (seqObj "list" its.toArray 0) := Heap.get?_push_size _ rfl
  show wpAny _ _ _ _ _ { s with heap := h'.push (seqObj "list" its.toArray 0) }
  refine wpAny_bind (wpAny_holding (wpAny_call_entry PyProof.Rows.slot_list_sort ⟨_, hoL, rfl⟩ PyProof.Rows.entry_list_sort
    (PyProof.Rows.list_sort_treeK PyProof.Rows.strKind_oneLt (s := { s with heap := h'.push (seqObj "list" its.toArray 0) }) hoL hS.keysOf (fun v₁ v₂ rest e => PyProof.Rows.keyKind_strs (by rw [← e]; exact hS)) (by rw [hal]; exact h64) fun st' hp hs => ⟨_, rfl, ?_⟩)
    (PyProof.Rows.args_list_sort _)))
  obtain ⟨ys, g1, g2, g3⟩ := PyProof.Rows.sorted_out_str hS hp hs
  obtain ⟨e', he'⟩ := PyProof.Rows.sortedHeap_at (vs := its) (out := (PyProof.Rows.arrOf st').map (·.2)) hoL
  have hlen : (ys.map V.str).length ≤ sizeLine := by
    rw [List.length_map, g2.length_eq, sizeLine_eq]; omega
  refine wpAny_pure ⟨_, rfl, .ref h'.objs.size, upd H h'.objs.size (.lst (ys.map V.str)), I1.laid (t' := s.toks) (fun b u e => ?_) (Nat.le_refl _)
    (show ObjOk X.prog X.w _ _ _ (.lst (ys.map V.str)) from ⟨hlen, ((PyProof.Rows.arrOf st').map (·.2)).toList, e', vals_of_strs g1, by rw [Array.toArray_toList]; exact he'⟩), rfl, q ys _ g2 g3 (I1.hok.fresh (Nat.le_refl _))⟩
  have hb : b < h'.objs.size := Heap.lt_size e
  rw [PyProof.Rows.sortedHeap_old (Nat.ne_of_lt hb) (by rw [PyProof.Rows.size_push']; exact Nat.lt_succ_of_lt hb)]
  exact Heap.get?_push_of_some _ e
theorem vals_signs {x : Str} {acc : Array Value} (h : ItemsOf (SignAt x) acc x.cps.size) : Vals (x.cps.toList.map fun c => V.str ⟨#[c]⟩) acc.toList := by
  have gen : ∀ (l : List Nat) (m : List Value), l.length = m.length → (∀ (j : Nat) (v : Value), m[j]? = some v → ∃ (c : Nat) (u : Tok), l[j]? = some c ∧ v = Value.str ⟨#[c]⟩ u) → Vals (l.map fun c => V.str ⟨#[c]⟩) m := by
    intro l
    induction l with
    | nil => intro m hl _; cases m with
      | nil => exact .nil
      | cons _ _ => simp at hl
    | cons c l ih =>
      intro m hl hm
      cases m with
      | nil => simp at hl
      | cons v m =>
        obtain ⟨c', u, e1, e2⟩ := hm 0 v rfl
        cases e1
        rw [List.map_cons]
        refine .cons ⟨u, e2⟩ (ih m (by simpa using hl) fun j v hj => ?_)
        obtain ⟨c', u, e1, e2⟩ := hm (j + 1) v (by simpa using hj)
        exact ⟨c', u, by simpa using e1, e2⟩
  refine gen _ _ (by simp [h.1]) fun j v hj => ?_
  obtain ⟨c, u, e1, e2⟩ := h.2 j v (by simpa using hj)
  exact ⟨c, u, by simpa using e1, e2⟩
theorem call_listSt (hc : X.calm = true) : CallR X (.type "list") (fun xs H Q => ∃ z : Str, xs = [.str z] ∧ z.length ≤ 1000 ∧ ∀ p, H p = none → Q (.ref p) (upd H p (.lst (z.cps.toList.map fun c => V.str ⟨#[c]⟩)))) := by
  intro pins s σ H xs us Q I r q
  obtain ⟨z, ex, hz, q⟩ := q
  subst ex
  obtain ⟨u, eu, t, rfl⟩ := vals1 r
  subst eu
  have hz' : z.cps.size ≤ 1000 := hz
  refine PySem.call_list_str (I.ok.hd hc) z t (fun h' tk acc' c' hk ho hi => ?_) (by rw [sizeLine_eq]; omega)
  have hv := vals_signs hi
  refine ⟨.ref s.heap.objs.size, upd H s.heap.objs.size (.lst (z.cps.toList.map fun c => V.str ⟨#[c]⟩)), I.laid (t' := tk) hk (Nat.le_refl _)
    (show ObjOk X.prog X.w _ _ _ (.lst _) from ⟨by rw [List.length_map, Array.length_toList, sizeLine_eq]; omega, acc'.toList, c', hv, by rw [Array.toArray_toList]; exact ho⟩), rfl, q _ (I.hok.fresh (Nat.le_refl _))⟩
end
def sortX : List D → Option D
  | [.tup l] => match strsOf l with
    | some ys => if ys.length < 64 then some (.lst true ((sortS ys).map .str)) else none
    | none => none
  | ds => sortD ds
theorem call_sortX {X : Cx} {C : KM} (hC : C.K = X.K) : CallR X (.builtin "sorted") (cD C sortX) := by
  intro pins s σ H xs us Q I r h
  obtain ⟨a, ds, d, rfl, k, ps, hd, q⟩ := h
  match ds, hd, ps with
  | [.tup l], hd, ps =>
    simp only [sortX] at hd
    cases hl : strsOf l with
    | none => rw [hl] at hd; cases hd
    | some ys =>
      rw [hl] at hd
      dsimp only at hd
      split at hd
      · rename_i hz; cases hd
        obtain ⟨v, rfl, r1, p1⟩ := one_rep ps
        obtain ⟨y, vs, rfl, h1, h2⟩ := rep_tup k p1
        rw [strs_rep hl h2, hC] at h1
        refine call_sortedTup pins s σ a.H _ us Q I r ⟨y, ys, rfl, h1, hz, fun zs p hp hs hn => ?_⟩
        rw [sort_one hp hs]
        exact new_lst k (fzL_strs _) (repL_strs (C := C) (a := a) (r := 0) (p := []) _ 0) q p hn
      · cases hd
  | [.lst o l], hd, ps => exact call_sortD pins s σ a.H xs us Q I r ⟨a, _, d, rfl, k, ps, hd, q⟩
def listY : List D → Option D
  | [.str s] => if s.length ≤ 1000 then some (.lst true (s.cps.toList.map fun c => .str ⟨#[c]⟩)) else none
  | ds => listX ds
theorem repL_signs {C : KM} {a : Wd} {r : Nat} {p : List Nat} : ∀ (l : List Nat) (n : Nat), RepL C a r p n (l.map fun c => V.str ⟨#[c]⟩) (l.map fun c => D.str ⟨#[c]⟩)
  | [], n => by simp [RepL]
  | c :: l, n => ⟨.str ⟨#[c]⟩, l.map fun c => V.str ⟨#[c]⟩, rfl, by simp [Rep], repL_signs l (n + 1)⟩
theorem call_listY {X : Cx} {C : KM} (hC : C.K = X.K) (hc : X.calm = true) : CallR X (.type "list") (cD C listY) := by
  intro pins s σ H xs us Q I r h
  obtain ⟨a, ds, d, rfl, k, ps, hd, q⟩ := h
  match ds, hd, ps with
  | [.str z], hd, ps =>
    simp only [listY] at hd
    split at hd
    · rename_i hz; cases hd
      obtain ⟨v, rfl, r1, p1⟩ := one_rep ps
      cases rep_str p1
      exact call_listSt hc pins s σ a.H _ us Q I r ⟨z, rfl, hz, new_lst k (fzL_map _ (fun _ => by simp [fz]) _) (repL_signs (C := C) (a := a) (r := 0) (p := []) _ 0) q⟩
    · cases hd
  | [.lst o l], hd, ps => exact call_listX hC hc pins s σ a.H xs us Q I r ⟨a, _, d, rfl, k, ps, hd, q⟩
  | [.tup l], hd, ps => exact call_listX hC hc pins s σ a.H xs us Q I r ⟨a, _, d, rfl, k, ps, hd, q⟩
  | [.scr l], hd, ps => exact call_listX hC hc pins s σ a.H xs us Q I r ⟨a, _, d, rfl, k, ps, hd, q⟩
  | [.dic o l m], hd, ps => exact call_listX hC hc pins s σ a.H xs us Q I r ⟨a, _, d, rfl, k, ps, hd, q⟩
end Mi
namespace Mi
open PySem PySem.Spec PyProof.Rows L2
/-! ### reverse, insert -/
theorem repL_of {C : KM} {a : Wd} {r : Nat} {p : List Nat} : ∀ {l : List D} {n : Nat} {vs : List V}, fzL l = true → vs.length = l.length → (∀ (i : Nat) (d : D) (v : V), l[i]? = some d → vs[i]? = some v → ∃ s q, Rep C a s q v d) → RepL C a r p n vs l
  | [], n, vs, _, hl, _ => by
    have : vs = [] := List.length_eq_zero_iff.mp hl
    subst this
    simp [RepL]
  | d :: l, n, [], _, hl, _ => by simp at hl
  | d :: l, n, v :: vs, z, hl, h => by
    simp only [fzL, Bool.and_eq_true] at z
    obtain ⟨s, q, h0⟩ := h 0 d v rfl rfl
    exact ⟨v, vs, rfl, Rep.fz (a := a) (b := a) (fun _ _ h => h) d q _ v z.1 h0, repL_of z.2 (by simpa using hl) fun i d v e1 e2 => h (i + 1) d v (by simpa using e1) (by simpa using e2)⟩
theorem repL_at {C : KM} {a : Wd} {r : Nat} {p : List Nat} {l : List D} {n : Nat} {vs : List V} (h : RepL C a r p n vs l) {i : Nat} {d : D} {v : V} (e1 : l[i]? = some d) (e2 : vs[i]? = some v) : ∃ s q, Rep C a s q v d := by
  obtain ⟨w, h1, h2⟩ := h.get e1
  rw [e2] at h1; cases h1
  exact ⟨_, _, h2⟩
theorem fzL_rev {l : List D} (h : fzL l = true) : fzL l.reverse = true := fzL_all fun d hd => fzL_mem h d (List.mem_reverse.mp hd)
theorem repL_rev {C : KM} {a : Wd} {r s : Nat} {p q : List Nat} {l : List D} {n m : Nat} {vs : List V} (z : fzL l = true) (h : RepL C a r p n vs l) : RepL C a s q m vs.reverse l.reverse := by
  refine repL_of (fzL_rev z) (by rw [List.length_reverse, List.length_reverse, h.len]) fun i d v e1 e2 => ?_
  have hi : i < l.length := by have := (List.getElem?_eq_some_iff.mp e1).1; simpa using this
  have hi2 : i < vs.length := by have := (List.getElem?_eq_some_iff.mp e2).1; simpa using this
  rw [List.getElem?_reverse hi] at e1
  rw [List.getElem?_reverse hi2] at e2
  rw [h.len] at e2
  exact repL_at h e1 e2
def revF (l ds : List D) : Option (D × List D) := match ds with
  | [] => if fzL l = true then some (.non, l.reverse) else none
  | _ => none
section
variable {C : KM}
theorem met_rev : MetOk C rReverse revF := fun a x vs us l ds d l' n s p Q k hx hl ps hf q => by
  match ds, hf, ps with
  | [], hf, ps =>
    simp only [revF] at hf
    split at hf
    · rename_i z; cases hf
      cases ps
      exact ⟨x, vs, rfl, rfl, hx, q .non _ 0 0 [] (fzL_rev z) (repL_rev z hl) ⟨0, [], by simp [fz], by simp [Rep]⟩⟩
    · cases hf
theorem met_ins : MetOk C (fun x vs H Q => ∃ (l : Addr) (xs : List V) (i : Int) (y : V), x = .ref l ∧ vs = [.int i, y] ∧ H l = some (.lst xs) ∧ xs.length < sizeLine ∧ 0 ≤ i ∧ i < 2 ^ 63 ∧ Q .non (upd H l (.lst (xs.take i.toNat ++ [y] ++ xs.drop i.toNat)))) insF := fun a x vs us l ds d l' n s p Q k hx hl ps hf q => by
  match ds, hf, ps with
  | [.int i, y], hf, ps =>
    simp only [insF] at hf
    split at hf
    · rename_i z; cases hf
      obtain ⟨z1, z2, z3, z4, z5⟩ := z
      obtain ⟨v, u, rfl, ⟨r1, p1⟩, ⟨r2, p2⟩⟩ := two_rep ps
      cases rep_int p1
      have zt : fzL (l.take i.toNat ++ [y] ++ l.drop i.toNat) = true := fzL_all fun d hd => by
        rcases List.mem_append.mp hd with hd | hd
        · rcases List.mem_append.mp hd with hd | hd
          · exact fzL_mem z1 d (List.mem_of_mem_take hd)
          · rw [List.mem_singleton] at hd; subst hd; exact z2
        · exact fzL_mem z1 d (List.mem_of_mem_drop hd)
      refine ⟨x, vs, i, u, rfl, rfl, hx, by rw [hl.len, szl]; omega, z3, z4, q .non _ 0 0 [] zt (repL_of zt (by simp [hl.len]) fun j d v e1 e2 => ?_) ⟨0, [], by simp [fz], by simp [Rep]⟩⟩
      have ht : (vs.take i.toNat).length = (l.take i.toNat).length := by simp [hl.len]
      rw [List.append_assoc] at e1 e2
      by_cases h1 : j < (l.take i.toNat).length
      · rw [List.getElem?_append_left h1] at e1
        rw [List.getElem?_append_left (by omega)] at e2
        rw [List.getElem?_take] at e1 e2
        split at e1
        · rename_i h; rw [if_pos h] at e2; exact repL_at hl e1 e2
        · cases e1
      · rw [List.getElem?_append_right (by omega)] at e1
        rw [List.getElem?_append_right (by omega), ht] at e2
        generalize j - (l.take i.toNat).length = m at e1 e2
        cases m with
        | zero => cases e1; cases e2; exact ⟨_, _, p2⟩
        | succ m =>
          simp only [List.singleton_append, List.getElem?_cons_succ, List.getElem?_drop] at e1 e2
          exact repL_at hl e1 e2
    · cases hf
end
section
variable {X : Cx} {G : Gm} {W : WX} {lv : Nat} {a b e o : Expr} {es : List Expr} {ma : EM Arg} {mas : EM (List Arg)} {m : EM D} {apos cpos p : Pos} {x : Str}
theorem r_insert (s : St0 X G) (j : Nat) (hN : X.N[j]? = some x) (hv : Vis X.env.scope x) (ha : PA X [e, a] (tArgs G W mas)) (hd : (x == ("__debug__" : Str)) = false := by decide) (hcd : (x == ("__classdict__" : Str)) = false := by decide)
    (hbase : attributeBase (.Name x p) "insert" X.env (eval (.Name x p) X.env) = eval (.Name x p) X.env := by rfl) (hfew : ((backTo cpos (starEach [e, a] X.env)).all (fun x => !x.1) && (backToKw cpos (keywordEach [] X.env)).all (fun x => x.1.isSome)
      && decide ([e, a].length + ([] : List Keyword).length + (if ([] : List Keyword).isEmpty then 0 else 1) < 30)) = true := by rfl) (hline : (apos.endLine == cpos.line) = true := by rfl) (hs : starEach [e, a] X.env = (false, eval e X.env) :: starEach [a] X.env := by rfl) (hplain : (backTo cpos (starEach [a] X.env)).any (·.1) = false := by rfl) :
    PE X (.Call (.Attribute (.Name x p) "insert" apos) [e, a] [] cpos) (tE G W (mMet j mas insF)) :=
  (pe_bm PySem.F.plainAttrs_list PySem.F.slot_list_insert PySem.F.type_list_insert mt_insert (pe_var hN hv hd hcd) ha hbase hfew hline hs hplain).weak fun _ _ _ q => by
    have := met_w met_ins q
    rw [s.k]; exact this
theorem r_reverse (s : St0 X G) (j : Nat) (hN : X.N[j]? = some x) (hv : Vis X.env.scope x) (hd : (x == ("__debug__" : Str)) = false := by decide) (hcd : (x == ("__classdict__" : Str)) = false := by decide)
    (hbase : attributeBase (.Name x p) "reverse" X.env (eval (.Name x p) X.env) = eval (.Name x p) X.env := by rfl) (hline : (apos.endLine == cpos.line) = true := by rfl) :
    PE X (.Call (.Attribute (.Name x p) "reverse" apos) [] [] cpos) (tE G W (mMet j (mArgs []) revF)) :=
  (pe_bm0 PySem.F.plainAttrs_list PySem.F.slot_list_reverse PySem.F.type_list_reverse mt_reverse (pe_var hN hv hd hcd) hbase hline).weak fun σ H Q q => by
    obtain ⟨v, h1, ty, a, env, rfl, rel, post⟩ := met_w met_rev q
    refine ⟨v, h1, by rw [s.k]; exact ty, ?_⟩
    exact post a (Step.refl a) rel [] .nil
end
/-! ### xs[::-1] of a list -/
def revD : D → Option D
  | .lst _ l => if fzL l = true then some (.lst true l.reverse) else none
  | _ => none
section
variable {X : Cx} {G : Gm} {W : WX} {σ : L2.St} {H : Hp} {Q : VK} {e : Expr} {ma : EM Arg}
theorem r_revL (s : St0 X G) {k : Nat} {p1 p2 p3 pos : Pos} (ha : PE X e (tArg G W ma)) : PE X (.Subscript e (.Slice none none (some (.UnaryOp .USub (.Constant (.int 1) k p1) p2)) p3) pos) (tE G W (mUn revD ma)) :=
  (pe_revL ha).weak fun σ H Q q => by
    obtain ⟨a, env, rfl, rel, post⟩ := q
    refine tArg_of rel post fun x e b v st r ar p => ?_
    dsimp only at p
    cases hx : x.get e with
    | none => rw [hx] at p; exact (show False from p).elim
    | some d =>
      rw [hx] at p
      dsimp only at p
      obtain ⟨d', hd, k'⟩ := p.lift r
      obtain ⟨r1, p1⟩ := ar.rep r hx
      match d, hd, p1 with
      | .lst o l, hd, p1 =>
        simp only [revD] at hd
        split at hd
        · rename_i z; cases hd
          obtain ⟨y, vs, rfl, h1, h2⟩ := rep_lst r.ok p1
          exact ⟨y, vs, rfl, SqL.of h1, new_lst r.ok (fzL_rev z) (repL_rev (s := 0) (q := []) (m := 0) z h2) fun z c gr ok rp => k' c gr ok z rp⟩
        · cases hd
end
/-! ### isinstance of two types -/
def isK2 (k k2 : TyK) (d : D) : Option D := match isK k d, isK k2 d with
  | some a, some b => some (.bl (a || b))
  | _, _ => none
section
variable {X : Cx} {G : Gm} {W : WX} {σ : L2.St} {H : Hp} {Q : VK} {a : Expr} {ma : EM Arg}
theorem isi2_w {k k2 : TyK} (h : tE G W (mUn (isK2 k k2) ma) σ H Q) : tCB (rIsiT G.C.K) (tCons (tArg G W ma) (tCons (tTup (tCons (tC (.ty k.nm)) (tCons (tC (.ty k2.nm)) tNil))) tNil)) σ H Q := by
  obtain ⟨a, env, rfl, rel, post⟩ := h
  refine tArg_of rel post fun x e b v st r ar p => ?_
  dsimp only at p
  cases hx : x.get e with
  | none => rw [hx] at p; exact (show False from p).elim
  | some d =>
    rw [hx] at p
    dsimp only at p
    obtain ⟨d', hd, k'⟩ := p.lift r
    obtain ⟨r1, p1⟩ := ar.rep r hx
    unfold isK2 at hd
    cases h1 : isK k d with
    | none => rw [h1] at hd; cases hd
    | some b1 =>
      cases h2 : isK k2 d with
      | none => rw [h1, h2] at hd; cases hd
      | some b2 =>
        rw [h1, h2] at hd; cases hd
        obtain ⟨t, g1, g2⟩ := isK_kit h1
        obtain ⟨t', g3, g4⟩ := isK_kit h2
        rw [g1] at g3; cases g3
        refine ⟨by rw [szl]; show 2 ≤ _; omega, fun T hT => ?_⟩
        obtain ⟨gr, ok⟩ := grow_o (o := .tup [.ty k.nm, .ty k2.nm]) (0, []) r.ok hT
        refine ⟨v, T, [.ty k.nm, .ty k2.nm], .type t, [.type k.nm, .type k2.nm], b1 || b2, rfl, upd_same, .cons (.ty _) (.cons (.ty _) .nil), rep_ty ok g1 (p1.grow r.ok gr), ?_, k' _ gr ok _ rep_ofbl⟩
        refine kitAny_cons (kit_ty g2) (fun hb => ?_) (fun hb => by rw [hb]; rfl)
        subst hb
        exact kitAny_cons (kit_ty g4) (fun hb => by subst hb; exact kitAny_nil) (fun hb => by rw [hb]; rfl)
theorem r_isi2 (s : St0 X G) (k k2 : TyK) {tn tn2 : Str} {p pos p3 p4 p5 : Pos} {kk : Nat} (ha : PE X a (tArg G W ma)) (h1 : G.C.mg "isinstance" = none) (h2 : G.C.mg tn = none) (h3 : G.C.mg tn2 = none) (hg : Gl X "isinstance") (hgt : Gl X tn) (hgt2 : Gl X tn2) (hv : bootBuiltins tn = some (.type k.nm)) (hv2 : bootBuiltins tn2 = some (.type k2.nm)) (hv1 : bootBuiltins "isinstance" = some (.builtin "isinstance"))
    (hn : tn ≠ "__name__" := by decide) (hd : (tn == ("__debug__" : Str)) = false := by decide) (hn2 : tn2 ≠ "__name__" := by decide) (hd2 : (tn2 == ("__debug__" : Str)) = false := by decide)
    (hs : starEach [a, .Tuple [.Name tn p3, .Name tn2 p4] kk p5] X.env = (false, eval a X.env) :: starEach [.Tuple [.Name tn p3, .Name tn2 p4] kk p5] X.env := by rfl) (hs2 : starEach [.Tuple [.Name tn p3, .Name tn2 p4] kk p5] X.env = (false, eval (.Tuple [.Name tn p3, .Name tn2 p4] kk p5) X.env) :: starEach [] X.env := by rfl)
    (hpl : (backTo pos (starEach [Expr.Tuple [.Name tn p3, .Name tn2 p4] kk p5] X.env)).any (·.1) = false := by rfl) :
    PE X (.Call (.Name "isinstance" p) [a, .Tuple [.Name tn p3, .Name tn2 p4] kk p5] [] pos) (tE G W (mUn (isK2 k k2) ma)) :=
  (pe_callB call_isiT hg (by rw [s.m]; exact h1) hv1 (pa_cons ha (pa_cons (pe_tup (pa_cons (pe_bltn hgt (by rw [s.m]; exact h2) hv (show RelV (.ty k.nm) _ from rfl) hn hd) (pa_cons (pe_bltn hgt2 (by rw [s.m]; exact h3) hv2 (show RelV (.ty k2.nm) _ from rfl) hn2 hd2) pa_nil))) pa_nil hs2) hs) (by decide) (by decide) hs hpl).weak fun _ _ _ q => by
    have := isi2_w q
    rw [s.k]; exact this
end
end Mi
namespace Mi
open PySem PySem.Spec PyProof.Rows L2
/-! ### enumerate of a tuple -/
theorem meets_enumT (l : Addr) (items : Array Value) (n : Nat) (dct : Option Addr) (sl : Array (Option Value)) :
    Meets (Builtin.«enumerate.__new__» ⟨[.type "enumerate", .ref l], []⟩) (fun _ R s => s.heap.get? l = some { cls := .type "tuple", dict := dct, data := .seq items n, slots := sl } ∧
      R (.ok (.ret (.ref (s.heap.push { cls := .type "tuple_iterator", data := .fields #[.ref l, .int 0 0] }).objs.size)))
        { s with heap := (s.heap.push { cls := .type "tuple_iterator", data := .fields #[.ref l, .int 0 0] }).push { cls := .type "enumerate", data := .fields #[.none, .bool false, .ref s.heap.objs.size, rawInt 0, .none, .none] } }) :=
  .of_wp fun prog w A R s h => by
    obtain ⟨hp, g, d, tk, os⟩ := s; obtain ⟨hl, h⟩ := h
    have hsub := sub_enumerate
    have hL : Heap.IsTuple (Shared.heap ⟨hp, g, d, tk, os⟩) l items := ⟨_, hl, rfl, n, rfl⟩
    have q1 : ∀ {A' : Around} {E : Value → Shared → Prop} {Q : Value → Shared → Prop}, Q (.ref hp.objs.size) ⟨hp.push { cls := .type "tuple_iterator", data := .fields #[.ref l, .int 0 0] }, g, d, tk, os⟩ → wpAny (model prog w) A' (pyIter (.ref l)) Q E ⟨hp, g, d, tk, os⟩ :=
      fun q => (begins_tuple l items).iter prog w _ _ ⟨hp, g, d, tk, os⟩ _ hL q
    wp_walk using AutoSeq1.wpAny_loadPart' hl, q1
    refine wpAny_stack_any fun st => wpAny_pure ?_
    split
    · rename_i c _ _ _ _ _
      cases (c == Value.type "enumerate")
      · wp_walk using AutoSeq1.wpAny_loadPart' hl, q1
        exact ⟨_, rfl, h⟩
      · wp_walk using AutoSeq1.wpAny_loadPart' hl, q1
        exact ⟨_, rfl, h⟩
    · wp_walk using AutoSeq1.wpAny_loadPart' hl, q1
      exact ⟨_, rfl, h⟩
theorem call_enumT {prog : Program} {w : World} {A : Around} {E : Value → Shared → Prop} {s : Shared} {l : Addr} {items : Array Value} {Q : Value → Shared → Prop} (hL : s.heap.IsTuple l items)
    (h : ∀ h', IsEnum h' (s.heap.objs.size + 1) s.heap.objs.size 0 .none → h'.IsTupleIter s.heap.objs.size l 0 → h'.objs.size = s.heap.objs.size + 2 →
      (∀ b o, s.heap.get? b = some o → h'.get? b = some o) → Q (.ref (s.heap.objs.size + 1)) { s with heap := h' }) :
    wpAny (model prog w) A (call (.type "enumerate") [.ref l]) Q E s := by
  obtain ⟨⟨c, dct, dt, sl⟩, hl, hc, n, hd⟩ := hL
  replace hc : c = .type "tuple" := hc
  replace hd : dt = .seq items n := hd
  subst hc hd
  refine callType_new PySem.F.called_enumerate (by decide) (PySem.F.typeCall_enumerate_1 _) (PySem.F.newCall_enumerate_1 _) (fun obj => PySem.F.args_object_init_2 obj _) PySem.F.entry_enumerate_new
    (meets_enumT l items n dct sl) ⟨hl, ?_⟩
  have hz : (s.heap.push { cls := .type "tuple_iterator", data := .fields #[.ref l, .int 0 0] }).objs.size = s.heap.objs.size + 1 := Heap.size_push ..
  show _ ∧ _
  rw [hz]
  have he : IsEnum ((s.heap.push { cls := .type "tuple_iterator", data := .fields #[.ref l, .int 0 0] }).push
      { cls := .type "enumerate", data := .fields #[.none, .bool false, .ref s.heap.objs.size, rawInt 0, .none, .none] }) (s.heap.objs.size + 1) s.heap.objs.size 0 .none := by
    have := Heap.get?_push_size (s.heap.push { cls := .type "tuple_iterator", data := .fields #[.ref l, .int 0 0] })
      (o := { cls := .type "enumerate", data := .fields #[.none, .bool false, .ref s.heap.objs.size, rawInt 0, .none, .none] }) rfl
    rw [hz] at this; exact this
  refine ⟨⟨_, he, rfl⟩, h _ he ⟨_, Heap.get?_push_of_some _ (Heap.get?_push_size _ rfl), rfl, rfl⟩ (by rw [Heap.size_push, hz]) fun b o x => Heap.get?_push_of_some _ (Heap.get?_push_of_some _ x)⟩
theorem enum_doneT {prog : Program} {w : World} {A : Around} {E : Value → Shared → Prop} {s : Shared} {e it l : Addr} {i : Nat} {items : Array Value} {old : Value} {Q : Option Value → Shared → Prop} (hh : A.handled = none) (hli : l ≠ it)
    (he : IsEnum s.heap e it i old) (hit : s.heap.IsTupleIter it l i) (hl : s.heap.IsTuple l items) (hx : items[i]? = none)
    (hQ : ∀ h', Heap.ExtBut it s.heap h' → Q none { s with heap := h' }) : wpAny (model prog w) A (pyNext (.ref e)) Q E s := by
  have hT : s.TypeIs (.ref e) "enumerate" := ⟨_, he, rfl⟩
  unfold pyNext
  refine wpAny_bind (wpAny_attempt (wpAny_callSpecial?_slot (name := Str.ofString "__next__") hT PySem.F.slot_enumerate_next
    (wpAny_call_entry PySem.F.slot_enumerate_next hT PySem.F.entry_enumerate_next ?_ (PySem.F.args_enumerate_next_1 _))))
  show wpAny _ _ (field (.ref e) 2 >>= _) _ _ _
  refine wpAny_bind (wpAny_field he rfl (x := .ref it) rfl ?_)
  refine wpAny_bind (wpAny_nextOf_tuple_end hh hit hl hx fun h' x he' hx' => ?_)
  obtain ⟨o, ho, hc⟩ := hx'
  refine wpAny_bind (wpAny_isInstance (T := "StopIteration") (b := true) ⟨o, ho, hc⟩ isSubtype_stop ?_)
  exact wpAny_pure (hQ _ he')
def Itet (K : PySem.W.Frag) (a : Addr) : It :=
  ⟨fun i H => ∃ (xs : List V) (x : V), SqT K H a xs ∧ xs[i]? = some x, fun i H v H' => ∃ T x ob, v = .ref T ∧ H T = none ∧ H' = upd H T (.frz ob (.tup [.int (i : Nat), x])) ∧ ob.dict = none ∧ ob.cls = .type "tuple" ∧ ∀ xs, SqT K H a xs → xs[i]? = some x, fun i H => ∃ xs : List V, SqT K H a xs ∧ xs.length ≤ i⟩
theorem turn_enumT {P : Program} {w : World} {K : PySem.W.Frag} {elts : List Expr} {kk : Nat} {tpos : Pos} (a e it : Addr) :
    Turn P w K (.Tuple elts kk tpos) (Itet K a) [e, it] e (fun i h => (∃ old, IsEnum h e it ((i : Nat) : Int) old) ∧ h.IsTupleIter it a i ∧ e ≠ it) where
  mem := by simp
  obj := fun i h st b hb => by
    obtain ⟨⟨old, he⟩, ⟨o, ho, hc, hd⟩, _⟩ := st
    have e' : b = e ∨ b = it := by simpa using hb
    rcases e' with z | z
    · rw [z]; exact ⟨_, he, fun v q => nomatch q⟩
    · rw [z]; exact ⟨o, ho, fun v q => by rw [hd] at q; cases q⟩
  keep := fun i h h' st k => let ⟨⟨old, he⟩, hi, hne⟩ := st; ⟨⟨old, k e (by simp) _ he⟩, hi.at fun o q => k it (by simp) o q, hne⟩
  item := by
    intro X hP hw hK hc i pins s σ H E I hf st hg
    subst hP hw hK
    obtain ⟨⟨old, he⟩, hit, hne⟩ := st
    obtain ⟨xs, x, hq, hx⟩ := hg
    obtain ⟨its, rv, p, hz⟩ := I.tuple hq
    obtain ⟨u, hu, ru⟩ := rv.get hx
    have p' : s.heap.IsTuple a its.toArray := p
    have hel : e < s.heap.objs.size := Heap.lt_size he
    have hil : it < s.heap.objs.size := by obtain ⟨_, q, _⟩ := hit; exact Heap.lt_size q
    have hai : a ≠ it := by
      rintro rfl
      obtain ⟨o1, k1, k2, _⟩ := hit
      obtain ⟨o2, j1, j2, _⟩ := p'
      rw [k1] at j1; cases j1
      rw [k2] at j2; exact absurd j2 (by decide)
    have hea : e ≠ a := by
      rintro rfl
      obtain ⟨o2, j1, j2, _⟩ := p'
      have he' := he
      unfold IsEnum at he'
      rw [he'] at j1; cases j1
      have j3 : Value.type "enumerate" = Value.type "tuple" := j2
      exact absurd j3 (by decide)
    have hlt : i < its.toArray.size := by
      have := (List.getElem?_eq_some_iff.mp hu).1
      simpa using this
    refine wpAny_pyNext_enum_itemD (Draws.tuple (A := X.A.in1) (I.ok.hd hc) it a hai its.toArray) he ⟨hit, p'⟩ hlt hne (by simp [hne, hea]) fun u2 h' tk hPx ho hst' hT hsz hk => ?_
    have hu2 : u2 = u := by
      have hPx : its.toArray[i]? = some u2 := hPx
      simp only [List.getElem?_toArray] at hPx
      rw [hu] at hPx; cases hPx; rfl
    subst hu2
    refine ⟨_, rfl, wpAny_letOwnedTupleGo_enum (s := { s with heap := h', toks := tk + 1 }) ho fun h'' he' sb => ?_⟩
    have hT2 : h''.get? s.heap.objs.size = some { cls := .type "tuple", data := .seq #[.int i tk, u2] } := (sb.2 _ (Nat.ne_of_gt hel)).trans hT
    have new : ObjOk X.prog X.w (upd H s.heap.objs.size (.frz { cls := .type "tuple", data := .seq #[.int i tk, u2] } (.tup [.int (i : Nat), x]))) h'' s.heap.objs.size (.frz { cls := .type "tuple", data := .seq #[.int i tk, u2] } (.tup [.int (i : Nat), x])) :=
      ⟨hT2, by show 2 ≤ sizeLine; decide, [.int i tk, u2], .cons ⟨_, rfl⟩ (.cons ru .nil), ⟨_, hT2, rfl, _, rfl⟩⟩
    have I1 : Inv X pins σ (upd H s.heap.objs.size (.frz { cls := .type "tuple", data := .seq #[.int i tk, u2] } (.tup [.int (i : Nat), x]))) { s with heap := h'', toks := tk + 1 } :=
      I.turnedNew (ch := [e, it]) (fun b ob hb q => (sb.2 b (fun z => hb (by simp [z]))).trans (hk b ob (fun z => hb (by simp [z])) (fun z => hb (by simp [z])) q)) hf (Nat.le_refl _) new
    refine ⟨.ref s.heap.objs.size, _, I1, rfl, ⟨_, x, _, rfl, I.hok.fresh (Nat.le_refl _), rfl, rfl, rfl, fun ys hy => by rw [I.tuple_inj hy hq]; exact hx⟩, ⟨⟨u2, ?_⟩, hst'.1.at fun o q => (sb.2 it (Ne.symm hne)).trans q, hne⟩, fun b hb => ?_⟩
    · have e1 : ((i + 1 : Nat) : Int) = (i : Int) + 1 := by omega
      rw [e1]; exact he'
    · have hb' : b < s.heap.objs.size := by
        have e' : b = e ∨ b = it := by simpa using hb
        rcases e' with z | z
        · rw [z]; exact hel
        · rw [z]; exact hil
      rw [upd_ne (Nat.ne_of_lt hb')]
      exact (hf b hb).1
  done := by
    intro X hP hw hK hc i pins s σ H E I hf st hg
    subst hP hw hK
    obtain ⟨⟨old, he⟩, hit, hne⟩ := st
    obtain ⟨xs, hq, hx⟩ := hg
    obtain ⟨its, rv, p, hz⟩ := I.tuple hq
    obtain ⟨f0, f1, f2, f3, f4, f5⟩ := hf it (by simp)
    have hl := rv.length
    have p' : s.heap.IsTuple a its.toArray := p
    have hai : a ≠ it := by
      rintro rfl
      obtain ⟨o1, k1, k2, _⟩ := hit
      obtain ⟨o2, j1, j2, _⟩ := p'
      rw [k1] at j1; cases j1
      rw [k2] at j2; exact absurd j2 (by decide)
    exact enum_doneT (I.ok.hd hc) hai he hit p' (by simp; omega) fun h' eb => ⟨rfl, I.turned (t' := s.toks) (fun b o hb q => eb b o hb q) f0 f1 f3 f4 f5⟩
  self := fun A i s Q E st h => let ⟨⟨_, he⟩, _⟩ := st; wpAny_pyIter_enum he h

def iEnumT (K : PySem.W.Frag) (ta : TA) : TI := fun σ H R => ta σ H fun vs H1 => ∃ a xs, vs = [.ref a] ∧ SqT K H1 a xs ∧ R (Itet K a) H1
theorem pi_enumT {X : Cx} {e : Expr} {ta : TA} {p pos tpos : Pos} {elts : List Expr} {kk : Nat} (hg : Gl X "enumerate") (hm : X.mg "enumerate" = none) (ha : PA X [e] ta) (hs : starEach [e] X.env = [(false, eval e X.env)] := by rfl) :
    PI X (.Tuple elts kk tpos) (.Call (.Name "enumerate" p) [e] [] pos) (iEnumT X.K ta) := by
  refine ⟨fun pins s σ H R I h => ?_⟩
  refine Call_ (ld_blt I hg hm boot_enumerate (PyProof.Rows.callWith_type1 (thn (ha.run pos pins s σ H _ I h) fun us s1 ⟨vs, H1, I1, r1, q1⟩ => ?_) hs rfl))
  obtain ⟨a, xs, ex, hq, q⟩ := q1
  subst ex
  cases r1 with
  | cons r rr =>
    cases rr
    cases r
    obtain ⟨its, rv, p', hz⟩ := I1.tuple hq
    refine call_enumT (items := its.toArray) p' fun h' he hit hsz hk => wpAny_pyIter_enum he ?_
    have I2 : Inv X pins σ H1 { s1 with heap := h' } := I1.kept (t' := s1.toks) hk
    refine ⟨s1.heap.objs.size + 1, [s1.heap.objs.size + 1, s1.heap.objs.size], _, _, H1, rfl, I2, turn_enumT a (s1.heap.objs.size + 1) s1.heap.objs.size, ⟨⟨.none, he⟩, hit, Nat.succ_ne_self _⟩, fun b hb => ?_, q⟩
    have e' : b = s1.heap.objs.size + 1 ∨ b = s1.heap.objs.size := by simpa using hb
    have hle : s1.heap.objs.size ≤ b := by
      rcases e' with z | z
      · rw [z]; exact Nat.le_add_right _ _
      · rw [z]; exact Nat.le_refl _
    exact I1.fpOk hle (I1.hok.fresh hle)
def enumL (l : List D) : List D := l.zipIdx.map fun p => .tup [.int (p.2 : Nat), p.1]
def enumF : List D → Option (List D)
  | [.tup l] => if fzL l = true then some (enumL l) else none
  | _ => none
theorem enum_w {G : Gm} {W : WX} {σ : L2.St} {H : Hp} {R : It → Hp → Prop} {ma : EM (List Arg)} (h : tI G W (mIt ma enumF) σ H R) : iEnumT G.C.K (tArgs G W ma) σ H R := it_of h fun b ds vs l ok ps hf q => by
  match ds, hf with
  | [.tup l0], hf =>
    simp only [enumF] at hf
    split at hf
    · rename_i z; cases hf
      obtain ⟨v, rfl, r1, p1⟩ := one_rep ps
      have p1' := p1
      simp only [Rep] at p1'
      obtain ⟨y, vs, rfl, hy, hl⟩ := p1'
      refine ⟨y, vs, rfl, sqt_mono ok.sub hy.sq, q _ fun c okc st => ?_⟩
      have hc : SqT G.C.K c.H y vs := sqt_mono (fun y o h => okc.sub _ _ (st.f ok h)) hy.sq
      refine ⟨fun i d e => ?_, ⟨vs, hc, by rw [hl.len]; simp [enumL]⟩⟩
      unfold enumL at e
      rw [List.getElem?_map, List.getElem?_zipIdx] at e
      cases e0 : l0[i]? with
      | none => rw [e0] at e; cases e
      | some d0 =>
        rw [e0] at e
        simp only [Option.map_some, Option.some.injEq, Nat.zero_add] at e
        subst e
        obtain ⟨v, h1, h2⟩ := hl.get e0
        refine ⟨⟨vs, v, hc, h1⟩, fun x H' yl => ?_⟩
        obtain ⟨T, x', ob, rfl, hT, rfl, o1, o2, q2⟩ := yl
        have e2 := q2 vs hc
        rw [h1] at e2; cases e2
        obtain ⟨gr, ok'⟩ := grow_f (o := .frz ob (.tup [.int (i : Nat), v])) okc hT
        refine ⟨_, rfl, gr, ok', ?_⟩
        simp only [Rep]
        refine ⟨T, [.int (i : Nat), v], rfl, .inl ⟨ob, upd_same, o1, o2⟩, ?_⟩
        have z0 := fzL_mem z d0 (List.mem_of_getElem? e0)
        have h3 := h2.step (s := 0) (q := [0]) ok st z0
        exact ⟨.int (i : Nat), [v], by simp, by simp [Rep], v, [], rfl, Rep.fz (fun x o h => gr.f okc h) d0 _ _ v z0 h3, by simp [RepL]⟩
    · cases hf
theorem ri_enum {X : Cx} {G : Gm} {W : WX} {a : Expr} {mas : EM (List Arg)} {pos p tpos : Pos} {elts : List Expr} {kk : Nat} (s : St0 X G) (h1 : G.C.mg "enumerate" = none) (hg : Gl X "enumerate") (ha : PA X [a] (tArgs G W mas)) (hs : starEach [a] X.env = [(false, eval a X.env)] := by rfl) : PI X (.Tuple elts kk tpos) (.Call (.Name "enumerate" p) [a] [] pos) (tI G W (mIt mas enumF)) :=
  (pi_enumT hg (by rw [s.m]; exact h1) ha hs).weak fun _ _ _ q => by
    have := enum_w q
    rw [s.k]; exact this
end Mi
namespace Mi
open PySem PySem.Spec PyProof.Rows L2
/-! ### rows for simp and a pure law: two generators -/
def kL2 (t : Tgt) (cond : EM Bool) (ma1 : EM Arg) (t1 : Tgt) (cond1 : EM Bool) (elt : EM D) (own own1 : List Nat) : List D × EnvD → Res (D × EnvD) := fun (ds, e) => if fzL ds = true then (loopL2 t cond ma1 t1 cond1 elt own own1 ds [] e).bind (kLc2 e own) else .bad
@[simp] theorem e_lc2 {mi : EM (List D)} {t t1 : Tgt} {cond cond1 : EM Bool} {ma1 : EM Arg} {elt : EM D} {own own1 : List Nat} {env : EnvD} : mLc2 mi t cond ma1 t1 cond1 elt own own1 env = (mi env).bind (kL2 t cond ma1 t1 cond1 elt own own1) := rfl
theorem loop2_pure {k k1 : Nat} (hkk : k ≠ k1) {ma1 : EM Arg} {cond1 : EM Bool} {elt : EM D} {f : D → D → D} {p : D → D → Bool} {ds1 : List D} {e0 : EnvD} (h0 : e0.set k none = e0) (h1 : e0.set k1 none = e0) : ∀ (ds acc : List D) (e : EnvD), wipeE e [k, k1] = e0 → acc.length + ds.length * ds1.length ≤ 100000 →
    (∀ d ∈ ds, ∃ x, ma1 (e0.set k (some d)) = .ok (x, e0.set k (some d)) ∧ (x.get (e0.set k (some d))).bind seq2 = some ds1) →
    (∀ d ∈ ds, ∀ d1 ∈ ds1, cond1 ((e0.set k (some d)).set k1 (some d1)) = .ok (p d d1, (e0.set k (some d)).set k1 (some d1))) →
    (∀ d ∈ ds, ∀ d1 ∈ ds1, p d d1 = true → elt ((e0.set k (some d)).set k1 (some d1)) = .ok (f d d1, (e0.set k (some d)).set k1 (some d1))) →
    ∃ e', loopL2 (.nm k) mYes ma1 (.nm k1) cond1 elt [k, k1] [k1] ds acc e = .ok (acc ++ ds.flatMap (fun d => (ds1.filter (p d)).map fun d1 => frzQ (f d d1)), e') ∧ wipeE e' [k, k1] = e0
  | [], acc, e, he, _, _, _, _ => ⟨e, by simp [loopL2], he⟩
  | d :: ds, acc, e, he, hl, hm, hc, hf => by
    obtain ⟨x, m1, m2⟩ := hm d List.mem_cons_self
    have hs1 : (e0.set k (some d)).set k1 none = e0.set k (some d) := by rw [List.set_comm _ _ hkk, h1]
    have hlen : (d :: ds).length * ds1.length = ds1.length + ds.length * ds1.length := by rw [List.length_cons, Nat.succ_mul, Nat.add_comm]
    rw [hlen] at hl
    obtain ⟨e1, g1, g2⟩ := loop_pure (k := k1) (cond := cond1) (elt := elt) (f := f d) (p := p d) (e0 := e0.set k (some d)) hs1 ds1 acc (e0.set k (some d)) hs1 (hc d List.mem_cons_self) (hf d List.mem_cons_self)
    have w1 : wipeE e1 [k, k1] = e0 := by
      show (e1.set k1 none).set k none = e0
      rw [g2, List.set_set, h0]
    have la : (acc ++ (ds1.filter (p d)).map fun d1 => frzQ (f d d1)).length + ds.length * ds1.length ≤ 100000 := by
      have := List.length_filter_le (p d) ds1
      rw [List.length_append, List.length_map]; omega
    obtain ⟨e', j1, j2⟩ := loop2_pure hkk h0 h1 ds _ e1 w1 la (fun d hd => hm d (List.mem_cons_of_mem _ hd)) (fun d hd => hc d (List.mem_cons_of_mem _ hd)) (fun d hd => hf d (List.mem_cons_of_mem _ hd))
    refine ⟨e', ?_, j2⟩
    simp only [loopL2, he, tg_nm, e_yes, m1, m2]
    rw [if_pos (by omega), g1]
    simp only [bind_ok]
    rw [j1]
    simp
theorem lc2_pure {k k1 : Nat} (hkk : k ≠ k1) {ma1 : EM Arg} {cond1 : EM Bool} {elt : EM D} (f : D → D → D) (p : D → D → Bool) (ds1 : List D) {e : EnvD} {ds : List D} (hz : fzL ds = true) (hl : ds.length * ds1.length ≤ 100000)
    (hm : ∀ d ∈ ds, ∃ x, ma1 ((e.set k1 none).set k (some d)) = .ok (x, (e.set k1 none).set k (some d)) ∧ (x.get ((e.set k1 none).set k (some d))).bind seq2 = some ds1)
    (hc : ∀ d ∈ ds, ∀ d1 ∈ ds1, cond1 ((e.set k (some d)).set k1 (some d1)) = .ok (p d d1, (e.set k (some d)).set k1 (some d1)))
    (hf : ∀ d ∈ ds, ∀ d1 ∈ ds1, p d d1 = true → elt ((e.set k (some d)).set k1 (some d1)) = .ok (f d d1, (e.set k (some d)).set k1 (some d1))) :
    kL2 (.nm k) mYes ma1 (.nm k1) cond1 elt [k, k1] [k1] (ds, e) = .ok (.lst true (ds.flatMap (fun d => (ds1.filter (p d)).map fun d1 => frzQ (f d d1))), (e.set k1 (restV e k1)).set k (restV e k)) := by
  have a1 : ∀ d, ((e.set k1 none).set k none).set k (some d) = (e.set k1 none).set k (some d) := fun d => by rw [List.set_set]
  have a2 : ∀ d d1, (((e.set k1 none).set k none).set k (some d)).set k1 (some d1) = (e.set k (some d)).set k1 (some d1) := fun d d1 => by
    rw [List.set_set, List.set_comm _ _ hkk.symm, List.set_set]
  obtain ⟨e', j1, j2⟩ := loop2_pure (ma1 := ma1) (cond1 := cond1) (elt := elt) (f := f) (p := p) (ds1 := ds1) (e0 := (e.set k1 none).set k none) hkk (by rw [List.set_set]) (by rw [List.set_comm _ _ hkk, List.set_set]) ds [] e rfl (by simpa using hl)
    (fun d hd => by rw [a1]; exact hm d hd) (fun d hd d1 h1 => by rw [a2]; exact hc d hd d1 h1) (fun d hd d1 h1 => by rw [a2]; exact hf d hd d1 h1)
  show (if fzL ds = true then _ else _) = _
  rw [if_pos hz, j1]
  simp only [bind_ok, kLc2_ok, List.nil_append, restE]
  have j2 : (e'.set k1 none).set k none = (e.set k1 none).set k none := j2
  have r : ∀ (a : EnvD) (x y : Option D), (((a.set k1 none).set k none).set k1 x).set k y = (a.set k1 x).set k y := fun a x y => by
    rw [List.set_comm none x hkk, List.set_set, List.set_set]
  rw [← r e', j2, r e]
end Mi
namespace Mi
open PySem PySem.Spec PyProof.Rows L2
/-! ### dict.copy, list.index, in of a list of tuples, the comprehension over the empty dict -/
theorem upd_id {H : Hp} {x : Addr} {o : HO} (h : H x = some o) : upd H x o = H := by
  funext b
  unfold upd
  split
  · rename_i e; rw [e, h]
  · rfl
theorem mt_copy {X : Cx} : MtR X "dict.copy" (fun x vs H Q => ∃ (a : Addr) (kvs : List (Key × V)), x = .ref a ∧ vs = [] ∧ H a = some (.dK kvs) ∧ ∀ p, H p = none → Q (.ref p) (upd H p (.dK kvs))) := by
  intro pins s σ H x xs v us Q I rx rxs h
  obtain ⟨a, kvs, rfl, rfl, hd, q⟩ := h
  cases rx
  cases rxs
  obtain ⟨z, hs, vs, rel, dd⟩ := (show ObjOk X.prog X.w H s.heap a (.dK kvs) from I.hok a _ hd)
  have hm : (s.heap.objs.size == sysModules) = false := beq_eq_false_iff_ne.mpr (Nat.ne_of_gt I.big)
  exact call_meetsIn PySem.F.slot_dict_copy dd.typeIs PySem.F.entry_dict_copy (PySem.F.args_dict_copy_1 _) (meets_dict_copy (mixKind X.prog X.w) a hs) ⟨vs, dd, by rw [← rel.length]; exact z, fun h' d' _ hk =>
    ⟨.ref s.heap.objs.size, upd H s.heap.objs.size (.dK kvs), I.laid (t' := s.toks) hk (Nat.le_refl _) (show ObjOk X.prog X.w _ _ _ (.dK kvs) from ⟨z, hm, vs, rel, d'⟩), rfl, q _ (I.hok.fresh (Nat.le_refl _))⟩⟩
def copyD : D → Option D
  | .dic _ ks ws => if fzL ks = true ∧ fzL ws = true then some (.dic true ks ws) else none
  | _ => none
section
variable {X : Cx} {G : Gm} {W : WX} {lv : Nat} {a b e o : Expr} {es : List Expr} {ma mb : EM Arg} {mas : EM (List Arg)} {m : EM D} {apos cpos p pos : Pos} {x : Str}
theorem r_copy (s : St0 X G) (ha : PE X e (tArg G W ma)) (hbase : attributeBase e "copy" X.env (eval e X.env) = eval e X.env := by rfl) (hline : (apos.endLine == cpos.line) = true := by rfl) :
    PE X (.Call (.Attribute e "copy" apos) [] [] cpos) (tE G W (mUn copyD ma)) :=
  (pe_bm0 PySem.F.plainAttrs_dict PySem.F.slot_dict_copy PySem.F.type_dict_copy mt_copy ha hbase hline).weak fun σ H Q q => by
    obtain ⟨a, env, rfl, rel, post⟩ := q
    refine tArg_of rel post fun x e b v st r ar p => ?_
    dsimp only at p
    cases hx : x.get e with
    | none => rw [hx] at p; exact (show False from p).elim
    | some d =>
      rw [hx] at p
      dsimp only at p
      obtain ⟨d', hd, k'⟩ := p.lift r
      obtain ⟨r1, p1⟩ := ar.rep r hx
      match d, hd, p1 with
      | .dic o ks ws, hd, p1 =>
        simp only [copyD] at hd
        split at hd
        · rename_i z; cases hd
          obtain ⟨y, u, kv, vs, rfl, h1, h2, h3, h4, h5⟩ := rep_dic r.ok p1
          cases h2
          rename_i kvs
          exact ⟨.inr (.inr (.inl ⟨rfl, .inl ⟨_, h1⟩⟩)), y, kvs, rfl, rfl, h1, new_dic r.ok z.1 z.2 h4 h5 fun z c gr ok rp => k' c gr ok z rp⟩
        · cases hd
end
def idxF (l ds : List D) : Option (D × List D) := match ds with
  | [.str s] => match strsOf l with
    | some ys => if s ∈ ys then some (.int (ys.idxOf s : Nat), l) else none
    | none => none
  | _ => none
theorem met_idx {C : KM} : MetOk C (rIndex C.K) idxF := fun a x vs us l ds d l' n s p Q k hx hl ps hf q => by
  match ds, hf, ps with
  | [.str z], hf, ps =>
    simp only [idxF] at hf
    cases hy : strsOf l with
    | none => rw [hy] at hf; cases hf
    | some ys =>
      rw [hy] at hf
      dsimp only at hf
      split at hf
      · rename_i hm; cases hf
        obtain ⟨u, rfl, ru, hu⟩ := one_rep ps
        cases rep_str hu
        have hv := strs_rep hy hl
        subst hv
        have hlt : ys.idxOf z < ys.length := List.idxOf_lt_length_iff.mpr hm
        have hz : fzL l = true := by
          have : ∀ (l : List D) (ys : List Str), strsOf l = some ys → l = ys.map .str := by
            intro l
            induction l with
            | nil => intro ys h; cases h; rfl
            | cons d l ih =>
              intro ys h
              cases d <;> simp only [strsOf] at h <;> (try (cases h; done))
              rename_i s
              cases e : strsOf l with
              | none => rw [e] at h; cases h
              | some zs => rw [e] at h; cases h; rw [ih zs e]; rfl
          rw [this l ys hy]
          exact fzL_strs ys
        refine ⟨x, ys.map V.str, .str z, ys.idxOf z, .str z, rfl, rfl, SqL.of hx, rfl, by rw [List.all_map, List.all_eq_true]; intro _ _; rfl, ?_, ?_, fun m z' hmj hz' => ?_, ?_⟩
        · rw [List.getElem?_map, List.getElem?_eq_getElem hlt, List.getElem_idxOf hlt]; rfl
        · simp [eqV]
        · rw [List.getElem?_map] at hz'
          have hml : m < ys.length := by omega
          rw [List.getElem?_eq_getElem hml] at hz'
          cases hz'
          have hne := List.not_of_lt_findIdx (p := (· == z)) (xs := ys) (i := m) hmj
          simp [eqV]
          simpa using hne
        · have := q (.int (ys.idxOf z : Nat)) (ys.map V.str) s n p hz hl ⟨0, [], by simp [fz], by simp [Rep]⟩
          rw [upd_id hx] at this
          exact this
      · cases hf
section
variable {X : Cx} {G : Gm} {W : WX} {lv : Nat} {a b e o : Expr} {es : List Expr} {ma mb : EM Arg} {mas : EM (List Arg)} {m : EM D} {apos cpos p pos : Pos} {x : Str}
theorem r_index (s : St0 X G) (j : Nat) (hN : X.N[j]? = some x) (hv : Vis X.env.scope x) (ha : PA X [e] (tArgs G W mas)) (hd : (x == ("__debug__" : Str)) = false := by decide) (hcd : (x == ("__classdict__" : Str)) = false := by decide)
    (hbase : attributeBase (.Name x p) "index" X.env (eval (.Name x p) X.env) = eval (.Name x p) X.env := by rfl) (hfew : ((backTo cpos (starEach [e] X.env)).all (fun x => !x.1) && (backToKw cpos (keywordEach [] X.env)).all (fun x => x.1.isSome)
      && decide ([e].length + ([] : List Keyword).length + (if ([] : List Keyword).isEmpty then 0 else 1) < 30)) = true := by rfl) (hline : (apos.endLine == cpos.line) = true := by rfl) (hs : starEach [e] X.env = (false, eval e X.env) :: starEach [] X.env := by rfl) (hplain : (backTo cpos (starEach [] X.env)).any (·.1) = false := by rfl) :
    PE X (.Call (.Attribute (.Name x p) "index" apos) [e] [] cpos) (tE G W (mMet j mas idxF)) :=
  (pe_bm PySem.F.plainAttrs_list PySem.F.slot_list_index PySem.F.type_list_index mt_index (pe_var hN hv hd hcd) ha hbase hfew hline hs hplain).weak fun _ _ _ q => by
    have := met_w met_idx q
    rw [s.k]; exact this
end
def inXD (d e : D) : Option D := match inQ d e with
  | some b => some (.bl b)
  | none => match e with
    | .lst _ l => if okP 63 d = true ∧ okPL 62 l = true then some (.bl ((toPL l).any fun z => PyData.eqv z (toP d))) else none
    | _ => none
theorem op_inX {X : Cx} {C : KM} (hC : C.K = X.K) (hu : X.A.units + 65 < cLine) : OpR X (compareOp .In) (rD C inXD) := by
  intro pins s σ H x y v u Q I rx ry h
  obtain ⟨a, d1, d2, r1, r2, d, rfl, k, p1, p2, hd, q⟩ := h
  unfold inXD at hd
  cases hi : inQ d1 d2 with
  | some b =>
    rw [hi] at hd
    exact Mi.op_inD hC (by omega) pins s σ a.H x y v u Q I rx ry ⟨a, d1, d2, r1, r2, d, rfl, k, p1, p2, by rw [← hd]; simp [inD, hi], q⟩
  | none =>
    rw [hi] at hd
    dsimp only at hd
    split at hd
    · rename_i o l
      split at hd
      · rename_i z; cases hd
        obtain ⟨s1, s2⟩ := okP_shape d1 63 z.1
        have z2 : okP 63 (.lst o l) = true := by simpa [okP] using z.2
        obtain ⟨s3, s4⟩ := okP_shape (.lst o l) 63 z2
        refine L2.op_inD hu pins s σ a.H _ _ v u Q I rx ry ⟨toP d1, toPL l, ?_, ?_, by simp [SeqAt.shaped, s1]; omega, by have s3' : PyData.canLay0 (.list (toPL l)) = true := s3; have s4' : (PyData.list (toPL l)).depth ≤ 63 := s4; simp [SeqAt.shaped, s3']; omega, q _ a (Grow.refl a) k rep_ofbl⟩
        · rw [← hC]; exact okP_dp k d1 63 _ _ _ z.1 p1
        · rw [← hC]; exact okP_dp k (.lst o l) 63 _ _ _ z2 p2
      · cases hd
    · cases hd
section
variable {X : Cx} {G : Gm} {W : WX} {a b : Expr} {ma mb : EM Arg} {pos : Pos}
theorem r_inX (s : St0 X G) (hu : X.A.units + 65 < cLine) (ha : PE X a (tArg G W ma)) (hb : PE X b (tArg G W mb)) (hm : behindInMarks .In b = false := by first | rfl | exact nobehind _ (by decide) (by decide)) : PE X (.Compare a [.In] [b] pos) (tE G W (mBin inXD ma mb)) :=
  (pe_cmpR (op_inX s.k.symm hu) ha hb hm).weak fun _ _ _ q => bin_w q
end
end Mi
namespace Mi
open PySem PySem.Spec PyProof.Rows L2
/-! ### the comprehension over the empty dict of a slot -/
def mLcE (j : Nat) : EM D := fun env => match env[j]? with
  | some (some (.dic _ [] [])) => .ok (.lst true [], env)
  | _ => .bad
theorem lcE_w {G : Gm} {W : WX} {σ : L2.St} {H : Hp} {Q : VK} {j : Nat} {g : TG} {tt : TT} {te : TE} {own : List Nat} (h : tE G W (mLcE j) σ H Q) : tLockE (tLc (iKeys (tVar j)) g tt te own) σ H Q := by
  obtain ⟨a, env, rfl, rel, post⟩ := h
  unfold mLcE at post
  split at post
  · rename_i o hj
    obtain ⟨v, e1, rp⟩ := rel.slot j _ hj
    obtain ⟨x, u, kv, vs, rfl, h1, h2, h3, h4, h5⟩ := rep_dic rel.ok rp
    cases h2
    rename_i kvs
    have hk : kvs = [] := by
      have := h4.len
      simp at this
      exact this
    subst hk
    refine ⟨x, .dK [], h1, True.intro, fun od => ⟨.ref x, e1, x, od, rfl, .inl ⟨[], upd_same, fun A hA => ?_⟩⟩⟩
    have ne : A ≠ x := by rintro rfl; rw [upd_same] at hA; cases hA
    rw [upd_ne ne] at hA
    refine ⟨fun i m H => i = 0 ∧ H = upd (upd a.H x (.frz od (.dK []))) A (.lst []), ⟨0, rfl, rfl⟩, ?_⟩
    rintro i m H ⟨rfl, rfl⟩
    have hx : (upd (upd a.H x (.frz od (.dK []))) A (.lst [])) x = some (.frz od (.dK [])) := by rw [upd_ne (Ne.symm ne), upd_same]
    refine .inl ⟨⟨hx, Nat.le_refl _⟩, hx, ?_⟩
    have e2 : upd (upd (upd a.H x (.frz od (.dK []))) A (.lst [])) x (.dK []) = upd a.H A (.lst []) := by
      funext y
      by_cases q1 : y = x
      · subst q1; rw [upd_same, upd_ne (Ne.symm ne), h1]
      · rw [upd_ne q1]
        by_cases q2 : y = A
        · subst q2; rw [upd_same, upd_same]
        · rw [upd_ne q2, upd_ne q2, upd_ne q1]
    rw [e2]
    exact new_lst (C := G.C) (r := 0) (p := []) (n := 0) (l := []) (vs := []) rel.ok rfl (by simp [RepL]) (fun z c gr ok rp => post c gr.step (rel.grow gr ok) z rp) A hA
  · exact (show False from post).elim
section
variable {X : Cx} {G : Gm} {W : WX} {lv : Nat} {tg : Expr} {m : EM D} {mt : EM Bool} {pos p : Pos} {x : Str}
theorem r_lcE {elt : Expr} {ifs : List Expr} {scope : Scope} (s : Go X G W lv) (j : Nat) (own : List (Str × Nat)) (t : Tgt) (hN : X.N[j]? = some x) (hv : Vis X.env.scope x) (ok : BlkOk X.N X.env.scope scope own)
    (hg : ∀ (s : Shared) (H : Hp) (C : Addr) (cl : List (Str × Addr)) (fp : List Addr), PG (X.blk s H scope (compEnvC scope cl C X.env) fp) tg (gT G.C.K t))
    (ht : ∀ (s : Shared) (H : Hp) (C : Addr) (cl : List (Str × Addr)) (fp : List Addr), Go (X.blk s H scope (compEnvC scope cl C X.env) fp) G W0 lv → PTs (X.blk s H scope (compEnvC scope cl C X.env) fp) ifs (tT G W0 mt))
    (he : ∀ (s : Shared) (H : Hp) (C : Addr) (cl : List (Str × Addr)) (fp : List Addr), Go (X.blk s H scope (compEnvC scope cl C X.env) fp) G W0 lv → PE (X.blk s H scope (compEnvC scope cl C X.env) fp) elt (tE G W0 m)) (hd : (x == ("__debug__" : Str)) = false := by decide) (hcd : (x == ("__classdict__" : Str)) = false := by decide) (hs : ∀ y, foldedSetIterable (.Name x p) X.env y = pure y := by intro _; rfl) :
    PE X (.ListComp elt [⟨tg, .Name x p, ifs, 0⟩] scope pos) (tE G W (mLcE j)) :=
  (pe_lock (pe_lc s.cm s.n (pi_keys (pe_var hN hv hd hcd)) ok hg (fun s0 H C cl fp => ht s0 H C cl fp (s.blk ..)) (fun s0 H C cl fp => he s0 H C cl fp (s.blk ..)) hs)).weak fun _ _ _ q => lcE_w q
end
/-! rows for simp -/
def lcEV (env : EnvD) : Option (Option D) → Res (D × EnvD)
  | some (some (.dic _ [] [])) => .ok (.lst true [], env)
  | _ => .bad
@[simp] theorem e_lcE {j : Nat} {env : EnvD} : mLcE j env = lcEV env (env[j]?) := by
  unfold mLcE lcEV
  rcases env[j]? with _ | _ | d
  · rfl
  · rfl
  · cases d <;> first | rfl | (rename_i ks ws; cases ks <;> cases ws <;> rfl)
@[simp] theorem lcEV_ok {o : Bool} {env : EnvD} : lcEV env (some (some (.dic o [] []))) = .ok (.lst true [], env) := rfl
end Mi
namespace Mi
open PySem PySem.Spec PyProof.Rows L2
def cs_book : List Str := ["Party"]
def cs_demands : List Str := ["Book"]
def cs_kept : List Str := ["Party"]
def cs_names : List Str := ["Party"]
def cs_tables : List Str := ["Book"]
def cs_world : List Str := ["Book"]
def m__law_feed : EM FlowD :=
  mSeq (mAsg 1 (mC (.int 17)))
  (mSeq (mFor (mIt1 (mFrz (mVarE 0))) (.nm 2) (mAsg 1 (mBin modD (mFrz (mCB intD (mArgs [mFrz (mBin addD (mFrz (mBin addD (mFrz (mBin mulD (mVarA 1) (mFrz (mC (.int 48271))))) (mFrz (mBin modD (mFrz (mCB intD (mArgs [mVarA 2]))) (mFrz (mC (.int 2147483629))))))) (mFrz (mC (.int 11))))]))) (mFrz (mC (.int 2147483647))))))
  (mRet (mLst (mArgs [mFrz (mCB listY (mArgs [mVarA 0])), mFrz (mC (.int 0)), mFrz (mC (.int 0)), mFrz (mVarE 1), mFrz (mC (.int 0))]))))
def g__law_feed : List D → Res (D × EnvD) := runD 1 3 [0] m__law_feed
def m__law_draw : EM FlowD :=
  mSeq (mSetX 0 (mC (.int 4)) (mBin addD (mFrz (mBin ixD (mVarA 0) (mFrz (mC (.int 4))))) (mFrz (mC (.int 1)))))
  (mSeq (mIfS (mAndT (mTB (mBin eqD (mFrz (mBin ixD (mVarA 0) (mFrz (mC (.int 2))))) (mFrz (mC (.int 0))))) (mTB (mBin ltD (mFrz (mBin ixD (mVarA 0) (mFrz (mC (.int 1))))) (mFrz (mCB lenD (mArgs [mFrz (mBin ixD (mVarA 0) (mFrz (mC (.int 0))))])))))) (mSeq (mAsg 2 (mCB absD (mArgs [mFrz (mBin ixD (mFrz (mBin ixD (mVarA 0) (mFrz (mC (.int 0))))) (mFrz (mBin ixD (mVarA 0) (mFrz (mC (.int 1))))))])))
  (mSeq (mSetX 0 (mC (.int 1)) (mBin addD (mFrz (mBin ixD (mVarA 0) (mFrz (mC (.int 1))))) (mFrz (mC (.int 1)))))
  (mIfS (mTB (mBin geD (mVarA 2) (mFrz (mBin powD (mFrz (mC (.int 10))) (mFrz (mC (.int 18))))))) (mSetX 0 (mC (.int 2)) (mVarE 2)) (mSetX 0 (mC (.int 3)) (mBin modD (mFrz (mCB intD (mArgs [mFrz (mBin addD (mFrz (mBin addD (mFrz (mBin mulD (mFrz (mBin ixD (mVarA 0) (mFrz (mC (.int 3))))) (mFrz (mC (.int 69621))))) (mVarA 2))) (mFrz (mC (.int 1))))]))) (mFrz (mC (.int 2147483647)))))))) (mNext))
  (mSeq (mIfS (mTB (mBin gtD (mFrz (mBin ixD (mVarA 0) (mFrz (mC (.int 2))))) (mFrz (mC (.int 0))))) (mSeq (mAsg 3 (mBin modD (mFrz (mCB intD (mArgs [mFrz (mBin ixD (mVarA 0) (mFrz (mC (.int 2))))]))) (mVarA 1)))
  (mSeq (mSetX 0 (mC (.int 2)) (mBin fdivD (mFrz (mBin ixD (mVarA 0) (mFrz (mC (.int 2))))) (mVarA 1)))
  (mRet (mVarM 2 3)))) (mNext))
  (mSeq (mAsg 4 (mBin modD (mFrz (mCB intD (mArgs [mFrz (mBin mulD (mFrz (mBin addD (mFrz (mBin addD (mFrz (mBin ixD (mVarA 0) (mFrz (mC (.int 3))))) (mFrz (mBin mulD (mFrz (mC (.int 7919))) (mFrz (mBin ixD (mVarA 0) (mFrz (mC (.int 4))))))))) (mFrz (mC (.int 1))))) (mFrz (mC (.int 48271))))]))) (mFrz (mC (.int 2147483647)))))
  (mSeq (mAsg 4 (mBin modD (mFrz (mCB intD (mArgs [mFrz (mBin mulD (mVarA 4) (mFrz (mBin addD (mFrz (mBin fdivD (mVarA 4) (mFrz (mC (.int 1009))))) (mFrz (mC (.int 69621))))))]))) (mFrz (mC (.int 2147483647)))))
  (mSeq (mAsg 4 (mBin modD (mFrz (mCB intD (mArgs [mFrz (mBin mulD (mVarA 4) (mFrz (mBin addD (mFrz (mBin fdivD (mVarA 4) (mFrz (mC (.int 2003))))) (mFrz (mC (.int 40692))))))]))) (mFrz (mC (.int 2147483399)))))
  (mRet (mBin modD (mFrz (mCB intD (mArgs [mFrz (mBin fdivD (mVarA 4) (mFrz (mC (.int 64))))]))) (mVarA 1))))))))
def g__law_draw : List D → Res (D × EnvD) := runD 2 5 [0, 1] m__law_draw
def m__law_pick : EM FlowD :=
  mSeq (mAsg 3 (mCB listY (mArgs [mVarA 1])))
  (mSeq (mAsg 4 (mLst (mArgs [])))
  (mSeq (mFor (mIt (mArgs [mVarA 2]) rng1) (.nm 5) (mDrop (mMet 4 (mArgs [mFrz (mMet 3 (mArgs [mFrz (mCall g__law_draw (mArgs [mVarA 0, mFrz (mCB lenD (mArgs [mVarA 3]))]))]) popF)]) appF)))
  (mRet (mVarM 3 4))))
def g__law_pick : List D → Res (D × EnvD) := runD 3 6 [0, 1, 2] m__law_pick
def m__law_folk : EM FlowD :=
  mSeq (mAsg 2 (mCall g__law_pick (mArgs [mVarA 0, mFrz (mC (.str "0123456789")), mFrz (mC (.int 3))])))
  (mSeq (mAsg 3 (mLst (mArgs [])))
  (mSeq (mFor (mIt (mArgs [mFrz (mCall g__law_draw (mArgs [mVarA 0, mFrz (mC (.int 4))]))]) rng1) (.nm 4) (mIfS (mTB (mBin gtD (mFrz (mCall g__law_draw (mArgs [mVarA 0, mFrz (mC (.int 3))]))) (mFrz (mC (.int 0))))) (mDrop (mMet 3 (mArgs [mFrz (mBin ixD (mVarA 2) (mVarA 4))]) appF)) (mIfS (mTB (mBin ninD (mFrz (mBin ixD (mVarA 1) (mFrz (mBin modD (mFrz (mCB intD (mArgs [mVarA 4]))) (mFrz (mCB lenD (mArgs [mVarA 1]))))))) (mVarA 3))) (mDrop (mMet 3 (mArgs [mFrz (mBin ixD (mVarA 1) (mFrz (mBin modD (mFrz (mCB intD (mArgs [mVarA 4]))) (mFrz (mCB lenD (mArgs [mVarA 1]))))))]) appF)) (mNext))))
  (mRet (mCB tupleD (mArgs [mVarA 3])))))
def g__law_folk : List D → Res (D × EnvD) := runD 2 5 [0, 1] m__law_folk
def m_is_comer : EM FlowD :=
  mRet (mAndV (mIsi .tStr (mVarA 0)) (mAndV (mBin eqD (mFrz (mCB lenD (mArgs [mVarA 0]))) (mFrz (mC (.int 1)))) (mBin inD (mVarA 0) (mFrz (mC (.str "0123456789"))))))
def g_is_comer : List D → Res (D × EnvD) := runD 1 1 [0] m_is_comer
def m_ranked : EM FlowD :=
  mSeq (mAsg 1 (mCB sortX (mArgs [mFrz (mLc (mIt1 (mFrz (mVarE 0))) (.nm 2) (mTB (mCall g_is_comer (mArgs [mVarA 2]))) (mVarE 2) [2])])))
  (mRet (mCB tupleD (mArgs [mFrz (mLc (mIt1 (mFrz (mVarE 0))) (.nm 2) (mYes) (mIfE (mTB (mCall g_is_comer (mArgs [mVarA 2]))) (mCB strD (mArgs [mFrz (mMet 1 (mArgs [mFrz (mVarE 2)]) idxF)])) (mVarE 2)) [2])])))
def g_ranked : List D → Res (D × EnvD) := runD 1 3 [0] m_ranked
def m_place_form : EM FlowD :=
  mRet (mTup (mArgs [mFrz (mBin ixD (mVarA 0) (mFrz (mC (.int 0)))), mFrz (mCall g_ranked (mArgs [mFrz (mBin ixD (mVarA 0) (mFrz (mC (.int 1))))]))]))
def g_place_form : List D → Res (D × EnvD) := runD 1 1 [0] m_place_form
def m_is_pair : EM FlowD :=
  mRet (mAndV (mIsi .tTup (mVarA 0)) (mBin eqD (mFrz (mCB lenD (mArgs [mVarA 0]))) (mFrz (mC (.int 2)))))
def g_is_pair : List D → Res (D × EnvD) := runD 1 1 [0] m_is_pair
def m_is_of : EM FlowD :=
  mRet (mAndV (mIsi .tStr (mVarA 0)) (mAndV (mChain leD leD (mFrz (mC (.int 1))) (mFrz (mCB lenD (mArgs [mVarA 0]))) (mFrz (mC (.int 8)))) (mCB allD (mArgs [mFrz (mLc (mIt1 (mFrz (mVarE 0))) (.nm 2) (mYes) (mBin inD (mVarA 2) (mVarA 1)) [2])]))))
def g_is_of : List D → Res (D × EnvD) := runD 2 3 [0, 1] m_is_of
def m_is_label : EM FlowD :=
  mRet (mCall g_is_of (mArgs [mVarA 0, mFrz (mC (.str "abcdefghijklmnopqrstuvwxyz"))]))
def g_is_label : List D → Res (D × EnvD) := runD 1 1 [0] m_is_label
def m_are_unlike : EM FlowD :=
  mRet (mBin eqD (mFrz (mCB lenD (mArgs [mFrz (mDc (mIt1 (mFrz (mVarE 0))) (.nm 1) (mYes) (mVarA 1) (mC (.bl true)) [1])]))) (mFrz (mCB lenD (mArgs [mVarA 0]))))
def g_are_unlike : List D → Res (D × EnvD) := runD 1 2 [0] m_are_unlike
def m_is_name : EM FlowD :=
  mRet (mCall g_is_of (mArgs [mVarA 0, mFrz (mC (.str "ABCDEFGHIJKLMNOPQRSTUVWXYZ"))]))
def g_is_name : List D → Res (D × EnvD) := runD 1 1 [0] m_is_name
def m_is_folk : EM FlowD :=
  mRet (mOrV (mCall g_is_name (mArgs [mVarA 0])) (mCall g_is_comer (mArgs [mVarA 0])))
def g_is_folk : List D → Res (D × EnvD) := runD 1 1 [0] m_is_folk
def m_are_unlike_folk : EM FlowD :=
  mRet (mAndV (mIsi .tTup (mVarA 0)) (mAndV (mCB allD (mArgs [mFrz (mLc (mIt1 (mFrz (mVarE 0))) (.nm 1) (mYes) (mCall g_is_folk (mArgs [mVarA 1])) [1])])) (mCall g_are_unlike (mArgs [mVarA 0]))))
def g_are_unlike_folk : List D → Res (D × EnvD) := runD 1 2 [0] m_are_unlike_folk
def m_form_of : EM FlowD :=
  mSeq (mIfS (mOrT (mNotT (mTB (mCall g_is_pair (mArgs [mVarA 0])))) (mOrT (mNotT (mTB (mCall g_is_label (mArgs [mFrz (mBin ixD (mVarA 0) (mFrz (mC (.int 0))))])))) (mOrT (mNotT (mTB (mCall g_are_unlike_folk (mArgs [mFrz (mBin ixD (mVarA 0) (mFrz (mC (.int 1))))])))) (mTB (mBin gtD (mFrz (mCB lenD (mArgs [mFrz (mBin ixD (mVarA 0) (mFrz (mC (.int 1))))]))) (mFrz (mC (.int 3)))))))) (mExc "NoPlace") (mNext))
  (mRet (mCall g_place_form (mArgs [mVarA 0])))
def g_form_of : List D → Res (D × EnvD) := runD 1 1 [0] m_form_of
def m_are_names : EM FlowD :=
  mSeq (mIfS (mOrT (mNotT (mTB (mIsi .tTup (mVarA 0)))) (mOrT (mTB (mBin gtD (mFrz (mCB lenD (mArgs [mVarA 0]))) (mFrz (mC (.int 3))))) (mNotT (mTB (mCB allD (mArgs [mFrz (mLc (mIt1 (mFrz (mVarE 0))) (.nm 1) (mYes) (mCall g_is_name (mArgs [mVarA 1])) [1])])))))) (mRet (mC (.bl false))) (mNext))
  (mRet (mAndV (mBin eqD (mFrz (mCB listY (mArgs [mVarA 0]))) (mFrz (mCB sortX (mArgs [mVarA 0])))) (mCall g_are_unlike (mArgs [mVarA 0]))))
def g_are_names : List D → Res (D × EnvD) := runD 1 2 [0] m_are_names
def m_is_place_of : EM FlowD :=
  mSeq (mIfS (mOrT (mNotT (mTB (mCall g_is_pair (mArgs [mVarA 2])))) (mOrT (mNotT (mTB (mIsi .tStr (mFrz (mBin ixD (mVarA 2) (mFrz (mC (.int 0)))))))) (mNotT (mTB (mIsi .tTup (mFrz (mBin ixD (mVarA 2) (mFrz (mC (.int 1)))))))))) (mRet (mC (.bl false))) (mNext))
  (mSeq (mAsg 3 (mCB dictD (mArgs [mFrz (mUn (fldG cs_tables "tables") (mVarA 0))])))
  (mSeq (mIfS (mOrT (mTB (mBin ninD (mFrz (mBin ixD (mVarA 2) (mFrz (mC (.int 0))))) (mVarA 3))) (mTB (mBin neD (mFrz (mCB lenD (mArgs [mFrz (mBin ixD (mVarA 2) (mFrz (mC (.int 1))))]))) (mFrz (mBin ixD (mVarA 3) (mFrz (mBin ixD (mVarA 2) (mFrz (mC (.int 0)))))))))) (mRet (mC (.bl false))) (mNext))
  (mRet (mAndV (mCB allD (mArgs [mFrz (mLc (mIt1 (mFrz (mBin ixD (mVarA 2) (mFrz (mC (.int 1)))))) (.nm 4) (mYes) (mAndV (mIsi .tStr (mVarA 4)) (mBin inD (mVarA 4) (mVarA 1))) [4])])) (mCall g_are_unlike (mArgs [mFrz (mBin ixD (mVarA 2) (mFrz (mC (.int 1))))]))))))
def g_is_place_of : List D → Res (D × EnvD) := runD 3 5 [0, 1, 2] m_is_place_of
def m_is_integer : EM FlowD :=
  mRet (mAndV (mIsi .tInt (mVarA 0)) (mNotV (mIsi .tBool (mVarA 0))))
def g_is_integer : List D → Res (D × EnvD) := runD 1 1 [0] m_is_integer
def m_is_within : EM FlowD :=
  mRet (mAndV (mCall g_is_integer (mArgs [mVarA 0])) (mChain leD leD (mVarA 1) (mVarA 0) (mVarA 2)))
def g_is_within : List D → Res (D × EnvD) := runD 3 3 [0, 1, 2] m_is_within
def m_common_divisor : EM FlowD :=
  mSeq (mWhile (fun (e : EnvD) => match e[1]? with | some (some (D.int i)) => i.natAbs + 1 | _ => 0) (mTB (mBin neD (mVarA 1) (mFrz (mC (.int 0))))) (mPar 0 1 (mArgs [mFrz (mVarE 1), mFrz (mBin modD (mVarA 0) (mVarA 1))])))
  (mRet (mCB absD (mArgs [mVarA 0])))
def g_common_divisor : List D → Res (D × EnvD) := runD 2 2 ([] : List Nat) m_common_divisor
def m_is_fraction : EM FlowD :=
  mSeq (mIfS (mOrT (mNotT (mTB (mCall g_is_pair (mArgs [mVarA 0])))) (mOrT (mNotT (mTB (mCall g_is_integer (mArgs [mFrz (mBin ixD (mVarA 0) (mFrz (mC (.int 0))))])))) (mOrT (mNotT (mTB (mCall g_is_integer (mArgs [mFrz (mBin ixD (mVarA 0) (mFrz (mC (.int 1))))])))) (mTB (mBin ltD (mFrz (mBin ixD (mVarA 0) (mFrz (mC (.int 1))))) (mFrz (mC (.int 1)))))))) (mRet (mC (.bl false))) (mNext))
  (mRet (mBin eqD (mFrz (mCall g_common_divisor (mArgs [mFrz (mBin ixD (mVarA 0) (mFrz (mC (.int 0)))), mFrz (mBin ixD (mVarA 0) (mFrz (mC (.int 1))))]))) (mFrz (mC (.int 1)))))
def g_is_fraction : List D → Res (D × EnvD) := runD 1 1 [0] m_is_fraction
def m_is_number_of : EM FlowD :=
  mSeq (mIfS (mTB (mBin eqD (mVarA 0) (mFrz (mC (.int 0))))) (mRet (mCall g_is_integer (mArgs [mVarA 1]))) (mNext))
  (mSeq (mIfS (mTB (mBin eqD (mVarA 0) (mFrz (mC (.int 1))))) (mRet (mCall g_is_fraction (mArgs [mVarA 1]))) (mNext))
  (mRet (mCall g_is_within (mArgs [mVarA 1, mFrz (mC (.int 0)), mFrz (mBin subD (mVarA 0) (mFrz (mC (.int 1))))]))))
def g_is_number_of : List D → Res (D × EnvD) := runD 2 2 [0, 1] m_is_number_of
def m_are_numbers : EM FlowD :=
  mSeq (mIfS (mNotT (mTB (mIsi .tDic (mVarA 2)))) (mRet (mC (.bl false))) (mNext))
  (mRet (mCB allD (mArgs [mFrz (mLcE 2)])))
def g_are_numbers : List D → Res (D × EnvD) := runD 3 4 [0, 1, 2] m_are_numbers
def m_Party__init : EM FlowD :=
  mSeq (mIfS (mNotT (mTB (mCall g_are_names (mArgs [mVarA 2])))) (mBad) (mNext))
  (mSeq (mIfS (mNotT (mTB (mCall g_are_numbers (mArgs [mVarA 1, mVarA 2, mVarA 3])))) (mBad) (mNext))
  (mSeq (mFSet 0 cs_book "book" (mVarE 1))
  (mSeq (mFSet 0 cs_names "names" (mVarE 2))
  (mFSet 0 cs_kept "kept" (mUn copyD (mVarA 3))))))
def g_Party__init : List D → Res (D × EnvD) := runD 4 4 [0, 1, 2, 3] m_Party__init
def m__law_words : EM FlowD :=
  mSeq (mAsg 3 (mLst (mArgs [])))
  (mSeq (mFor (mIt (mArgs [mVarA 2]) rng1) (.nm 4) (mSeq (mAsg 5 (mBin addD (mFrz (mC (.int 2))) (mFrz (mBin mulD (mFrz (mC (.int 6))) (mFrz (mCB intD (mArgs [mFrz (mBin eqD (mFrz (mCall g__law_draw (mArgs [mVarA 0, mFrz (mC (.int 8))]))) (mFrz (mC (.int 0))))])))))))
  (mSeq (mAsg 6 (mUn (joinD "") (mFrz (mLc (mIt (mArgs [mFrz (mBin addD (mFrz (mC (.int 1))) (mFrz (mCall g__law_draw (mArgs [mVarA 0, mVarA 5]))))]) rng1) (.nm 7) (mYes) (mBin ixD (mVarA 1) (mFrz (mCall g__law_draw (mArgs [mVarA 0, mFrz (mC (.int 26))])))) [7]))))
  (mIfS (mTB (mBin ninD (mVarA 6) (mVarA 3))) (mDrop (mMet 3 (mArgs [mFrz (mVarE 6)]) appF)) (mNext)))))
  (mRet (mCB tupleD (mArgs [mFrz (mCB sortX (mArgs [mVarA 3]))]))))
def g__law_words : List D → Res (D × EnvD) := runD 3 8 [0, 1, 2] m__law_words
def m__law_people : EM FlowD :=
  mRet (mCall g__law_words (mArgs [mVarA 0, mFrz (mC (.str "ABCDEFGHIJKLMNOPQRSTUVWXYZ")), mVarA 1]))
def g__law_people : List D → Res (D × EnvD) := runD 2 2 [0, 1] m__law_people
def m__law_ranks : EM FlowD :=
  mSeq (mAsg 1 (mLst (mArgs [])))
  (mSeq (mFor (mIt1 (mFrz (mVarE 0))) (.nm 2) (mIfS (mTB (mBin inD (mVarA 2) (mFrz (mC (.str "0123456789"))))) (mDrop (mMet 1 (mArgs [mFrz (mCB strD (mArgs [mFrz (mCB lenD (mArgs [mFrz (mLc (mIt1 (mFrz (mVarE 0))) (.nm 3) (mAndT (mTB (mBin inD (mVarA 3) (mFrz (mC (.str "0123456789"))))) (mTB (mBin ltD (mVarA 3) (mVarA 2)))) (mVarE 3) [3])]))]))]) appF)) (mDrop (mMet 1 (mArgs [mFrz (mVarE 2)]) appF))))
  (mRet (mCB tupleD (mArgs [mVarA 1]))))
def g__law_ranks : List D → Res (D × EnvD) := runD 1 4 [0] m__law_ranks
def m_is_world : EM FlowD :=
  mRet (mCall g_is_within (mArgs [mVarA 0, mFrz (mC (.int 0)), mFrz (mC (.int 1000))]))
def g_is_world : List D → Res (D × EnvD) := runD 1 1 [0] m_is_world
def m_is_table : EM FlowD :=
  mRet (mAndV (mCall g_is_pair (mArgs [mVarA 0])) (mAndV (mCall g_is_label (mArgs [mFrz (mBin ixD (mVarA 0) (mFrz (mC (.int 0))))])) (mCall g_is_within (mArgs [mFrz (mBin ixD (mVarA 0) (mFrz (mC (.int 1)))), mFrz (mC (.int 0)), mFrz (mC (.int 3))]))))
def g_is_table : List D → Res (D × EnvD) := runD 1 1 [0] m_is_table
def m_are_tables : EM FlowD :=
  mSeq (mIfS (mOrT (mNotT (mTB (mIsi .tTup (mVarA 0)))) (mOrT (mNotT (mTB (mChain leD leD (mFrz (mC (.int 1))) (mFrz (mCB lenD (mArgs [mVarA 0]))) (mFrz (mC (.int 4)))))) (mNotT (mTB (mCB allD (mArgs [mFrz (mLc (mIt1 (mFrz (mVarE 0))) (.nm 1) (mYes) (mCall g_is_table (mArgs [mVarA 1])) [1])])))))) (mRet (mC (.bl false))) (mNext))
  (mSeq (mAsg 2 (mLc (mIt1 (mFrz (mVarE 0))) (.nm 1) (mYes) (mBin ixD (mVarA 1) (mFrz (mC (.int 0)))) [1]))
  (mSeq (mIfS (mOrT (mTB (mBin neD (mVarA 2) (mFrz (mCB sortX (mArgs [mVarA 2]))))) (mNotT (mTB (mCall g_are_unlike (mArgs [mVarA 2]))))) (mRet (mC (.bl false))) (mNext))
  (mRet (mBin leD (mFrz (mCB lenD (mArgs [mFrz (mLc (mIt1 (mFrz (mVarE 0))) (.nm 1) (mTB (mBin eqD (mFrz (mBin ixD (mVarA 1) (mFrz (mC (.int 1))))) (mFrz (mC (.int 3))))) (mVarE 1) [1])]))) (mFrz (mC (.int 1)))))))
def g_are_tables : List D → Res (D × EnvD) := runD 1 3 [0] m_are_tables
def m_is_term : EM FlowD :=
  mSeq (mIfS (mOrT (mNotT (mTB (mIsi .tTup (mVarA 1)))) (mOrT (mTB (mBin neD (mFrz (mCB lenD (mArgs [mVarA 1]))) (mFrz (mC (.int 3))))) (mNotT (mTB (mCall g_is_within (mArgs [mFrz (mBin ixD (mVarA 1) (mFrz (mC (.int 0)))), mFrz (mUn negD (mFrz (mC (.int 99)))), mFrz (mC (.int 99))])))))) (mRet (mC (.bl false))) (mNext))
  (mSeq (mIfS (mOrT (mTB (mBin eqD (mFrz (mBin ixD (mVarA 1) (mFrz (mC (.int 0))))) (mFrz (mC (.int 0))))) (mOrT (mNotT (mTB (mIsi .tStr (mFrz (mBin ixD (mVarA 1) (mFrz (mC (.int 1)))))))) (mOrT (mTB (mBin ninD (mFrz (mBin ixD (mVarA 1) (mFrz (mC (.int 1))))) (mVarA 0))) (mNotT (mTB (mIsi .tStr (mFrz (mBin ixD (mVarA 1) (mFrz (mC (.int 2))))))))))) (mRet (mC (.bl false))) (mNext))
  (mSeq (mIfS (mOrT (mTB (mBin neD (mFrz (mCB lenD (mArgs [mFrz (mBin ixD (mVarA 1) (mFrz (mC (.int 2))))]))) (mFrz (mBin ixD (mVarA 0) (mFrz (mBin ixD (mVarA 1) (mFrz (mC (.int 1))))))))) (mNotT (mTB (mCall g_are_unlike (mArgs [mFrz (mBin ixD (mVarA 1) (mFrz (mC (.int 2))))]))))) (mRet (mC (.bl false))) (mNext))
  (mRet (mCB allD (mArgs [mFrz (mLc (mIt1 (mFrz (mBin ixD (mVarA 1) (mFrz (mC (.int 2)))))) (.nm 2) (mYes) (mBin inD (mVarA 2) (mFrz (mC (.str "abcd")))) [2])])))))
def g_is_term : List D → Res (D × EnvD) := runD 2 3 [0, 1] m_is_term
def m_is_demand : EM FlowD :=
  mSeq (mIfS (mOrT (mNotT (mTB (mCall g_is_pair (mArgs [mVarA 1])))) (mOrT (mNotT (mTB (mIsi .tTup (mFrz (mBin ixD (mVarA 1) (mFrz (mC (.int 0)))))))) (mNotT (mTB (mChain leD leD (mFrz (mC (.int 1))) (mFrz (mCB lenD (mArgs [mFrz (mBin ixD (mVarA 1) (mFrz (mC (.int 0))))]))) (mFrz (mC (.int 8)))))))) (mRet (mC (.bl false))) (mNext))
  (mRet (mAndV (mCB allD (mArgs [mFrz (mLc (mIt1 (mFrz (mBin ixD (mVarA 1) (mFrz (mC (.int 0)))))) (.nm 2) (mYes) (mCall g_is_term (mArgs [mVarA 0, mVarA 2])) [2])])) (mCall g_is_within (mArgs [mFrz (mBin ixD (mVarA 1) (mFrz (mC (.int 1)))), mFrz (mUn negD (mFrz (mC (.int 999)))), mFrz (mC (.int 999))]))))
def g_is_demand : List D → Res (D × EnvD) := runD 2 3 [0, 1] m_is_demand
def m_Book__init : EM FlowD :=
  mSeq (mIfS (mNotT (mTB (mCall g_is_world (mArgs [mVarA 1])))) (mBad) (mNext))
  (mSeq (mIfS (mNotT (mTB (mCall g_are_tables (mArgs [mVarA 2])))) (mBad) (mNext))
  (mSeq (mIfS (mOrT (mNotT (mTB (mIsi .tTup (mVarA 3)))) (mTB (mBin gtD (mFrz (mCB lenD (mArgs [mVarA 3]))) (mFrz (mC (.int 6)))))) (mBad) (mNext))
  (mSeq (mIfS (mNotT (mTB (mCB allD (mArgs [mFrz (mLc (mIt1 (mFrz (mVarE 3))) (.nm 4) (mYes) (mCall g_is_demand (mArgs [mFrz (mCB dictD (mArgs [mVarA 2])), mVarA 4])) [4])])))) (mBad) (mNext))
  (mSeq (mFSet 0 cs_world "world" (mVarE 1))
  (mSeq (mFSet 0 cs_tables "tables" (mVarE 2))
  (mFSet 0 cs_demands "demands" (mVarE 3)))))))
def g_Book__init : List D → Res (D × EnvD) := runD 4 5 [0, 1, 2, 3] m_Book__init
def m_arrangements : EM FlowD :=
  mSeq (mAsg 2 (mLst (mArgs [mFrz (mTup (mArgs []))])))
  (mSeq (mFor (mIt (mArgs [mVarA 1]) rng1) (.nm 3) (mAsg 2 (mLc2 (mIt1 (mFrz (mVarE 2))) (.nm 4) (mYes) (mFrz (mVarE 0)) (.nm 5) (mTB (mBin ninD (mVarA 5) (mVarA 4))) (mBin addD (mVarA 4) (mFrz (mTup (mArgs [mFrz (mVarE 5)])))) [4, 5] [5])))
  (mRet (mVarM 2 2)))
def g_arrangements : List D → Res (D × EnvD) := runD 2 6 [0, 1] m_arrangements
def m_comers : EM FlowD :=
  mRet (mCB listY (mArgs [mFrz (mSl (mFrz (mC (.str "0123456789"))) (mNoP) (mPart (mVarE 0)))]))
def g_comers : List D → Res (D × EnvD) := runD 1 1 [0] m_comers
def m_forms_of : EM FlowD :=
  mSeq (mAsg 2 (mLst (mArgs [])))
  (mSeq (mFor (mIt1 (mFrz (mUn (fldG cs_tables "tables") (mVarA 0)))) (.tp [(.nm 3), (.nm 4)]) (mFor (mIt1 (mFrz (mCall g_arrangements (mArgs [mFrz (mBin addD (mFrz (mCall g_comers (mArgs [mFrz (mC (.int 3))]))) (mFrz (mCB listY (mArgs [mVarA 1])))), mVarA 4])))) (.nm 5) (mIfS (mTB (mBin eqD (mFrz (mCall g_ranked (mArgs [mVarA 5]))) (mVarA 5))) (mDrop (mMet 2 (mArgs [mFrz (mTup (mArgs [mFrz (mVarE 3), mFrz (mVarE 5)]))]) appF)) (mNext))))
  (mRet (mVarM 2 2)))
def g_forms_of : List D → Res (D × EnvD) := runD 2 6 [0, 1] m_forms_of
def m_forms : EM FlowD :=
  mRet (mCall g_forms_of (mArgs [mFrz (mUn (fldG cs_book "book") (mVarA 0)), mFrz (mUn (fldG cs_names "names") (mVarA 0))]))
def g_forms : List D → Res (D × EnvD) := runD 1 1 [0] m_forms
def m_law : EM FlowD :=
  mSeq (mAsg 1 (mCall g__law_feed (mArgs [mVarA 0])))
  (mSeq (mAsg 2 (mBin ixD (mFrz (mCall g__law_words (mArgs [mVarA 1, mFrz (mC (.str "abcdefghijklmnopqrstuvwxyz")), mFrz (mC (.int 1))]))) (mFrz (mC (.int 0)))))
  (mSeq (mAsg 3 (mCall g__law_folk (mArgs [mVarA 1, mFrz (mCall g__law_people (mArgs [mVarA 1, mFrz (mC (.int 3))]))])))
  (mSeq (mAsg 4 (mCB sortX (mArgs [mFrz (mCall g__law_pick (mArgs [mVarA 1, mFrz (mC (.str "0123456789")), mFrz (mC (.int 3))]))])))
  (mSeq (mAsg 5 (mCB sortX (mArgs [mFrz (mLc (mIt1 (mFrz (mVarE 3))) (.nm 6) (mTB (mBin inD (mVarA 6) (mFrz (mC (.str "0123456789"))))) (mVarE 6) [6])])))
  (mSeq (mAsg 7 (mCB tupleD (mArgs [mFrz (mLc (mIt1 (mFrz (mVarE 3))) (.nm 6) (mYes) (mIfE (mTB (mBin inD (mVarA 6) (mVarA 5))) (mBin ixD (mVarA 4) (mFrz (mMet 5 (mArgs [mFrz (mVarE 6)]) idxF))) (mVarE 6)) [6])])))
  (mSeq (mAsg 8 (mCB tupleD (mArgs [mFrz (mLc (mIt1 (mFrz (mVarE 3))) (.nm 6) (mYes) (mIfE (mTB (mBin inD (mVarA 6) (mVarA 5))) (mBin ixD (mVarA 5) (mFrz (mBin subD (mFrz (mBin subD (mFrz (mCB lenD (mArgs [mVarA 5]))) (mFrz (mC (.int 1))))) (mFrz (mMet 5 (mArgs [mFrz (mVarE 6)]) idxF))))) (mVarE 6)) [6])])))
  (mSeq (mAsg 9 (mTup (mArgs [mFrz (mVarE 2), mFrz (mCall g__law_ranks (mArgs [mVarA 3]))])))
  (mSeq (mIfS (mOrT (mTB (mBin neD (mFrz (mCall g_form_of (mArgs [mFrz (mTup (mArgs [mFrz (mVarE 2), mFrz (mVarE 3)]))]))) (mVarA 9))) (mOrT (mTB (mBin neD (mFrz (mCall g_form_of (mArgs [mFrz (mTup (mArgs [mFrz (mVarE 2), mFrz (mVarE 7)]))]))) (mVarA 9))) (mTB (mBin neD (mFrz (mCall g_form_of (mArgs [mVarA 9]))) (mVarA 9))))) (mRet (mC (.bl false))) (mNext))
  (mSeq (mAsg 10 (mCall g_form_of (mArgs [mFrz (mTup (mArgs [mFrz (mVarE 2), mFrz (mVarE 8)]))])))
  (mSeq (mIfS (mOrT (mTB (mBin neD (mVarA 10) (mFrz (mTup (mArgs [mFrz (mVarE 2), mFrz (mCall g__law_ranks (mArgs [mVarA 8]))]))))) (mTB (mBin neD (mFrz (mBin eqD (mVarA 10) (mVarA 9))) (mFrz (mBin ltD (mFrz (mCB lenD (mArgs [mVarA 5]))) (mFrz (mC (.int 2)))))))) (mRet (mC (.bl false))) (mNext))
  (mSeq (mAsg 11 (mCB tupleD (mArgs [mFrz (mCB sortX (mArgs [mFrz (mLc (mIt1 (mFrz (mVarE 3))) (.nm 6) (mTB (mBin ninD (mVarA 6) (mVarA 5))) (mVarE 6) [6])]))])))
  (mSeq (mAsg 12 (mMake "Party" g_Party__init (mArgs [mFrz (mMake "Book" g_Book__init (mArgs [mFrz (mC (.int 2)), mFrz (mTup (mArgs [mFrz (mTup (mArgs [mFrz (mVarE 2), mFrz (mCB lenD (mArgs [mVarA 3]))]))])), mFrz (mTup (mArgs []))])), mVarA 11, mFrz (mDic0)])))
  (mRet (mBin inXD (mVarA 9) (mFrz (mCall g_forms (mArgs [mVarA 12])))))))))))))))))
def g_law : List D → Res (D × EnvD) := runD 1 13 [0] m_law
end Mi
namespace Mi
open PySem PySem.Spec PyProof.Rows L2
@[simp] theorem sortX_l {o : Bool} {l : List D} : sortX [.lst o l] = sortD [.lst o l] := rfl
@[simp] theorem listY_d {o : Bool} {ks ws : List D} : listY [.dic o ks ws] = listX [.dic o ks ws] := rfl
@[simp] theorem listY_g {ds : List (Key × D)} : listY [dicG ds] = listX [dicG ds] := rfl
@[simp] theorem listY_l {o : Bool} {l : List D} : listY [.lst o l] = listX [.lst o l] := rfl
def isInt : D → Bool
  | .int _ => true
  | _ => false
theorem s_is_integer {d : D} {t : String} (h : tyD d = some t) (z : fz d = true) : g_is_integer [d] = .ok (.bl (isInt d), [some d]) := by
  cases d <;> simp [tyD] at h <;> simp_all [g_is_integer, runD, ownOk, m_is_integer, isK, outsD, isInt, List.range, List.range.loop]
@[simp] theorem fzL_mapint (l : List Int) : fzL (l.map D.int) = true := fzL_ints l
theorem pow_18 : powD (.int 10) (.int 18) = some (.int 1000000000000000000) := by simp [powD]
theorem ixD_cells {b : Bool} {cells : List Int} {i : Int} (h : 0 ≤ i) (h2 : i < cells.length) : ∃ z, ixD (.lst b (cells.map .int)) (.int i) = some (.int z) := by
  have e : i.toNat < cells.length := by omega
  refine ⟨cells[i.toNat], ?_⟩
  simp [ixD, atI, ixN, h, h2, pick, e]
theorem deck_loop (s : D) : ∀ (l : List Int) (acc : List D) (x : Option D), ∃ y, loopL (.nm 1) mYes (mCB intD (mArgs [mVarA 1])) [1] (l.map .int) acc [some s, x] = .ok (acc ++ l.map .int, [some s, y])
  | [], acc, x => ⟨x, by simp [loopL]⟩
  | z :: l, acc, x => by
    obtain ⟨y, h⟩ := deck_loop s l (acc ++ [.int z]) (some (.int z))
    refine ⟨y, ?_⟩
    simp [loopL, mTg, wipeE] at h ⊢
    exact h
theorem cut_len (l : List Int) (lo hi : Option Int) : (cutD l lo hi).length ≤ l.length := by
  unfold cutD
  rw [List.length_take, List.length_drop]; omega
theorem mul_48 (x : Int) : mulD (.int x) (.int 48271) = some (.int (x * 48271)) := mulD_i (.inl (by decide))
theorem mul_79 (x : Int) : mulD (.int 7919) (.int x) = some (.int (7919 * x)) := mulD_i (.inr (by decide))
theorem mul_a (x : Int) : mulD (.int (x % 2147483647)) (.int (x % 2147483647 / 1009 + 69621)) = some (.int (x % 2147483647 * (x % 2147483647 / 1009 + 69621))) := mulD_i (.inr (by omega))
theorem mul_b (x : Int) : mulD (.int (x % 2147483647)) (.int (x % 2147483647 / 2003 + 40692)) = some (.int (x % 2147483647 * (x % 2147483647 / 2003 + 40692))) := mulD_i (.inr (by omega))
theorem mod_a (x : Int) : modD (.int x) (.int 2147483647) = some (.int (x % 2147483647)) := modD_i (by decide)
theorem mod_b (x : Int) : modD (.int x) (.int 2147483399) = some (.int (x % 2147483399)) := modD_i (by decide)
theorem div_a (x : Int) : fdivD (.int x) (.int 1009) = some (.int (x / 1009)) := fdivD_i (by decide) (by decide)
theorem div_b (x : Int) : fdivD (.int x) (.int 2003) = some (.int (x / 2003)) := fdivD_i (by decide) (by decide)
end Mi
namespace Mi
open PySem PySem.Spec PyProof.Rows L2
/-! ### texts of signs -/
def one (c : Nat) : Str := ⟨#[c]⟩
def txt (l : List Nat) : Str := ⟨l.toArray⟩
theorem txt_cps (l : List Nat) : (txt l).cps.toList = l := by simp [txt]
theorem txt_len (l : List Nat) : (txt l).length = l.length := by simp [txt, Str.length]
theorem str_txt (s : Str) : s = txt s.cps.toList := by
  obtain ⟨⟨l⟩⟩ := s; rfl
theorem strsOf_ones : ∀ l : List Nat, strsOf (l.map fun c => .str (one c)) = some (l.map one)
  | [] => rfl
  | c :: l => by
    rw [List.map_cons, strsOf, strsOf_ones l]; rfl
theorem strsOf_map : ∀ l : List Str, strsOf (l.map .str) = some l
  | [] => rfl
  | c :: l => by rw [List.map_cons, strsOf, strsOf_map l]; rfl
theorem joinL_ones : ∀ l : List Nat, TL.joinL [] (l.map fun c => [c]) = l
  | [] => rfl
  | [c] => rfl
  | c :: d :: l => by
    show [c] ++ ([] ++ TL.joinL [] ((d :: l).map fun c => [c])) = _
    rw [joinL_ones (d :: l)]; rfl
theorem join_ones (l : List Nat) : Txt.join "" (l.map one) = txt l := by
  have h1 : Txt.join "" (l.map one) = Str.join "" (l.map one) := by
    have := join_plain_closes (sep := "") (l := l.map one)
    simpa using this
  rw [h1]
  apply str_ext
  rw [txt_cps]
  have := TL.tl_join "" (l.map one)
  show TL.tl (Str.join "" (l.map one)) = l
  rw [this, List.map_map]
  exact joinL_ones l
theorem sum_ones (l : List Nat) : ((l.map one).map (·.length)).sum = l.length := by
  induction l with
  | nil => rfl
  | cons c l ih => simp only [List.map_cons, List.sum_cons, ih, List.length_cons]; show 1 + l.length = _; omega
theorem joinD_ones (b : Bool) (l : List Nat) (h : l.length ≤ 1000) : joinD "" (.lst b (l.map fun c => .str (one c))) = some (.str (txt l)) := by
  simp only [joinD, strsOf_ones]
  rw [if_pos (by rw [sum_ones, List.length_map]; show l.length + l.length * 0 ≤ _; omega), join_ones]
/-! ### labels -/
def sm : Str := "abcdefghijklmnopqrstuvwxyz"
def okLab (s : Str) : Prop := 1 ≤ s.length ∧ s.length ≤ 8 ∧ ∀ c ∈ s.cps.toList, c ∈ sm.cps.toList
theorem ix_sm {r : Int} (h : 0 ≤ r) (h2 : r < 26) : ∃ c ∈ sm.cps.toList, ixD (.str sm) (.int r) = some (.str (one c)) := by
  have hl : sm.cps.toList.length = 26 := by decide +kernel
  have hs : sm.length ≤ sizeLine := by rw [szl]; show sm.cps.size ≤ _; rw [← Array.length_toList, hl]; decide
  have e : r.toNat < sm.cps.toList.length := by rw [hl]; omega
  have h3 : r < (sm.cps.toList.length : Int) := by rw [hl]; exact h2
  refine ⟨sm.cps.toList[r.toNat], List.getElem_mem e, ?_⟩
  simp only [ixD, hs, if_true, atI, ixN, h, h3, Option.bind_some, List.getElem?_eq_getElem e, Option.map_some, one]
end Mi
namespace Mi
open PySem PySem.Spec PyProof.Rows L2
def okT (d : D) : Prop := fz d = true ∧ (tyD d).isSome = true
theorem s_is_int {d : D} (h : okT d) : g_is_integer [d] = .ok (.bl (isInt d), [some d]) := by
  obtain ⟨z, h⟩ := h
  cases e : tyD d with
  | none => rw [e] at h; cases h
  | some t => exact s_is_integer e z
theorem fz_int' (z : Int) : okT (.int z) := ⟨by simp, rfl⟩
def within (d : D) (lo hi : Int) : Bool := match d with
  | .int i => decide (lo ≤ i) && decide (i ≤ hi)
  | _ => false
theorem s_is_within {d : D} (h : okT d) (lo hi : Int) : g_is_within [d, .int lo, .int hi] = .ok (.bl (within d lo hi), [some d, some (.int lo), some (.int hi)]) := by
  have hz := h.1
  have hs := s_is_int h
  cases e : isInt d with
  | false =>
    have e2 : within d lo hi = false := by cases d <;> first | rfl | simp [isInt] at e
    rw [e] at hs
    simp [g_is_within, runD, ownOk, m_is_within, outsD, List.range, List.range.loop, ownVars, putBack, hz, hs, e2]
  | true =>
    cases d <;> simp [isInt] at e
    rename_i i
    simp [isInt] at hs
    by_cases h1 : lo ≤ i <;> simp [g_is_within, runD, ownOk, m_is_within, outsD, List.range, List.range.loop, ownVars, putBack, hs, within, h1]
theorem s_is_world {d : D} (h : okT d) : g_is_world [d] = .ok (.bl (within d 0 1000), [some d]) := by
  have hz := h.1
  simp [g_is_world, runD, ownOk, m_is_world, outsD, List.range, List.range.loop, ownVars, putBack, hz, s_is_within h]
/-! ### divisors -/
end Mi
namespace Mi
open PySem PySem.Spec PyProof.Rows L2
def chs (s : Str) : List D := s.cps.toList.map fun c => .str (one c)
theorem seqI_str (s : Str) : seqI [.str s] = some (chs s) := rfl
theorem fz_chs (s : Str) : fzL (chs s) = true := fzL_map _ (fun _ => by simp) _
theorem len_chs (s : Str) : (chs s).length = s.length := by simp [chs, Str.length]
theorem inD_one (c : Nat) (t : Str) : inD (.str (one c)) (.str t) = some (.bl (decide (c ∈ t.cps.toList))) := by
  simp [inD, inQ, one]
theorem lenD_s {s : Str} (h : s.length ≤ 1000) : lenD [.str s] = some (.int s.length) := by
  simp only [lenD]
  rw [if_pos (by rw [szl]; omega)]
theorem s_is_of {s t : Str} (h1 : 1 ≤ s.length) (h2 : s.length ≤ 8) (h3 : ∀ c ∈ s.cps.toList, c ∈ t.cps.toList) : g_is_of [.str s, .str t] = .ok (.bl true, [some (.str s), some (.str t)]) := by
  have hlc := lc_pure (k := 2) (elt := mBin inD (mVarA 2) (mVarA 1)) (fun _ => .bl true) (e := [some (.str s), some (.str t), none]) (ds := chs s) (fz_chs s) (by rw [len_chs]; omega) (fun d hd => by
    obtain ⟨c, hc, rfl⟩ := List.mem_map.mp hd
    simp [inD_one, h3 c hc])
  have hall : allD [.lst false ((chs s).map fun _ => .bl true)] = some (.bl true) := allD_true fun d hd => by
    obtain ⟨_, _, rfl⟩ := List.mem_map.mp hd; rfl
  have hfl : fzL ((chs s).map fun _ => D.bl true) = true := fzL_map _ (fun _ => by simp) _
  have l1 : (1 : Int) ≤ s.length := by omega
  have l2 : (s.length : Int) ≤ 8 := by omega
  simp only [frzQ_bl] at hlc
  simp [g_is_of, m_is_of, runD, ownOk, outsD, List.range, List.range.loop, isK, lenD_s (show s.length ≤ 1000 by omega), l1, l2, sqV_ok (seqI_str s), hlc, restV, frz_lstt hfl, hall]
theorem s_is_label {s : Str} (h : okLab s) : g_is_label [.str s] = .ok (.bl true, [some (.str s)]) := by
  have := s_is_of h.1 h.2.1 h.2.2
  simp only [sm] at this
  simp [g_is_label, m_is_label, runD, ownOk, outsD, List.range, List.range.loop, ownVars, putBack, this]
theorem dic_len (ds : List (Key × D)) : lenD [.dic false (ds.map fun p => unkD p.1) (ds.map (·.2))] = some (.int ds.length) := by simp
theorem frz_dicG {ds : List (Key × D)} (h : fzL (ds.map (·.2)) = true) : frzQ (dicG ds) = .dic false (ds.map fun p => unkD p.1) (ds.map (·.2)) := by
  unfold frzQ dicG
  simp [frz, frzL_fz _ h]
theorem s_are_unlike {d : D} {l : List Str} (z : fz d = true) (hs : seqI [d] = some (l.map .str)) (hl : l.length ≤ 1000) (hn : lenD [d] = some (.int l.length)) (hu : l.Nodup) : g_are_unlike [d] = .ok (.bl true, [some d]) := by
  have hfl : fzL (l.map D.str) = true := fzL_strs l
  have hdc := dc_pure (k := 1) (ek := mVarA 1) (ev := mC (.bl true)) (fun x => match x with | .str s => .inr s | _ => .inl 0) (fun _ => .bl true) (e := [some d, none]) (ds := l.map D.str) hfl (by rw [List.length_map]; exact hl) (fun x hx => by
    obtain ⟨s, _, rfl⟩ := List.mem_map.mp hx
    exact ⟨.var 1, by simp, by simp [keyD]⟩) (fun x _ => by simp)
  have hm : mergeG ((l.map D.str).map fun x => ((match x with | .str s => Sum.inr s | _ => Sum.inl 0 : Key), frzQ (.bl true))) [] = l.map fun s => ((Sum.inr s : Key), D.bl true) := by
    rw [mergeG_new]
    · simp
    · simp only [List.map_nil, List.nil_append, List.map_map]
      unfold List.Nodup
      rw [List.pairwise_map]
      exact List.Pairwise.imp (fun h e => h (Sum.inr.inj e)) hu
  rw [hm] at hdc
  have hfz : fzL ((l.map fun s => ((Sum.inr s : Key), D.bl true)).map (·.2)) = true := by rw [List.map_map]; exact fzL_map _ (fun _ => by simp) _
  simp [g_are_unlike, m_are_unlike, runD, ownOk, outsD, List.range, List.range.loop, z, frzQ_fz, sqV_ok hs, hdc, restV, frz_dicG hfz, hn]
end Mi
namespace Mi
open PySem PySem.Spec PyProof.Rows L2
@[simp] theorem ixD_t0 {x y : D} (h : fz x = true) : ixD (.tup [x, y]) (.int 0) = some x := by simp [ixD, atI, ixN, pick, h]
@[simp] theorem ixD_t1 {x y : D} (h : fz y = true) : ixD (.tup [x, y]) (.int 1) = some y := by simp [ixD, atI, ixN, pick, h]
theorem s_is_pair {l : List D} (z : fzL l = true) : g_is_pair [.tup l] = .ok (.bl (decide ((l.length : Int) = 2)), [some (.tup l)]) := by
  simp [g_is_pair, runD, ownOk, m_is_pair, isK, outsD, List.range, List.range.loop, z]
/-! ### tables -/
def tabD (p : Str × Int) : D := .tup [.str p.1, .int p.2]
def tabsD (l : List (Str × Int)) : D := .tup (l.map tabD)
def okTab (p : Str × Int) : Prop := okLab p.1 ∧ 0 ≤ p.2 ∧ p.2 ≤ 3
theorem fz_tab (p : Str × Int) : fz (tabD p) = true := by simp [tabD]
theorem fz_tabs (l : List (Str × Int)) : fzL (l.map tabD) = true := fzL_map _ fz_tab l
def labs (l : List (Str × Int)) : List Str := l.map (·.1)
theorem labs_len (l : List (Str × Int)) : (labs l).length = l.length := List.length_map _
structure okTabs (l : List (Str × Int)) : Prop where
  n1 : 1 ≤ l.length
  n4 : l.length ≤ 4
  tab : ∀ p ∈ l, okTab p
  srt : sortS (labs l) = labs l
  nd : (labs l).Nodup
  big : (l.filter fun p => decide (p.2 = 3)).length ≤ 1
theorem s_is_table {p : Str × Int} (h : okTab p) : g_is_table [tabD p] = .ok (.bl true, [some (tabD p)]) := by
  have hp := s_is_pair (l := [.str p.1, .int p.2]) (by simp)
  have hl := s_is_label h.1
  have hw := s_is_within (fz_int' p.2) 0 3
  simp [within, h.2.1, h.2.2] at hw hp
  simp [g_is_table, m_is_table, runD, ownOk, outsD, List.range, List.range.loop, ownVars, putBack, tabD, hp, hl, hw]
theorem strOk_lab {s : Str} (h : okLab s) : PyData.strOk s = true := by
  have hs : ∀ c ∈ sm.cps.toList, c < 0x110000 := by decide +kernel
  unfold PyData.strOk
  rw [← Array.all_toList, List.all_eq_true]
  exact fun c hc => by simpa using hs c (h.2.2 c hc)
theorem okPL_strs : ∀ (l : List Str) (n : Nat), (∀ s ∈ l, PyData.strOk s = true) → okPL n (l.map .str) = true
  | [], n, _ => by simp [okPL]
  | s :: l, n, h => by
    rw [List.map_cons]
    simp only [okPL, Bool.and_eq_true]
    exact ⟨by cases n <;> simp [okP, h s List.mem_cons_self], okPL_strs l n fun x hx => h x (List.mem_cons_of_mem _ hx)⟩
theorem eqv_strs : ∀ l : List Str, PyData.eqvAll (toPL (l.map .str)) (toPL (l.map .str)) = true
  | [] => rfl
  | s :: l => by
    rw [List.map_cons]
    simp only [toPL, toP, PyData.eqvAll, PyData.eqv, eqv_strs l]
    simp
theorem neD_strs {a b : Bool} {l : List Str} (h : ∀ s ∈ l, PyData.strOk s = true) : neD (.lst a (l.map .str)) (.lst b (l.map .str)) = some (.bl false) := by
  have h1 := okPL_strs l 63 h
  simp [neD, eqQ, scalD, okP, h1, eqB, toP, PyData.eqv, eqv_strs]
theorem vE_own (i : Nat) (env : EnvD) {l : List D} (z : fzL l = true) : vE i env (some (some (.lst true l))) = .ok (.lst false l, env.set i (some (.lst false l))) := by
  simp [vE, frz, frzL_fz l z]
theorem s_are_unlikeO {l : List Str} (hl : l.length ≤ 1000) (hu : l.Nodup) : g_are_unlike [.lst true (l.map .str)] = .ok (.bl true, [some (.lst false (l.map .str))]) := by
  have hfl : fzL (l.map D.str) = true := fzL_strs l
  have h1 := s_are_unlike (d := .lst false (l.map .str)) (l := l) (by simp [hfl]) (by simp [seqI, hfl]) hl (by simp) hu
  have hs : seqI [.lst false (l.map .str)] = some (l.map .str) := by simp [seqI, hfl]
  have hv := vE_own 0 [some (.lst true (l.map .str)), none] hfl
  simp only [List.set_cons_zero] at hv
  simp [g_are_unlike, m_are_unlike, runD, ownOk, outsD, List.range, List.range.loop, hfl, frzQ_fz, sqV_ok hs] at h1 ⊢
  simp [hv, hfl, frzQ_fz, sqV_ok hs]
  exact h1
theorem s_are_tables {l : List (Str × Int)} (h : okTabs l) : g_are_tables [tabsD l] = .ok (.bl true, [some (tabsD l)]) := by
  have hf := fz_tabs l
  have hlen : (l.map tabD).length ≤ 1000 := by rw [List.length_map]; have := h.n4; omega
  have hsq : seqI [tabsD l] = some (l.map tabD) := by simp [tabsD, seqI, hf]
  have z : fz (tabsD l) = true := by simp [tabsD, hf]
  have e1 := lc_pure (k := 1) (elt := mCall g_is_table (mArgs [mVarA 1])) (fun _ => .bl true) (e := [some (tabsD l), none, none]) (ds := l.map tabD) hf hlen (fun d hd => by
    obtain ⟨p, hp, rfl⟩ := List.mem_map.mp hd
    simp [ownVars, putBack, fz_tab, s_is_table (h.tab p hp)])
  have e1' : ((l.map tabD).map fun _ => frzQ (.bl true)) = l.map fun _ => D.bl true := by rw [List.map_map]; rfl
  rw [e1'] at e1
  have hall : allD [.lst false (l.map fun _ => D.bl true)] = some (.bl true) := allD_true fun d hd => by
    obtain ⟨_, _, rfl⟩ := List.mem_map.mp hd; rfl
  have hfl : fzL (l.map fun _ => D.bl true) = true := fzL_map _ (fun _ => by simp) _
  have e2 := lc_pure (k := 1) (elt := mBin ixD (mVarA 1) (mFrz (mC (.int 0)))) (fun x => match x with | .tup (y :: _) => y | _ => .non) (e := [some (tabsD l), none, none]) (ds := l.map tabD) hf hlen (fun d hd => by
    obtain ⟨p, hp, rfl⟩ := List.mem_map.mp hd
    simp [tabD])
  have e2' : ((l.map tabD).map fun d => frzQ ((fun x => match x with | .tup (y :: _) => y | _ => .non) d)) = (labs l).map D.str := by
    unfold labs
    rw [List.map_map, List.map_map]; rfl
  rw [e2'] at e2
  have hs : ∀ s ∈ labs l, PyData.strOk s = true := fun s hs => by
    obtain ⟨p, hp, rfl⟩ := List.mem_map.mp hs
    exact strOk_lab (h.tab p hp).1
  have hfs := fzL_strs (labs l)
  have hsort : sortD [.lst true ((labs l).map .str)] = some (.lst true ((labs l).map .str)) := by
    simp only [sortD, strsOf_map]
    rw [if_pos (by rw [labs_len]; have := h.n4; omega), h.srt]
  have hsort2 : sortD [.lst false ((labs l).map .str)] = some (.lst true ((labs l).map .str)) := hsort
  have hne := neD_strs (a := true) (b := false) hs
  have hu := s_are_unlikeO (l := labs l) (by rw [labs_len]; have := h.n4; omega) h.nd
  have e3 := lc_filter (k := 1) (cond := mTB (mBin eqD (mFrz (mBin ixD (mVarA 1) (mFrz (mC (.int 1))))) (mFrz (mC (.int 3))))) (elt := mVarE 1) (fun x => x) (fun x => match x with | .tup [_, .int i] => decide (i = 3) | _ => false)
    (e := [some (tabsD l), none, some (.lst false ((labs l).map .str))]) (ds := l.map tabD) hf hlen (fun d hd => by
      obtain ⟨p, hp, rfl⟩ := List.mem_map.mp hd
      simp [tabD]) (fun d hd _ => by
      obtain ⟨p, hp, rfl⟩ := List.mem_map.mp hd
      simp [fz_tab])
  have l1 : (1 : Int) ≤ l.length := by have := h.n1; omega
  have l2 : (l.length : Int) ≤ 4 := by have := h.n4; omega
  have e3' : (((l.map tabD).filter fun x => match x with | .tup [_, .int i] => decide (i = 3) | _ => false).map fun d => frzQ d) = (l.filter fun p => decide (p.2 = 3)).map tabD := by
    rw [List.filter_map, List.map_map]
    have : (fun x => match x with | .tup [_, .int i] => decide (i = 3) | _ => false) ∘ tabD = fun p : Str × Int => decide (p.2 = 3) := rfl
    rw [this]
    exact List.map_congr_left fun p _ => frzQ_fz (fz_tab p)
  rw [e3'] at e3
  have hff := fz_tabs (l.filter fun p => decide (p.2 = 3))
  have l3 : ((l.filter fun p => decide (p.2 = 3)).length : Int) ≤ 1 := by have := h.big; omega
  have hlen2 : lenD [tabsD l] = some (.int l.length) := by simp [tabsD]
  have hk : isK .tTup (tabsD l) = some true := rfl
  simp [g_are_tables, m_are_tables, runD, ownOk, outsD, List.range, List.range.loop, ownVars, putBack, z, hk, hlen2, l1, l2, frzQ_fz, sqV_ok hsq, e1, restV, frz_lstt hfl, hall, e2, hsort, frz_lstt hfs, hne, hfs, hu, e3, frz_lstt hff, l3]
end Mi
namespace Mi
open PySem PySem.Spec PyProof.Rows L2
/-! ### the tables as a dict -/
def knG (l : List (Str × Int)) : List (Key × D) := l.map fun p => (.inr p.1, .int p.2)
def knD (l : List (Str × Int)) : D := .dic false (l.map fun p => .str p.1) (l.map fun p => .int p.2)
theorem pairs_tabs : ∀ l : List (Str × Int), pairsD (l.map tabD) = some (knG l)
  | [] => rfl
  | p :: l => by
    rw [List.map_cons]
    show (match keyD (D.str p.1), pairsD (l.map tabD) with | some x, some ds => if fz (D.int p.2) = true then some ((x, D.int p.2) :: ds) else none | _, _ => none) = _
    rw [pairs_tabs l]
    simp [keyD, knG]
theorem dict_tabs {l : List (Str × Int)} (h : (labs l).Nodup) : dictD [tabsD l] = some (dicG (knG l)) := by
  have hm : mergeG (knG l) [] = knG l := by
    rw [mergeG_new]
    · simp
    · simp only [List.map_nil, List.nil_append, knG, List.map_map]
      unfold List.Nodup labs at *
      rw [List.pairwise_map] at h ⊢
      exact List.Pairwise.imp (fun h e => h (Sum.inr.inj e)) h
  simp only [dictD, tabsD, pairs_tabs, Option.map_some, hm]
theorem frz_kn (l : List (Str × Int)) : frzQ (dicG (knG l)) = knD l := by
  rw [frz_dicG (by rw [knG, List.map_map]; exact fzL_map _ (fun _ => by simp) _)]
  simp only [knG, knD, List.map_map]
  rfl
theorem fz_kn (l : List (Str × Int)) : fz (knD l) = true := by
  have h1 : fzL (l.map fun p => D.str p.1) = true := fzL_map _ (fun _ => by simp) _
  have h2 : fzL (l.map fun p => D.int p.2) = true := fzL_map _ (fun _ => by simp) _
  simp [knD, h1, h2]
theorem getK_kn : ∀ {l : List (Str × Int)} {s : Str} {n : Int}, (labs l).Nodup → (s, n) ∈ l → getK (l.map fun p => .str p.1) (l.map fun p => .int p.2) (.inr s) = some (.int n)
  | p :: l, s, n, nd, h => by
    rw [List.map_cons, List.map_cons, getK]
    rcases List.mem_cons.mp h with e | h
    · subst e
      simp [keyD]
    · have nd' : (labs l).Nodup := (List.nodup_cons.mp nd).2
      have hn : ¬ p.1 = s := by
        rintro rfl
        exact (List.nodup_cons.mp nd).1 (List.mem_map.mpr ⟨(p.1, n), h, rfl⟩)
      rw [if_neg (by simp [keyD, hn])]
      exact getK_kn nd' h
theorem ix_kn {l : List (Str × Int)} {s : Str} {n : Int} (nd : (labs l).Nodup) (h : (s, n) ∈ l) : ixD (knD l) (.str s) = some (.int n) := by
  simp only [knD, ixD, keyD, getK_kn nd h, pick, fz_int, if_true]
theorem nin_kn {l : List (Str × Int)} {s : Str} {n : Int} (nd : (labs l).Nodup) (h : (s, n) ∈ l) : ninD (.str s) (knD l) = some (.bl false) := by
  simp only [knD, ninD, inQ, keyD, getK_kn nd h]
  rfl
/-! ### terms, demands -/
structure Trm where
  f : Int
  s : Str
  n : Int
  t : Str
def trmD (x : Trm) : D := .tup [.int x.f, .str x.s, .str x.t]
structure okTrm (l : List (Str × Int)) (x : Trm) : Prop where
  f1 : -99 ≤ x.f
  f2 : x.f ≤ 99
  f0 : x.f ≠ 0
  kn : (x.s, x.n) ∈ l
  ln : (x.t.length : Int) = x.n
  l4 : x.t.length ≤ 4
  nd : x.t.cps.toList.Nodup
  ab : ∀ c ∈ x.t.cps.toList, c ∈ ("abcd" : Str).cps.toList
theorem fz_trm (x : Trm) : fz (trmD x) = true := by simp [trmD]
theorem s_unlike_txt {t : Str} (h : t.length ≤ 1000) (nd : t.cps.toList.Nodup) : g_are_unlike [.str t] = .ok (.bl true, [some (.str t)]) := by
  refine s_are_unlike (l := t.cps.toList.map one) (by simp) ?_ (by simpa [Str.length] using h) ?_ ?_
  · rw [seqI_str, chs, List.map_map]; rfl
  · rw [lenD_s h]; simp [Str.length]
  · unfold List.Nodup
    rw [List.pairwise_map]
    refine List.Pairwise.imp (fun h e => h ?_) nd
    have := congrArg (fun s : Str => s.cps.toList) e
    simpa [one] using this
theorem ix3 {x y z : D} (hx : fz x = true) (hy : fz y = true) (hz : fz z = true) : ixD (.tup [x, y, z]) (.int 0) = some x ∧ ixD (.tup [x, y, z]) (.int 1) = some y ∧ ixD (.tup [x, y, z]) (.int 2) = some z := by
  refine ⟨?_, ?_, ?_⟩ <;> simp [ixD, atI, ixN, pick, hx, hy, hz]
theorem s_is_term {l : List (Str × Int)} {x : Trm} (nd : (labs l).Nodup) (h : okTrm l x) : g_is_term [knD l, trmD x] = .ok (.bl true, [some (knD l), some (trmD x)]) := by
  obtain ⟨i0, i1, i2⟩ := ix3 (x := .int x.f) (y := .str x.s) (z := .str x.t) (by simp) (by simp) (by simp)
  have hw := s_is_within (fz_int' x.f) (-99) 99
  have w1 := h.f1
  have w2 := h.f2
  simp [within, w1, w2] at hw
  have hk := nin_kn nd h.kn
  have hi := ix_kn nd h.kn
  have hu := s_unlike_txt (t := x.t) (by have := h.l4; omega) h.nd
  have hn := lenD_s (s := x.t) (by have := h.l4; omega)
  have hlc := lc_pure (k := 2) (elt := mBin inD (mVarA 2) (mFrz (mC (.str "abcd")))) (fun _ => .bl true) (e := [some (knD l), some (.tup [.int x.f, .str x.s, .str x.t]), none]) (ds := chs x.t) (fz_chs x.t) (by rw [len_chs]; have := h.l4; omega) (fun d hd => by
    obtain ⟨c, hc, rfl⟩ := List.mem_map.mp hd
    simp [inD_one, h.ab c hc])
  have hall : allD [.lst false ((chs x.t).map fun _ => .bl true)] = some (.bl true) := allD_true fun d hd => by
    obtain ⟨_, _, rfl⟩ := List.mem_map.mp hd; rfl
  have hfl : fzL ((chs x.t).map fun _ => D.bl true) = true := fzL_map _ (fun _ => by simp) _
  simp only [frzQ_bl] at hlc
  have f0 := h.f0
  have ln := h.ln
  have kz := fz_kn l
  simp [g_is_term, m_is_term, runD, ownOk, outsD, List.range, List.range.loop, ownVars, putBack, isK, trmD, kz, i0, i1, i2, hw, f0, hk, hi, hn, ln, hu, sqV_ok (seqI_str x.t), hlc, restV, frz_lstt hfl, hall]
end Mi
namespace Mi
open PySem PySem.Spec PyProof.Rows L2
structure Dmd where
  ts : List Trm
  k : Int
def dmdD (x : Dmd) : D := .tup [.tup (x.ts.map trmD), .int x.k]
structure okDmd (l : List (Str × Int)) (x : Dmd) : Prop where
  n1 : 1 ≤ x.ts.length
  n8 : x.ts.length ≤ 8
  tr : ∀ t ∈ x.ts, okTrm l t
  k1 : -999 ≤ x.k
  k2 : x.k ≤ 999
theorem fz_trms (l : List Trm) : fzL (l.map trmD) = true := fzL_map _ fz_trm l
theorem fz_dmd (x : Dmd) : fz (dmdD x) = true := by simp [dmdD, fz_trms]
theorem fz_dmds (l : List Dmd) : fzL (l.map dmdD) = true := fzL_map _ fz_dmd l
theorem s_is_demand {l : List (Str × Int)} {x : Dmd} (nd : (labs l).Nodup) (h : okDmd l x) : g_is_demand [knD l, dmdD x] = .ok (.bl true, [some (knD l), some (dmdD x)]) := by
  have hf := fz_trms x.ts
  have hlen : (x.ts.map trmD).length ≤ 1000 := by rw [List.length_map]; have := h.n8; omega
  have kz := fz_kn l
  have z : fz (dmdD x) = true := fz_dmd x
  have hp : g_is_pair [dmdD x] = .ok (.bl true, [some (dmdD x)]) := s_is_pair (l := [.tup (x.ts.map trmD), .int x.k]) (by simp [hf])
  have i0 : ixD (dmdD x) (.int 0) = some (.tup (x.ts.map trmD)) := ixD_t0 (by simp [hf])
  have i1 : ixD (dmdD x) (.int 1) = some (.int x.k) := ixD_t1 (by simp)
  have hw := s_is_within (fz_int' x.k) (-999) 999
  have w1 := h.k1
  have w2 := h.k2
  simp [within, w1, w2] at hw
  have l1 : (1 : Int) ≤ x.ts.length := by have := h.n1; omega
  have l2 : (x.ts.length : Int) ≤ 8 := by have := h.n8; omega
  have hsq : seqI [.tup (x.ts.map trmD)] = some (x.ts.map trmD) := by simp [seqI, hf]
  have e1 := lc_pure (k := 2) (elt := mCall g_is_term (mArgs [mVarA 0, mVarA 2])) (fun _ => .bl true) (e := [some (knD l), some (dmdD x), none]) (ds := x.ts.map trmD) hf hlen (fun d hd => by
    obtain ⟨p, hp, rfl⟩ := List.mem_map.mp hd
    simp [ownVars, putBack, fz_trm, kz, s_is_term nd (h.tr p hp)])
  have e1' : ((x.ts.map trmD).map fun _ => frzQ (.bl true)) = x.ts.map fun _ => D.bl true := by rw [List.map_map]; rfl
  rw [e1'] at e1
  have hall : allD [.lst false (x.ts.map fun _ => D.bl true)] = some (.bl true) := allD_true fun d hd => by
    obtain ⟨_, _, rfl⟩ := List.mem_map.mp hd; rfl
  have hfl : fzL (x.ts.map fun _ => D.bl true) = true := fzL_map _ (fun _ => by simp) _
  have hk : isK .tTup (.tup (x.ts.map trmD)) = some true := rfl
  have hq : frzQ (.tup (x.ts.map trmD)) = .tup (x.ts.map trmD) := frzQ_fz (by simp [hf])
  simp [hq, g_is_demand, m_is_demand, runD, ownOk, outsD, List.range, List.range.loop, ownVars, putBack, kz, z, hp, i0, i1, hk, l1, l2, hf, sqV_ok hsq, e1, restV, frz_lstt hfl, hall, hw]
/-! ### the book -/
structure Bk where
  w : Int
  ts : List (Str × Int)
  ds : List Dmd
def bkD (o : Bool) (b : Bk) : D := .ins o "Book" ["world", "tables", "demands"] [.int b.w, tabsD b.ts, .tup (b.ds.map dmdD)]
structure okBk (b : Bk) : Prop where
  w0 : 0 ≤ b.w
  w1 : b.w ≤ 1000
  ts : okTabs b.ts
  n6 : b.ds.length ≤ 6
  ds : ∀ d ∈ b.ds, okDmd b.ts d
theorem s_Book {b : Bk} (h : okBk b) : g_Book__init [.ins true "Book" [] [], .int b.w, tabsD b.ts, .tup (b.ds.map dmdD)] = .ok (.non, [some (bkD true b), some (.int b.w), some (tabsD b.ts), some (.tup (b.ds.map dmdD))]) := by
  have hw : g_is_world [.int b.w] = .ok (.bl true, [some (.int b.w)]) := by
    have := s_is_world (fz_int' b.w)
    simp [within, h.w0, h.w1] at this
    exact this
  have ht := s_are_tables h.ts
  have hf := fz_tabs b.ts
  have hfd := fz_dmds b.ds
  have hlen : (b.ds.map dmdD).length ≤ 1000 := by rw [List.length_map]; have := h.n6; omega
  have z : fz (tabsD b.ts) = true := by simp [tabsD, hf]
  have hsq : seqI [.tup (b.ds.map dmdD)] = some (b.ds.map dmdD) := by simp [seqI, hfd]
  have hdt := dict_tabs h.ts.nd
  have e1 := lc_pure (k := 4) (elt := mCall g_is_demand (mArgs [mFrz (mCB dictD (mArgs [mVarA 2])), mVarA 4])) (fun _ => .bl true) (e := [some (.ins true "Book" [] []), some (.int b.w), some (tabsD b.ts), some (.tup (b.ds.map dmdD)), none]) (ds := b.ds.map dmdD) hfd hlen (fun d hd => by
    obtain ⟨p, hp, rfl⟩ := List.mem_map.mp hd
    simp [ownVars, putBack, fz_dmd, fz_kn, hdt, frz_kn, z, s_is_demand h.ts.nd (h.ds p hp)])
  have e1' : ((b.ds.map dmdD).map fun _ => frzQ (.bl true)) = b.ds.map fun _ => D.bl true := by rw [List.map_map]; rfl
  rw [e1'] at e1
  have hall : allD [.lst false (b.ds.map fun _ => D.bl true)] = some (.bl true) := allD_true fun d hd => by
    obtain ⟨_, _, rfl⟩ := List.mem_map.mp hd; rfl
  have hfl : fzL (b.ds.map fun _ => D.bl true) = true := fzL_map _ (fun _ => by simp) _
  have hk : isK .tTup (.tup (b.ds.map dmdD)) = some true := rfl
  have l2 : ¬ (6 : Int) < b.ds.length := by have := h.n6; omega
  have n1 : ¬ ("world" : Str) = "tables" := by decide
  have n2 : ¬ ("world" : Str) = "demands" := by decide
  have n3 : ¬ ("tables" : Str) = "demands" := by decide
  have hq : frzQ (.tup (b.ds.map dmdD)) = .tup (b.ds.map dmdD) := frzQ_fz (by simp [hfd])
  simp [n1, n2, n3, hq, g_Book__init, m_Book__init, runD, ownOk, outsD, List.range, List.range.loop, ownVars, putBack, z, hw, ht, hk, l2, hfd, sqV_ok hsq, e1, restV, frz_lstt hfl, hall, fsetG, cs_world, cs_tables, cs_demands, putW, frzQ_fz, bkD]
end Mi
namespace Mi
open PySem PySem.Spec PyProof.Rows L2
/-! ### reading the book -/
@[simp] theorem fld_tables (o : Bool) (b : Bk) : fldG cs_tables "tables" (bkD o b) = some (tabsD b.ts) := by
  have z : fz (tabsD b.ts) = true := by simp [tabsD, fz_tabs]
  have n1 : ¬ ("tables" : Str) = "world" := by decide
  simp [bkD, fldG, fldD, cs_tables, pick, z, n1]
/-! ### sets of letters -/
end Mi
namespace Mi
open PySem PySem.Spec PyProof.Rows L2
theorem fz_bk (b : Bk) : fz (bkD true b) = false := by rw [bkD, fz]; rfl
theorem ix_tup {l : List D} (z : fzL l = true) {i : Nat} (h : i < l.length) : ixD (.tup l) (.int i) = some l[i] := by
  have h2 : (i : Int) < l.length := by omega
  have h0 : (0 : Int) ≤ i := by omega
  simp [ixD, atI, ixN, h, h0, pick, fzL_mem z _ (List.getElem_mem h)]
/-! the most letters -/
end Mi
namespace Mi
open PySem PySem.Spec PyProof.Rows L2
/-! ### the law's own drawing: fold, tables -/
/-! tables -/
theorem tupleD_l {o : Bool} {l : List D} (h : fzL l = true) : tupleD [.lst o l] = some (.tup l) := by simp [tupleD, h]
@[simp] theorem truD_bl (b : Bool) : truD (.bl b) = some b := rfl
theorem sortD_labs (o : Bool) {l : List Str} (h : l.length < 64) : sortD [.lst o (l.map .str)] = some (.lst true ((sortS l).map .str)) := by
  simp only [sortD, strsOf_map]
  rw [if_pos h]
end Mi
namespace Mi
open PySem PySem.Spec PyProof.Rows L2
/-! ### a comprehension that draws -/
theorem draw {α : Type} {k : Nat} {elt : EM D} (E : Int → Int → Int → Option D → EnvD) (out : α → D) (ok : α → Prop) (hw : ∀ a b c x y, (E a b c x).set k y = E a b c y) (hz : ∀ z, fz (out z) = true)
    (hs : ∀ a b c d, ∃ z a' b' c', elt (E a b c (some d)) = .ok (out z, E a' b' c' (some d)) ∧ ok z) : ∀ (ds : List D) (acc : List D) (a b c : Int) (x : Option D), ∃ (l : List α) (a' b' c' : Int) (y : Option D),
    loopL (.nm k) mYes elt [k] ds acc (E a b c x) = .ok (acc ++ l.map out, E a' b' c' y) ∧ l.length = ds.length ∧ ∀ z ∈ l, ok z
  | [], acc, a, b, c, x => ⟨[], a, b, c, x, by simp [loopL], rfl, by simp⟩
  | d :: ds, acc, a, b, c, x => by
    obtain ⟨z, a1, b1, c1, h1, h2⟩ := hs a b c d
    obtain ⟨l, a2, b2, c2, y, k1, k2, k3⟩ := draw E out ok hw hz hs ds (acc ++ [out z]) a1 b1 c1 (some d)
    refine ⟨z :: l, a2, b2, c2, y, ?_, by simp [k2], fun w hw' => ?_⟩
    · simp only [loopL, wipeE, hw, tg_nm, e_yes, h1]
      rw [frzQ_fz (hz z), k1]
      simp
    · rcases List.mem_cons.mp hw' with rfl | hw'
      · exact h2
      · exact k3 w hw'
/-! ### terms and demands drawn -/
theorem er_map {α β : Type} (f : α → β) : ∀ (l : List α) (k : Nat), (l.map f).eraseIdx k = (l.eraseIdx k).map f
  | [], k => by simp
  | x :: l, 0 => by simp
  | x :: l, k + 1 => by simp [er_map f l k]
theorem er_perm {α : Type} : ∀ (l : List α) (k : Nat) (h : k < l.length), (l[k] :: l.eraseIdx k).Perm l
  | x :: l, 0, h => by simp
  | x :: l, k + 1, h => by
    have := er_perm l k (by simpa using h)
    simp only [List.getElem_cons_succ, List.eraseIdx_cons_succ]
    exact (List.Perm.swap _ _ _).trans (this.cons x)
theorem pop_at {rs : List Nat} {r : Int} (h : 0 ≤ r) (h2 : r < rs.length) (h4 : rs.length ≤ 1000) : ∃ c rs', popF (rs.map fun c => .str (one c)) [.int r] = some (.str (one c), rs'.map fun c => .str (one c)) ∧ (c :: rs').Perm rs ∧ rs'.length + 1 = rs.length := by
  have hk : r.toNat < rs.length := by omega
  refine ⟨rs[r.toNat], rs.eraseIdx r.toNat, ?_, ?_, ?_⟩
  · have hz : fzL (rs.map fun c => D.str (one c)) = true := fzL_map _ (fun _ => by simp) _
    have hi : seqIndex? r (rs.map fun c => D.str (one c)).length = some r.toNat := by
      rw [List.length_map]
      unfold seqIndex?
      have : ¬ r < 0 := by omega
      simp [this, h, h2]
    simp only [popF]
    rw [if_pos ⟨hz, by omega, by omega⟩, hi]
    simp [hk, er_map]
  · exact er_perm rs r.toNat hk
  · rw [List.length_eraseIdx_of_lt hk]; omega
theorem add_one (acc : List Nat) (c : Nat) (h : acc.length ≤ 1000) : addD (.str (txt acc)) (.str (one c)) = some (.str (txt (acc ++ [c]))) := by
  have e : txt acc ++ one c = txt (acc ++ [c]) := by
    apply str_ext
    rw [txt_cps]
    show (Array.mk acc ++ #[c]).toList = _
    simp
  simp only [addD]
  rw [if_pos (by rw [szl, txt_len]; show acc.length + 1 ≤ _; omega), e]
end Mi
namespace Mi
open PySem PySem.Spec PyProof.Rows L2
/-! ### folk drawn -/
def gm : Str := "ABCDEFGHIJKLMNOPQRSTUVWXYZ"
def fg : Str := "0123456789"
def okNam (s : Str) : Prop := 1 ≤ s.length ∧ s.length ≤ 8 ∧ ∀ c ∈ s.cps.toList, c ∈ gm.cps.toList
def okFk (s : Str) : Prop := okNam s ∨ ∃ c ∈ fg.cps.toList, s = one c
theorem gm_len : gm.cps.toList.length = 26 := by decide +kernel
theorem fg_len : fg.cps.toList.length = 10 := by decide +kernel
theorem ix_s {t : Str} {r : Int} (h : 0 ≤ r) (h2 : r < t.cps.toList.length) (hs : t.cps.toList.length ≤ 1000) : ∃ c ∈ t.cps.toList, ixD (.str t) (.int r) = some (.str (one c)) := by
  have hz : t.length ≤ sizeLine := by rw [szl]; show t.cps.size ≤ _; rw [← Array.length_toList]; omega
  have e : r.toNat < t.cps.toList.length := by omega
  refine ⟨t.cps.toList[r.toNat], List.getElem_mem e, ?_⟩
  simp only [ixD, hz, if_true, atI, ixN, h, h2, Option.bind_some, List.getElem?_eq_getElem e, Option.map_some, one]
theorem any_strs (s : Str) (F : List Str) : ((F.map D.str).any fun y => eqF y (.str s)) = decide (s ∈ F) := by
  rw [List.any_map, Bool.eq_iff_iff, List.any_eq_true]
  simp only [Function.comp, eqF, beq_iff_eq, decide_eq_true_eq]
  exact ⟨fun ⟨x, h1, h2⟩ => h2 ▸ h1, fun h => ⟨s, h, rfl⟩⟩
theorem flat_strs (F : List Str) : (F.map D.str).all flatD = true := by
  rw [List.all_map, List.all_eq_true]; intro _ _; rfl
theorem nin_l (s : Str) (F : List Str) (o : Bool) : ninD (.str s) (.lst o (F.map .str)) = some (.bl (decide (s ∉ F))) := by
  have h : flatD (.str s) = true := rfl
  simp only [ninD, inQ, flat_strs, any_strs, h]
  simp
theorem nin_t (s : Str) (F : List Str) : ninD (.str s) (.tup (F.map .str)) = some (.bl (decide (s ∉ F))) := by
  have h : flatD (.str s) = true := rfl
  simp only [ninD, inQ, flat_strs, any_strs, h]
  simp
end Mi
namespace Mi
open PySem PySem.Spec PyProof.Rows L2
/-! ### rows of unlike folk -/
def rows (F : List Str) : Nat → List (List Str)
  | 0 => [[]]
  | n + 1 => (rows F n).flatMap fun r => (F.filter fun x => decide (x ∉ r)).map fun x => r ++ [x]
def rowD (r : List Str) : D := .tup (r.map .str)
theorem fz_row (r : List Str) : fz (rowD r) = true := by simp [rowD, fzL_strs]
theorem fz_rows (L : List (List Str)) : fzL (L.map rowD) = true := fzL_map _ fz_row L
theorem flat_le {α β : Type} {f : α → List β} {k : Nat} : ∀ {l : List α}, (∀ x ∈ l, (f x).length ≤ k) → (l.flatMap f).length ≤ l.length * k
  | [], _ => by simp
  | x :: l, h => by
    rw [List.flatMap_cons, List.length_append, List.length_cons, Nat.succ_mul]
    have h1 := h x List.mem_cons_self
    have h2 := flat_le (l := l) fun y hy => h y (List.mem_cons_of_mem _ hy)
    omega
theorem rows_len (F : List Str) : ∀ n, (rows F n).length ≤ F.length ^ n
  | 0 => by simp [rows]
  | n + 1 => by
    have h := rows_len F n
    have h2 : (rows F (n + 1)).length ≤ (rows F n).length * F.length := flat_le fun r _ => by
      rw [List.length_map]; exact List.length_filter_le _ _
    rw [Nat.pow_succ]
    exact Nat.le_trans h2 (Nat.mul_le_mul_right _ h)
theorem rows_item (F : List Str) : ∀ n, ∀ r ∈ rows F n, r.length = n ∧ ∀ s ∈ r, s ∈ F
  | 0, r, h => by
    simp only [rows, List.mem_singleton] at h
    subst h; simp
  | n + 1, r, h => by
    simp only [rows, List.mem_flatMap, List.mem_map, List.mem_filter] at h
    obtain ⟨r0, h0, x, ⟨hx, _⟩, rfl⟩ := h
    obtain ⟨i1, i2⟩ := rows_item F n r0 h0
    refine ⟨by rw [List.length_append, i1]; rfl, fun s hs => ?_⟩
    rcases List.mem_append.mp hs with hs | hs
    · exact i2 s hs
    · rw [List.mem_singleton] at hs; subst hs; exact hx
theorem flatMap_cg {α β : Type} {f g : α → List β} : ∀ {l : List α}, (∀ x ∈ l, f x = g x) → l.flatMap f = l.flatMap g
  | [], _ => rfl
  | x :: l, h => by rw [List.flatMap_cons, List.flatMap_cons, h x List.mem_cons_self, flatMap_cg fun y hy => h y (List.mem_cons_of_mem _ hy)]
def pR : D → D → Bool := fun d d1 => match ninD d1 d with
  | some (.bl b) => b
  | _ => false
def fR : D → D → D := fun d d1 => (addD d (.tup [d1])).getD .non
theorem pR_row (r : List Str) (s : Str) : pR (rowD r) (.str s) = decide (s ∉ r) := by
  unfold pR rowD
  rw [nin_t]
theorem addD_row {r : List Str} {s : Str} (h : r.length ≤ 1000) : addD (rowD r) (.tup [.str s]) = some (rowD (r ++ [s])) := by
  unfold rowD
  simp only [addD]
  have h1 : r.length + 1 ≤ 16777216 := by omega
  simp [szl, h1, fzL_strs]
theorem fR_row {r : List Str} {s : Str} (h : r.length ≤ 1000) : fR (rowD r) (.str s) = rowD (r ++ [s]) := by
  unfold fR
  rw [addD_row h]; rfl
theorem step_rows {F : List Str} {L : List (List Str)} (h : ∀ r ∈ L, r.length ≤ 1000) : ((L.map rowD).flatMap fun d => ((F.map D.str).filter (pR d)).map fun d1 => frzQ (fR d d1)) = (L.flatMap fun r => (F.filter fun x => decide (x ∉ r)).map fun x => r ++ [x]).map rowD := by
  rw [List.flatMap_map, List.map_flatMap]
  refine flatMap_cg fun r hr => ?_
  rw [List.filter_map, List.map_map, List.map_map]
  have : (pR (rowD r) ∘ D.str) = fun x => decide (x ∉ r) := by
    funext s; exact pR_row r s
  rw [this]
  refine List.map_congr_left fun s _ => ?_
  simp only [Function.comp]
  rw [fR_row (h r hr)]
  exact frzQ_fz (fz_row _)
def arE : EM FlowD := (mAsg 2 (mLc2 (mIt1 (mFrz (mVarE 2))) (.nm 4) (mYes) (mFrz (mVarE 0)) (.nm 5) (mTB (mBin ninD (mVarA 5) (mVarA 4))) (mBin addD (mVarA 4) (mFrz (mTup (mArgs [mFrz (mVarE 5)])))) [4, 5] [5]))
theorem ar_turn {F : List Str} (p x : Option D) {L : List (List Str)} (h : ∀ r ∈ L, r.length ≤ 1000) (hl : L.length * F.length ≤ 100000) : arE [some (.lst false (F.map .str)), p, some (.lst true (L.map rowD)), x, none, none] = .ok (.next, [some (.lst false (F.map .str)), p, some (.lst true ((L.flatMap fun r => (F.filter fun x => decide (x ∉ r)).map fun x => r ++ [x]).map rowD)), x, none, none]) := by
  have zF := fzL_strs F
  have zL := fz_rows L
  have hq : frzQ (.lst false (L.map rowD)) = .lst false (L.map rowD) := frzQ_fz (by simp [zL])
  have hqF : frzQ (.lst false (F.map D.str)) = .lst false (F.map .str) := frzQ_fz (by simp [zF])
  have hs : seqI [.lst false (L.map rowD)] = some (L.map rowD) := by simp [seqI, zL]
  have e1 := lc2_pure (k := 4) (k1 := 5) (by decide) (ma1 := mFrz (mVarE 0)) (cond1 := mTB (mBin ninD (mVarA 5) (mVarA 4))) (elt := mBin addD (mVarA 4) (mFrz (mTup (mArgs [mFrz (mVarE 5)])))) fR pR (F.map .str) (e := [some (.lst false (F.map .str)), p, some (.lst false (L.map rowD)), x, none, none]) (ds := L.map rowD) zL (by rw [List.length_map, List.length_map]; exact hl)
    (fun d hd => ⟨.val (.lst false (F.map .str)), by simp [zF, hqF], by simp [Arg.get, seq2, zF]⟩)
    (fun d hd d1 h1 => by
      obtain ⟨r, hr, rfl⟩ := List.mem_map.mp hd
      obtain ⟨s, hs, rfl⟩ := List.mem_map.mp h1
      rw [pR_row]
      have := nin_t s r
      rw [← rowD] at this
      simp [this])
    (fun d hd d1 h1 _ => by
      obtain ⟨r, hr, rfl⟩ := List.mem_map.mp hd
      obtain ⟨s, hs, rfl⟩ := List.mem_map.mp h1
      have ha := addD_row (s := s) (h r hr)
      have hq1 : frzQ (.tup [.str s]) = .tup [.str s] := frzQ_fz (by simp)
      rw [fR_row (h r hr)]
      simp [ha, hq1])
  rw [step_rows h] at e1
  have hvo := fun env => vE_own 2 env zL
  simp (implicitDefEqProofs := false) [arE, hvo, hq, sqV_ok hs, e1, restV]
theorem ar_loop {F : List Str} (p : Option D) : ∀ (ds : List D) (n : Nat) (x : Option D), n + ds.length ≤ 1000 → (∀ k, k < n + ds.length → F.length ^ k * F.length ≤ 100000) → ∃ y, loopF (.nm 3) arE ds [some (.lst false (F.map .str)), p, some (.lst true ((rows F n).map rowD)), x, none, none] = .ok (.next, [some (.lst false (F.map .str)), p, some (.lst true ((rows F (n + ds.length)).map rowD)), y, none, none])
  | [], n, x, _, _ => ⟨x, by simp [e_lp0]⟩
  | d :: ds, n, x, h, hk => by
    simp only [List.length_cons] at h hk
    have ht := ar_turn (F := F) p (some d) (L := rows F n) (fun r hr => by rw [(rows_item F n r hr).1]; omega) (Nat.le_trans (Nat.mul_le_mul_right _ (rows_len F n)) (hk n (by omega)))
    obtain ⟨y, hy⟩ := ar_loop p ds (n + 1) (some d) (by omega) (fun k h1 => hk k (by omega))
    refine ⟨y, ?_⟩
    rw [e_lp]
    simp only [lpV, tg_nm, List.set_cons_succ, List.set_cons_zero]
    rw [ht, show (rows F n).flatMap (fun r => (F.filter fun x => decide (x ∉ r)).map fun x => r ++ [x]) = rows F (n + 1) from rfl]
    simp only [bind_ok, kLp, List.length_cons]
    rw [show n + (ds.length + 1) = n + 1 + ds.length by omega]
    exact hy
theorem rng1_n {n : Nat} (h : n ≤ 1000000) : rng1 [.int n] = some (rngD 0 n) := by
  have : (n : Int) < 2 ^ 62 ∧ -(2 ^ 62) ≤ (n : Int) := by omega
  simp only [rng1]
  rw [if_pos this]
  simp
theorem s_arrangements {F : List Str} {n : Nat} {z : Int} (hzn : z = (n : Int)) (h : n ≤ 1000) (hk : ∀ k, k < n → F.length ^ k * F.length ≤ 100000) : g_arrangements [.lst false (F.map .str), .int z] = .ok (.lst true ((rows F n).map rowD), [some (.lst false (F.map .str)), some (.int z)]) := by
  have zF := fzL_strs F
  have hr : rng1 [.int z] = some (rngD 0 n) := by rw [hzn]; exact rng1_n (by omega)
  clear hzn
  have hlen : (rngD 0 n).length = n := by simp [rngD]
  have hz : fzL (rngD 0 n) = true := fzL_map _ (fun _ => by simp) _
  obtain ⟨y, hy⟩ := ar_loop (F := F) (some (.int z)) (rngD 0 n) 0 none (by rw [hlen]; omega) (fun k h1 => hk k (by rw [hlen] at h1; omega))
  rw [hlen, Nat.zero_add] at hy
  have hkf := kFor_ok (t := .nm 3) (ms := arE) (e := [some (.lst false (F.map .str)), some (.int z), some (.lst true [.tup []]), none, none, none]) hz
  rw [show (.lst true [.tup []] : D) = .lst true ((rows F 0).map rowD) from rfl, hy] at hkf
  simp (implicitDefEqProofs := false) only [arE] at hkf
  have h0 : (.lst true ((rows F 0).map rowD) : D) = .lst true [.tup []] := rfl
  rw [h0] at hkf
  have zR := fz_rows (rows F n)
  have hm : ∀ env, vM 2 2 env (some (some (.lst true ((rows F n).map rowD)))) = .ok (.lst true ((rows F n).map rowD), env.set 2 none) := fun env => vM_mv (by simp) (by omega)
  have hq0 : frzQ (.tup []) = .tup [] := frzQ_fz (by simp)
  simp (implicitDefEqProofs := false) [g_arrangements, m_arrangements, runD, ownOk, outsD, List.range, List.range.loop, zF, rV_ok hr, hq0, hkf, hm]
end Mi
namespace Mi
open PySem PySem.Spec PyProof.Rows L2
/-! ### folk judged -/
theorem allD_bls {α : Type} {b : Bool} (p : α → Bool) : ∀ (l : List α), allD [.lst b (l.map fun x => .bl (p x))] = some (.bl (l.all p)) := by
  intro l
  have : blsOf (l.map fun x => .bl (p x)) = some (l.map p) := by
    induction l with
    | nil => rfl
    | cons x l ih => rw [List.map_cons, blsOf, ih]; rfl
  simp only [allD, this, Option.map_some, List.all_map]
  congr 2
def ofB (s t : Str) : Bool := decide (1 ≤ s.length) && decide (s.length ≤ 8) && s.cps.toList.all fun c => decide (c ∈ t.cps.toList)
theorem s_is_ofB {s t : Str} (hl : s.length ≤ 1000) : g_is_of [.str s, .str t] = .ok (.bl (ofB s t), [some (.str s), some (.str t)]) := by
  have hL := lenD_s hl
  by_cases h1 : 1 ≤ s.length
  · have l1 : (1 : Int) ≤ s.length := by omega
    by_cases h2 : s.length ≤ 8
    · have l2 : (s.length : Int) ≤ 8 := by omega
      have hlc := lc_pure (k := 2) (elt := mBin inD (mVarA 2) (mVarA 1)) (fun d => match d with | .str s => .bl (s.cps.toList.all fun c => decide (c ∈ t.cps.toList)) | _ => .non) (e := [some (.str s), some (.str t), none]) (ds := chs s) (fz_chs s) (by rw [len_chs]; omega) (fun d hd => by
        obtain ⟨c, hc, rfl⟩ := List.mem_map.mp hd
        simp [inD_one]
        simp [one])
      have e2 : ((chs s).map fun d => frzQ ((fun d => match d with | .str s => D.bl (s.cps.toList.all fun c => decide (c ∈ t.cps.toList)) | _ => .non) d)) = s.cps.toList.map fun c => D.bl (decide (c ∈ t.cps.toList)) := by
        rw [chs, List.map_map]
        refine List.map_congr_left fun c _ => ?_
        simp [one]
      rw [e2] at hlc
      have hall := allD_bls (b := false) (fun c => decide (c ∈ t.cps.toList)) s.cps.toList
      have hfl : fzL (s.cps.toList.map fun c => D.bl (decide (c ∈ t.cps.toList))) = true := fzL_map _ (fun _ => by simp) _
      have hb : ofB s t = s.cps.toList.all fun c => decide (c ∈ t.cps.toList) := by simp [ofB, h1, h2]
      rw [hb]
      generalize (s.cps.toList.map fun c => D.bl (decide (c ∈ t.cps.toList))) = X at hlc hall hfl
      generalize (s.cps.toList.all fun c => decide (c ∈ t.cps.toList)) = Y at hall
      simp (implicitDefEqProofs := false) [g_is_of, m_is_of, runD, ownOk, outsD, List.range, List.range.loop, isK, hL, l1, l2, sqV_ok (seqI_str s), hlc, restV, frz_lstt hfl, hall]
    · have l2 : ¬ (s.length : Int) ≤ 8 := by omega
      have hb : ofB s t = false := by simp [ofB, h2]
      rw [hb]
      simp (implicitDefEqProofs := false) [g_is_of, m_is_of, runD, ownOk, outsD, List.range, List.range.loop, isK, hL, l1, l2]
  · have l1 : ¬ (1 : Int) ≤ s.length := by omega
    have hb : ofB s t = false := by simp [ofB, h1]
    rw [hb]
    simp (implicitDefEqProofs := false) [g_is_of, m_is_of, runD, ownOk, outsD, List.range, List.range.loop, isK, hL, l1]
def isStr : D → Bool
  | .str _ => true
  | _ => false
theorem isK_str {d : D} (h : okT d) : isK .tStr d = some (isStr d) := by
  obtain ⟨_, h⟩ := h
  cases d <;> simp [tyD] at h <;> rfl
theorem s_is_ofN {d : D} {t : Str} (h : okT d) (hs : isStr d = false) : g_is_of [d, .str t] = .ok (.bl false, [some d, some (.str t)]) := by
  have hz := h.1
  have hk := isK_str h
  rw [hs] at hk
  simp (implicitDefEqProofs := false) [g_is_of, m_is_of, runD, ownOk, outsD, List.range, List.range.loop, hz, hk]
def comB (s : Str) : Bool := decide (s.length = 1) && s.cps.toList.all fun c => decide (c ∈ fg.cps.toList)
theorem s_is_comer {s : Str} (hl : s.length ≤ 1000) : g_is_comer [.str s] = .ok (.bl (comB s), [some (.str s)]) := by
  have hL := lenD_s hl
  by_cases h1 : s.length = 1
  · have l1 : (s.length : Int) = 1 := by omega
    obtain ⟨c, hc⟩ : ∃ c, s = one c := by
      have : s.cps.toList.length = 1 := by simpa [Str.length] using h1
      obtain ⟨c, hc⟩ := List.length_eq_one_iff.mp this
      exact ⟨c, str_ext (by simp [one, hc])⟩
    subst hc
    have hi := inD_one c fg
    have hb : comB (one c) = decide (c ∈ fg.cps.toList) := by simp [comB, one, Str.length]
    rw [hb]
    simp only [fg] at hi ⊢
    simp (implicitDefEqProofs := false) [g_is_comer, m_is_comer, runD, ownOk, outsD, List.range, List.range.loop, isK, hL, l1, hi]
  · have l1 : ¬ (s.length : Int) = 1 := by omega
    have hb : comB s = false := by simp [comB, h1]
    rw [hb]
    simp (implicitDefEqProofs := false) [g_is_comer, m_is_comer, runD, ownOk, outsD, List.range, List.range.loop, isK, hL, l1]
def folkB : D → Bool
  | .str s => ofB s gm || comB s
  | _ => false
def okF (d : D) : Prop := okT d ∧ ∀ s, d = .str s → s.length ≤ 1000
theorem s_is_folk {d : D} (h : okF d) : g_is_folk [d] = .ok (.bl (folkB d), [some d]) := by
  obtain ⟨h, hs⟩ := h
  have hz := h.1
  cases e : isStr d with
  | true =>
    cases d <;> simp [isStr] at e
    rename_i s
    have hl := hs s rfl
    have h1 := s_is_ofB (t := gm) hl
    have h2 := s_is_comer hl
    have h3 : g_is_name [.str s] = .ok (.bl (ofB s gm), [some (.str s)]) := by
      simp only [gm] at h1 ⊢
      simp (implicitDefEqProofs := false) [g_is_name, m_is_name, runD, ownOk, outsD, List.range, List.range.loop, ownVars, putBack, h1]
    cases e1 : ofB s gm with
    | true =>
      rw [e1] at h3
      simp (implicitDefEqProofs := false) [g_is_folk, m_is_folk, runD, ownOk, outsD, List.range, List.range.loop, ownVars, putBack, h3, folkB, e1]
    | false =>
      rw [e1] at h3
      simp (implicitDefEqProofs := false) [g_is_folk, m_is_folk, runD, ownOk, outsD, List.range, List.range.loop, ownVars, putBack, h3, h2, folkB, e1]
  | false =>
    have hb : folkB d = false := by cases d <;> first | rfl | simp [isStr] at e
    have h1 := s_is_ofN (t := gm) h e
    have hk := isK_str h
    rw [e] at hk
    have h2 : g_is_name [d] = .ok (.bl false, [some d]) := by
      simp only [gm] at h1 ⊢
      simp (implicitDefEqProofs := false) [g_is_name, m_is_name, runD, ownOk, outsD, List.range, List.range.loop, ownVars, putBack, hz, h1]
    have h3 : g_is_comer [d] = .ok (.bl false, [some d]) := by
      simp (implicitDefEqProofs := false) [g_is_comer, m_is_comer, runD, ownOk, outsD, List.range, List.range.loop, hz, hk]
    rw [hb]
    simp (implicitDefEqProofs := false) [g_is_folk, m_is_folk, runD, ownOk, outsD, List.range, List.range.loop, ownVars, putBack, hz, h2, h3]
theorem folkB_ok {s : Str} (h : okFk s) : folkB (.str s) = true := by
  rcases h with ⟨h1, h2, h3⟩ | ⟨c, hc, rfl⟩
  · have : ofB s gm = true := by
      simp only [ofB, h1, h2, decide_true, Bool.true_and, List.all_eq_true, decide_eq_true_eq]
      exact h3
    simp [folkB, this]
  · have : comB (one c) = true := by simpa [comB, one, Str.length] using hc
    simp [folkB, this]
theorem okFk_len {s : Str} (h : okFk s) : s.length ≤ 8 := by
  rcases h with ⟨_, h2, _⟩ | ⟨c, _, rfl⟩
  · exact h2
  · simp [one, Str.length]
theorem okF_str {s : Str} (h : s.length ≤ 1000) : okF (.str s) := ⟨⟨by simp, rfl⟩, fun t e => by cases e; exact h⟩
end Mi
namespace Mi
open PySem PySem.Spec PyProof.Rows L2
/-! ### instances -/
theorem strs_okF {F : List Str} (hf : ∀ s ∈ F, okFk s) : ∀ x ∈ F.map D.str, okF x := fun x hx => by
  obtain ⟨s, hs, rfl⟩ := List.mem_map.mp hx
  exact okF_str (by have := okFk_len (hf s hs); omega)
theorem strs_all {F : List Str} (hf : ∀ s ∈ F, okFk s) : (F.map D.str).all folkB = true := by
  rw [List.all_eq_true]
  intro x hx
  obtain ⟨s, hs, rfl⟩ := List.mem_map.mp hx
  exact folkB_ok (hf s hs)
end Mi
namespace Mi
open PySem PySem.Spec PyProof.Rows L2
/-! ### the due list; what is told -/
theorem frz_any {o : Bool} {l : List D} (h : fzL l = true) : frzQ (.lst o l) = .lst false l := by
  cases o with
  | true => exact frz_lstt h
  | false => exact frzQ_fz (by simp [h])
/-! told -/
theorem neD_tup {l : List D} (h : okP 64 (.tup l) = true) : neD (.tup l) (.tup l) = some (.bl false) := by
  have hs : scalD (.tup l) (.tup l) = none := rfl
  have he : eqB (.tup l) (.tup l) = true := PySem.SeqAt.eqv_refl _ (okP_shape _ _ h).1
  simp [neD, eqQ, hs, h, he]
end Mi
namespace Mi
open PySem PySem.Spec PyProof.Rows L2
theorem perm_sort {F G : List Str} (h : F.Perm G) : sortS F = sortS G :=
  List.Perm.eq_of_pairwise (le := fun a b => leS a b = true) (fun a b _ _ h g => by
    unfold leS at h g
    simp only [Bool.not_eq_true'] at h g
    exact str_ext (lt_tri g h)) (sortS_pw F) (sortS_pw G) ((List.mergeSort_perm F leS).trans (h.trans (List.mergeSort_perm G leS).symm))
theorem strOk_fk {s : Str} (h : okFk s) : PyData.strOk s = true := by
  have h1 : ∀ c ∈ gm.cps.toList, c < 0x110000 := by decide +kernel
  have h2 : ∀ c ∈ fg.cps.toList, c < 0x110000 := by decide +kernel
  unfold PyData.strOk
  rw [← Array.all_toList, List.all_eq_true]
  rcases h with ⟨_, _, h3⟩ | ⟨c, hc, rfl⟩
  · exact fun c hc => by simpa using h1 c (h3 c hc)
  · intro x hx
    have : x = c := by simpa [one] using hx
    subst this
    simpa using h2 _ hc
end Mi
namespace Mi
open PySem PySem.Spec PyProof.Rows L2
/-! ### the feed -/
def fd (ns : List Int) (a b c d : Int) : D := .lst true [.lst false (ns.map .int), .int a, .int b, .int c, .int d]
@[simp] theorem fz_fd {ns a b c d} : fz (fd ns a b c d) = false := by simp [fd]
@[simp] theorem ixD_fd0 {ns a b c d} : ixD (fd ns a b c d) (.int 0) = some (.lst false (ns.map .int)) := by
  unfold fd; simp [ixD, atI, ixN, pick]
@[simp] theorem ixD_fd1 {ns a b c d} : ixD (fd ns a b c d) (.int 1) = some (.int a) := by
  unfold fd; simp [ixD, atI, ixN, pick]
@[simp] theorem ixD_fd2 {ns a b c d} : ixD (fd ns a b c d) (.int 2) = some (.int b) := by
  unfold fd; simp [ixD, atI, ixN, pick]
@[simp] theorem ixD_fd3 {ns a b c d} : ixD (fd ns a b c d) (.int 3) = some (.int c) := by
  unfold fd; simp [ixD, atI, ixN, pick]
@[simp] theorem ixD_fd4 {ns a b c d} : ixD (fd ns a b c d) (.int 4) = some (.int d) := by
  unfold fd; simp [ixD, atI, ixN, pick]
@[simp] theorem setX_fd1 {ns a b c d z} : setX (fd ns a b c d) (.int 1) (.int z) = some (fd ns z b c d) := by
  unfold fd; simp [setX, ixN]
@[simp] theorem setX_fd2 {ns a b c d z} : setX (fd ns a b c d) (.int 2) (.int z) = some (fd ns a z c d) := by
  unfold fd; simp [setX, ixN]
@[simp] theorem setX_fd3 {ns a b c d z} : setX (fd ns a b c d) (.int 3) (.int z) = some (fd ns a b z d) := by
  unfold fd; simp [setX, ixN]
@[simp] theorem setX_fd4 {ns a b c d z} : setX (fd ns a b c d) (.int 4) (.int z) = some (fd ns a b c z) := by
  unfold fd; simp [setX, ixN]
theorem mod_29 (x : Int) : modD (.int x) (.int 2147483629) = some (.int (x % 2147483629)) := modD_i (by decide)
theorem div_64 (x : Int) : fdivD (.int x) (.int 64) = some (.int (x / 64)) := fdivD_i (by decide) (by decide)
theorem mul_c (x : Int) : mulD (.int x) (.int 69621) = some (.int (x * 69621)) := mulD_i (.inl (by decide))
def feE : EM FlowD := (mAsg 1 (mBin modD (mFrz (mCB intD (mArgs [mFrz (mBin addD (mFrz (mBin addD (mFrz (mBin mulD (mVarA 1) (mFrz (mC (.int 48271))))) (mFrz (mBin modD (mFrz (mCB intD (mArgs [mVarA 2]))) (mFrz (mC (.int 2147483629))))))) (mFrz (mC (.int 11))))]))) (mFrz (mC (.int 2147483647)))))
theorem fe_loop (s : D) : ∀ (l : List Int) (k : Int) (x : Option D), ∃ k' y, loopF (.nm 2) feE (l.map .int) [some s, some (.int k), x] = .ok (.next, [some s, some (.int k'), y])
  | [], k, x => ⟨k, x, by simp [e_lp0]⟩
  | z :: l, k, x => by
    obtain ⟨k', y, hr⟩ := fe_loop s l ((k * 48271 + z % 2147483629 + 11) % 2147483647) (some (.int z))
    refine ⟨k', y, ?_⟩
    rw [List.map_cons, e_lp]
    simp only [feE] at hr ⊢
    simp (implicitDefEqProofs := false) [mul_48, mod_29, mod_a]
    exact hr
theorem s_law_feed (ns : List Int) : ∃ c, g__law_feed [.scr ns] = .ok (fd ns 0 0 c 0, [some (.scr ns)]) := by
  obtain ⟨k, y, hy⟩ := fe_loop (.scr ns) ns 17 none
  have hs : seqI [.scr ns] = some (ns.map .int) := rfl
  have zn : fzL (ns.map D.int) = true := fzL_mapint ns
  have hkf := kFor_ok (t := .nm 2) (ms := feE) (e := [some (.scr ns), some (.int 17), none]) zn
  rw [hy] at hkf
  simp (implicitDefEqProofs := false) only [feE] at hkf
  have hl : listY [.scr ns] = some (.lst true (ns.map .int)) := rfl
  have hf := frz_lstt zn
  have hq : frzQ (.scr ns) = .scr ns := frzQ_fz (by simp)
  refine ⟨k, ?_⟩
  have hmm : m__law_feed [some (.scr ns), none, none] = .ok (.ret (fd ns 0 0 k 0), [some (.scr ns), some (.int k), y]) := by
    simp (implicitDefEqProofs := false) [m__law_feed, hq, sqV_ok hs, hkf, hl, hf, zn, fd]
  simp (implicitDefEqProofs := false) [g__law_feed, runD, ownOk, outsD, List.range, List.range.loop, hmm]
def rnd3 (c d : Int) : Int := ((c + 7919 * d + 1) * 48271 % 2147483647 * ((c + 7919 * d + 1) * 48271 % 2147483647 / 1009 + 69621) % 2147483647 * ((c + 7919 * d + 1) * 48271 % 2147483647 * ((c + 7919 * d + 1) * 48271 % 2147483647 / 1009 + 69621) % 2147483647 / 2003 + 40692)) % 2147483399
def drR : EM FlowD := (mSeq (mIfS (mTB (mBin gtD (mFrz (mBin ixD (mVarA 0) (mFrz (mC (.int 2))))) (mFrz (mC (.int 0))))) (mSeq (mAsg 3 (mBin modD (mFrz (mCB intD (mArgs [mFrz (mBin ixD (mVarA 0) (mFrz (mC (.int 2))))]))) (mVarA 1)))
  (mSeq (mSetX 0 (mC (.int 2)) (mBin fdivD (mFrz (mBin ixD (mVarA 0) (mFrz (mC (.int 2))))) (mVarA 1)))
  (mRet (mVarM 2 3)))) (mNext))
  (mSeq (mAsg 4 (mBin modD (mFrz (mCB intD (mArgs [mFrz (mBin mulD (mFrz (mBin addD (mFrz (mBin addD (mFrz (mBin ixD (mVarA 0) (mFrz (mC (.int 3))))) (mFrz (mBin mulD (mFrz (mC (.int 7919))) (mFrz (mBin ixD (mVarA 0) (mFrz (mC (.int 4))))))))) (mFrz (mC (.int 1))))) (mFrz (mC (.int 48271))))]))) (mFrz (mC (.int 2147483647)))))
  (mSeq (mAsg 4 (mBin modD (mFrz (mCB intD (mArgs [mFrz (mBin mulD (mVarA 4) (mFrz (mBin addD (mFrz (mBin fdivD (mVarA 4) (mFrz (mC (.int 1009))))) (mFrz (mC (.int 69621))))))]))) (mFrz (mC (.int 2147483647)))))
  (mSeq (mAsg 4 (mBin modD (mFrz (mCB intD (mArgs [mFrz (mBin mulD (mVarA 4) (mFrz (mBin addD (mFrz (mBin fdivD (mVarA 4) (mFrz (mC (.int 2003))))) (mFrz (mC (.int 40692))))))]))) (mFrz (mC (.int 2147483399)))))
  (mRet (mBin modD (mFrz (mCB intD (mArgs [mFrz (mBin fdivD (mVarA 4) (mFrz (mC (.int 64))))]))) (mVarA 1)))))))
theorem dr_tail (ns : List Int) (a b c d : Int) (x : Option D) {m : Int} (hm : 0 < m) (hm2 : m.natAbs.log2 < 9000) : ∃ r b' u v w, drR [some (fd ns a b c d), some (.int m), x, none, none] = .ok (.ret (.int r), [some (fd ns a b' c d), some (.int m), u, v, w]) ∧ 0 ≤ r ∧ r < m := by
  have tail : ∀ x : Int, 0 ≤ x % m ∧ x % m < m := fun x => ⟨Int.emod_nonneg _ (by omega), Int.emod_lt_of_pos _ hm⟩
  by_cases hb : 0 < b
  · refine ⟨b % m, b / m, x, some (.int (b % m)), none, ?_, tail _⟩
    simp (implicitDefEqProofs := false) [drR, hb, modD_i hm, fdivD_i hm hm2]
  · refine ⟨rnd3 c d / 64 % m, b, x, none, some (.int (rnd3 c d)), ?_, tail _⟩
    simp (implicitDefEqProofs := false) [drR, rnd3, hb, modD_i hm, mul_48, mul_79, mul_a, mul_b, mod_a, mod_b, div_a, div_b, div_64]
theorem s_law_draw (ns : List Int) {a : Int} (ha : 0 ≤ a) (b c d : Int) {m : Int} (hm : 0 < m) (hm2 : m.natAbs.log2 < 9000) : ∃ r a' b' c' d', g__law_draw [fd ns a b c d, .int m] = .ok (.int r, [some (fd ns a' b' c' d'), some (.int m)]) ∧ 0 ≤ r ∧ r < m ∧ 0 ≤ a' := by
  have split : m__law_draw = mSeq (mSetX 0 (mC (.int 4)) (mBin addD (mFrz (mBin ixD (mVarA 0) (mFrz (mC (.int 4))))) (mFrz (mC (.int 1)))))
    (mSeq (mIfS (mAndT (mTB (mBin eqD (mFrz (mBin ixD (mVarA 0) (mFrz (mC (.int 2))))) (mFrz (mC (.int 0))))) (mTB (mBin ltD (mFrz (mBin ixD (mVarA 0) (mFrz (mC (.int 1))))) (mFrz (mCB lenD (mArgs [mFrz (mBin ixD (mVarA 0) (mFrz (mC (.int 0))))])))))) (mSeq (mAsg 2 (mCB absD (mArgs [mFrz (mBin ixD (mFrz (mBin ixD (mVarA 0) (mFrz (mC (.int 0))))) (mFrz (mBin ixD (mVarA 0) (mFrz (mC (.int 1))))))])))
  (mSeq (mSetX 0 (mC (.int 1)) (mBin addD (mFrz (mBin ixD (mVarA 0) (mFrz (mC (.int 1))))) (mFrz (mC (.int 1)))))
  (mIfS (mTB (mBin geD (mVarA 2) (mFrz (mBin powD (mFrz (mC (.int 10))) (mFrz (mC (.int 18))))))) (mSetX 0 (mC (.int 2)) (mVarE 2)) (mSetX 0 (mC (.int 3)) (mBin modD (mFrz (mCB intD (mArgs [mFrz (mBin addD (mFrz (mBin addD (mFrz (mBin mulD (mFrz (mBin ixD (mVarA 0) (mFrz (mC (.int 3))))) (mFrz (mC (.int 69621))))) (mVarA 2))) (mFrz (mC (.int 1))))]))) (mFrz (mC (.int 2147483647)))))))) (mNext)) drR) := rfl
  have hq : frzQ (.lst false (ns.map D.int)) = .lst false (ns.map .int) := frzQ_fz (by simp)
  have main : ∃ r a' b' c' d' u v w, m__law_draw [some (fd ns a b c d), some (.int m), none, none, none] = .ok (.ret (.int r), [some (fd ns a' b' c' d'), some (.int m), u, v, w]) ∧ 0 ≤ r ∧ r < m ∧ 0 ≤ a' := by
    rw [split]
    by_cases h1 : b = 0 ∧ a < ns.length
    · obtain ⟨hb, hl⟩ := h1
      subst hb
      obtain ⟨z, hz⟩ := ixD_cells (b := false) (cells := ns) ha hl
      have habs : absD [.int z] = some (.int (if z < 0 then -z else z)) := rfl
      generalize (if z < 0 then -z else z) = y at habs
      by_cases h2 : 1000000000000000000 ≤ y
      · obtain ⟨r, b', u, v, w, k1, k2, k3⟩ := dr_tail ns (a + 1) y c (d + 1) (some (.int y)) hm hm2
        refine ⟨r, a + 1, b', c, d + 1, u, v, w, ?_, k2, k3, by omega⟩
        simp (implicitDefEqProofs := false) [hq, hl, hz, habs, h2, pow_18, k1]
      · obtain ⟨r, b', u, v, w, k1, k2, k3⟩ := dr_tail ns (a + 1) 0 ((c * 69621 + y + 1) % 2147483647) (d + 1) (some (.int y)) hm hm2
        refine ⟨r, a + 1, b', (c * 69621 + y + 1) % 2147483647, d + 1, u, v, w, ?_, k2, k3, by omega⟩
        simp (implicitDefEqProofs := false) [hq, hl, hz, habs, h2, pow_18, mul_c, mod_a, k1]
    · obtain ⟨r, b', u, v, w, k1, k2, k3⟩ := dr_tail ns a b c (d + 1) none hm hm2
      refine ⟨r, a, b', c, d + 1, u, v, w, ?_, k2, k3, ha⟩
      by_cases hb : b = 0
      · have hl : ¬ a < ns.length := fun h => h1 ⟨hb, h⟩
        simp (implicitDefEqProofs := false) [hq, hb, hl]
        rw [hb] at k1
        exact k1
      · simp (implicitDefEqProofs := false) [hq, hb, k1]
  obtain ⟨r, a', b', c', d', u, v, w, k1, k2, k3, k4⟩ := main
  refine ⟨r, a', b', c', d', ?_, k2, k3, k4⟩
  simp (implicitDefEqProofs := false) [g__law_draw, runD, ownOk, outsD, List.range, List.range.loop, k1]
end Mi
namespace Mi
open PySem PySem.Spec PyProof.Rows L2
/-! ### drawing words -/
theorem draw4 {α : Type} {k : Nat} {elt : EM D} (E : Int → Int → Int → Int → Option D → EnvD) (out : α → D) (ok : α → Prop) (hw : ∀ a b c d x y, (E a b c d x).set k y = E a b c d y) (hz : ∀ z, fz (out z) = true)
    (hs : ∀ a b c d t, 0 ≤ a → ∃ z a' b' c' d', elt (E a b c d (some t)) = .ok (out z, E a' b' c' d' (some t)) ∧ ok z ∧ 0 ≤ a') : ∀ (ds : List D) (acc : List D) (a b c d : Int) (x : Option D), 0 ≤ a → ∃ (l : List α) (a' b' c' d' : Int) (y : Option D),
    loopL (.nm k) mYes elt [k] ds acc (E a b c d x) = .ok (acc ++ l.map out, E a' b' c' d' y) ∧ l.length = ds.length ∧ (∀ z ∈ l, ok z) ∧ 0 ≤ a'
  | [], acc, a, b, c, d, x, ha => ⟨[], a, b, c, d, x, by simp [loopL], rfl, by simp, ha⟩
  | t :: ds, acc, a, b, c, d, x, ha => by
    obtain ⟨z, a1, b1, c1, d1, h1, h2, h3⟩ := hs a b c d t ha
    obtain ⟨l, a2, b2, c2, d2, y, k1, k2, k3, k4⟩ := draw4 E out ok hw hz hs ds (acc ++ [out z]) a1 b1 c1 d1 (some t) h3
    refine ⟨z :: l, a2, b2, c2, d2, y, ?_, by simp [k2], fun w hw' => ?_, k4⟩
    · simp only [loopL, wipeE, hw, tg_nm, e_yes, h1]
      rw [frzQ_fz (hz z), k1]
      simp
    · rcases List.mem_cons.mp hw' with rfl | hw'
      · exact h2
      · exact k3 w hw'
def okWd (t s : Str) : Prop := 1 ≤ s.length ∧ s.length ≤ 8 ∧ ∀ c ∈ s.cps.toList, c ∈ t.cps.toList
theorem app_strs {W : List Str} {s : Str} (h : W.length ≤ 1000) : appF (W.map .str) [.str s] = some (.non, (W ++ [s]).map .str) := by
  simp only [appF]
  rw [if_pos ⟨fzL_strs W, by simp, by rw [List.length_map]; omega⟩]
  simp
def wdE : EM FlowD := (mSeq (mAsg 5 (mBin addD (mFrz (mC (.int 2))) (mFrz (mBin mulD (mFrz (mC (.int 6))) (mFrz (mCB intD (mArgs [mFrz (mBin eqD (mFrz (mCall g__law_draw (mArgs [mVarA 0, mFrz (mC (.int 8))]))) (mFrz (mC (.int 0))))])))))))
  (mSeq (mAsg 6 (mUn (joinD "") (mFrz (mLc (mIt (mArgs [mFrz (mBin addD (mFrz (mC (.int 1))) (mFrz (mCall g__law_draw (mArgs [mVarA 0, mVarA 5]))))]) rng1) (.nm 7) (mYes) (mBin ixD (mVarA 1) (mFrz (mCall g__law_draw (mArgs [mVarA 0, mFrz (mC (.int 26))])))) [7]))))
  (mIfS (mTB (mBin ninD (mVarA 6) (mVarA 3))) (mDrop (mMet 3 (mArgs [mFrz (mVarE 6)]) appF)) (mNext))))
theorem wd_turn (ns : List Int) {t : Str} (ht : t.cps.toList.length = 26) (n : Option D) {a : Int} (ha : 0 ≤ a) (b c d : Int) (W : List Str) (hW : W.length ≤ 100) (x4 x5 x6 : Option D) : ∃ s a' b' c' d' y5, okWd t s ∧ 0 ≤ a' ∧ wdE [some (fd ns a b c d), some (.str t), n, some (.lst true (W.map .str)), x4, x5, x6, none] = .ok (.next, [some (fd ns a' b' c' d'), some (.str t), n, some (.lst true ((if s ∈ W then W else W ++ [s]).map .str)), x4, y5, some (.str s), none]) := by
  obtain ⟨r, a1, b1, c1, d1, k1, k2, k3, k4⟩ := s_law_draw ns ha b c d (m := 8) (by decide) (by decide)
  obtain ⟨M, hM1, hM2, hM⟩ : ∃ M : Int, 0 < M ∧ M ≤ 8 ∧ ∃ e : Int, intD [.bl (decide (r = 0))] = some (.int e) ∧ mulD (.int 6) (.int e) = some (.int (6 * e)) ∧ 2 + 6 * e = M := by
    by_cases hr : r = 0
    · exact ⟨8, by decide, by decide, 1, by simp [intD, hr], mulD_i (.inr (by decide)), by decide⟩
    · exact ⟨2, by decide, by decide, 0, by simp [intD, hr], mulD_i (.inr (by decide)), by decide⟩
  obtain ⟨e, he1, he2, he3⟩ := hM
  have hadd : addD (.int 2) (.int (6 * e)) = some (.int M) := by rw [← he3]; rfl
  obtain ⟨q, a2, b2, c2, d2, q1, q2, q3, q4⟩ := s_law_draw ns k4 b1 c1 d1 (m := M) hM1 (Nat.lt_of_le_of_lt (Nat.log2_le_self _) (by omega))
  obtain ⟨l, a3, b3, c3, d3, y, m1, m2, m3, m4⟩ := draw4 (k := 7) (elt := mBin ixD (mVarA 1) (mFrz (mCall g__law_draw (mArgs [mVarA 0, mFrz (mC (.int 26))])))) (fun a b c d x => [some (fd ns a b c d), some (.str t), n, some (.lst true (W.map .str)), x4, some (.int M), x6, x]) (fun (c : Nat) => D.str (one c)) (fun c => c ∈ t.cps.toList) (fun _ _ _ _ _ _ => rfl) (fun _ => by simp) (fun a b c d w ha => by
    obtain ⟨r, a1, b1, c1, d1, h1, h2, h3, h4⟩ := s_law_draw ns ha b c d (m := 26) (by decide) (by decide)
    obtain ⟨ch, hc, hi⟩ := ix_s h2 (by rw [ht]; exact h3) (by rw [ht]; decide)
    exact ⟨ch, a1, b1, c1, d1, by simp [ownVars, putBack, h1, hi], hc, h4⟩) (rngD 0 (1 + q).toNat) [] a2 b2 c2 d2 none q4
  have hlen : (rngD 0 (1 + q).toNat).length = (1 + q).toNat := by simp [rngD]
  rw [hlen] at m2
  have hz : fzL (rngD 0 (1 + q).toNat) = true := fzL_map _ (fun _ => by simp) _
  have hr : rng1 [.int (1 + q)] = some (rngD 0 (1 + q).toNat) := by
    show (if _ then _ else _) = _
    rw [if_pos (by omega)]
  have hfl : fzL (l.map fun c => .str (one c)) = true := fzL_map _ (fun _ => by simp) _
  have hj := joinD_ones false l (by omega)
  have zW := fzL_strs W
  refine ⟨txt l, a3, b3, c3, d3, some (.int M), ⟨by rw [txt_len]; omega, by rw [txt_len]; omega, by rw [txt_cps]; exact m3⟩, m4, ?_⟩
  have hn := nin_l (txt l) W true
  have hap := app_strs (W := W) (s := txt l) (by omega)
  have hlcn : (rngD 0 (1 + q).toNat).length ≤ 1000 := by rw [hlen]; omega
  generalize rngD 0 (1 + q).toNat = RR at *
  by_cases hm : txt l ∈ W
  · rw [if_pos hm]
    simp (implicitDefEqProofs := false) [wdE, ownVars, putBack, k1, he1, he2, hadd, q1, rV_ok hr, kLc_ok hz hlcn, m1, restE, restV, frz_lstt hfl, hj, hn, hm]
  · rw [if_neg hm]
    simp (implicitDefEqProofs := false) [wdE, ownVars, putBack, k1, he1, he2, hadd, q1, rV_ok hr, kLc_ok hz hlcn, m1, restE, restV, frz_lstt hfl, hj, hn, hm, hap]
theorem wd_loop (ns : List Int) {t : Str} (ht : t.cps.toList.length = 26) (n : Option D) : ∀ (ds : List D) (W : List Str) (a b c d : Int) (x4 x5 x6 : Option D), 0 ≤ a → W.length + ds.length ≤ 100 → W.Nodup → (∀ s ∈ W, okWd t s) → ∃ (W' : List Str) (a' b' c' d' : Int) (y4 y5 y6 : Option D), loopF (.nm 4) wdE ds [some (fd ns a b c d), some (.str t), n, some (.lst true (W.map .str)), x4, x5, x6, none] = .ok (.next, [some (fd ns a' b' c' d'), some (.str t), n, some (.lst true (W'.map .str)), y4, y5, y6, none]) ∧ 0 ≤ a' ∧ W'.Nodup ∧ (∀ s ∈ W', okWd t s) ∧ W'.length ≤ W.length + ds.length ∧ (1 ≤ W.length + ds.length → 1 ≤ W'.length)
  | [], W, a, b, c, d, x4, x5, x6, ha, _, h1, h2 => ⟨W, a, b, c, d, x4, x5, x6, by simp [e_lp0], ha, h1, h2, by simp, by simp⟩
  | t0 :: ds, W, a, b, c, d, x4, x5, x6, ha, hl, h1, h2 => by
    simp only [List.length_cons] at hl
    obtain ⟨s, a1, b1, c1, d1, y5, k1, k2, k3⟩ := wd_turn ns ht n ha b c d W (by omega) (some t0) x5 x6
    have hW : ∃ W1, (if s ∈ W then W else W ++ [s]) = W1 ∧ W1.Nodup ∧ (∀ s ∈ W1, okWd t s) ∧ W1.length ≤ W.length + 1 ∧ 1 ≤ W1.length := by
      by_cases hm : s ∈ W
      · exact ⟨W, by rw [if_pos hm], h1, h2, by omega, List.length_pos_iff.mpr (by rintro rfl; cases hm)⟩
      · refine ⟨W ++ [s], by rw [if_neg hm], ?_, fun z hz => ?_, by simp, by simp⟩
        · rw [List.nodup_append]
          exact ⟨h1, by simp, fun a ha b hb => by rw [List.mem_singleton] at hb; subst hb; rintro rfl; exact hm ha⟩
        · rcases List.mem_append.mp hz with hz | hz
          · exact h2 z hz
          · rw [List.mem_singleton] at hz; subst hz; exact k1
    obtain ⟨W1, e1, n1, n2, n3, n4⟩ := hW
    rw [e1] at k3
    obtain ⟨W', a2, b2, c2, d2, y4, y5', y6, j1, j2, j3, j4, j5, j6⟩ := wd_loop ns ht n ds W1 a1 b1 c1 d1 (some t0) y5 (some (.str s)) k2 (by omega) n1 n2
    refine ⟨W', a2, b2, c2, d2, y4, y5', y6, ?_, j2, j3, j4, by simp only [List.length_cons]; omega, fun _ => j6 (by omega)⟩
    rw [e_lp]
    simp only [lpV, tg_nm, List.set_cons_succ, List.set_cons_zero]
    rw [k3]
    simp only [bind_ok, kLp]
    exact j1
theorem s_law_words (ns : List Int) {t : Str} (ht : t.cps.toList.length = 26) {n : Int} (h1 : 1 ≤ n) (h2 : n ≤ 3) {a : Int} (ha : 0 ≤ a) (b c d : Int) : ∃ (W : List Str) (a' b' c' d' : Int), g__law_words [fd ns a b c d, .str t, .int n] = .ok (.tup (W.map .str), [some (fd ns a' b' c' d'), some (.str t), some (.int n)]) ∧ 0 ≤ a' ∧ W.Nodup ∧ (∀ s ∈ W, okWd t s) ∧ 1 ≤ W.length ∧ W.length ≤ n := by
  have hlen : (rngD 0 n.toNat).length = n.toNat := by simp [rngD]
  have hz : fzL (rngD 0 n.toNat) = true := fzL_map _ (fun _ => by simp) _
  have hr : rng1 [.int n] = some (rngD 0 n.toNat) := by
    show (if _ then _ else _) = _
    rw [if_pos (by omega)]
  obtain ⟨W, a2, b2, c2, d2, y4, y5, y6, j1, j2, j3, j4, j5, j6⟩ := wd_loop ns ht (some (.int n)) (rngD 0 n.toNat) [] a b c d none none none ha (by rw [hlen]; simp; omega) .nil (by simp)
  rw [hlen] at j5 j6
  simp only [List.length_nil, Nat.zero_add] at j5 j6
  have hkf := kFor_ok (t := .nm 4) (ms := wdE) (e := [some (fd ns a b c d), some (.str t), some (.int n), some (.lst true []), none, none, none, none]) hz
  rw [List.map_nil] at j1
  rw [j1] at hkf
  simp (implicitDefEqProofs := false) only [wdE] at hkf
  have hst : sortD [.lst true (W.map .str)] = some (.lst true ((sortS W).map .str)) := sortD_labs true (by omega)
  have zS := fzL_strs (sortS W)
  have hp : (sortS W).Perm W := List.mergeSort_perm W leS
  have hlS : (sortS W).length = W.length := hp.length_eq
  have htp := tupleD_l (o := false) zS
  have hfS := frz_lstt zS
  refine ⟨sortS W, a2, b2, c2, d2, ?_, j2, hp.nodup_iff.mpr j3, fun s hs => j4 s (hp.mem_iff.mp hs), by rw [hlS]; exact j6 (by omega), by rw [hlS]; omega⟩
  have hmm : m__law_words [some (fd ns a b c d), some (.str t), some (.int n), none, none, none, none, none] = .ok (.ret (.tup ((sortS W).map .str)), [some (fd ns a2 b2 c2 d2), some (.str t), some (.int n), some (.lst true (W.map .str)), y4, y5, y6, none]) := by
    simp (implicitDefEqProofs := false) [m__law_words, rV_ok hr, hkf, hst, hfS, htp]
  simp (implicitDefEqProofs := false) [g__law_words, runD, ownOk, outsD, List.range, List.range.loop, hmm]
theorem s_law_people (ns : List Int) {a : Int} (ha : 0 ≤ a) (b c d : Int) : ∃ (W : List Str) (a' b' c' d' : Int), g__law_people [fd ns a b c d, .int 3] = .ok (.tup (W.map .str), [some (fd ns a' b' c' d'), some (.int 3)]) ∧ 0 ≤ a' ∧ W.Nodup ∧ (∀ s ∈ W, okNam s) ∧ 1 ≤ W.length ∧ W.length ≤ 3 := by
  obtain ⟨W, a', b', c', d', h1, h2, h3, h4, h5, h6⟩ := s_law_words ns gm_len (n := 3) (by decide) (by decide) ha b c d
  refine ⟨W, a', b', c', d', ?_, h2, h3, h4, h5, by omega⟩
  simp only [gm] at h1
  simp (implicitDefEqProofs := false) [g__law_people, m__law_people, runD, ownOk, outsD, List.range, List.range.loop, ownVars, putBack, h1]
/-! ### picking figures -/
def piE : EM FlowD := (mDrop (mMet 4 (mArgs [mFrz (mMet 3 (mArgs [mFrz (mCall g__law_draw (mArgs [mVarA 0, mFrz (mCB lenD (mArgs [mVarA 3]))]))]) popF)]) appF))
theorem pi_loop (ns : List Int) (p q : Option D) : ∀ (ds : List D) (rs acc : List Nat) (a b c d : Int) (x : Option D), 0 ≤ a → ds.length ≤ rs.length → rs.length + acc.length ≤ 1000 → ∃ (rs' acc' : List Nat) (a' b' c' d' : Int) (y : Option D),
    loopF (.nm 5) piE ds [some (fd ns a b c d), p, q, some (.lst true (rs.map fun c => .str (one c))), some (.lst true (acc.map fun c => .str (one c))), x] = .ok (.next, [some (fd ns a' b' c' d'), p, q, some (.lst true (rs'.map fun c => .str (one c))), some (.lst true (acc'.map fun c => .str (one c))), y]) ∧ 0 ≤ a' ∧ (acc' ++ rs').Perm (acc ++ rs) ∧ acc'.length = acc.length + ds.length
  | [], rs, acc, a, b, c, d, x, ha, _, _ => ⟨rs, acc, a, b, c, d, x, by simp [e_lp0], ha, List.Perm.refl _, by simp⟩
  | t :: ds, rs, acc, a, b, c, d, x, ha, hl, h4 => by
    simp only [List.length_cons] at hl
    obtain ⟨z, a1, b1, c1, d1, k1, k2, k3, k4⟩ := s_law_draw ns ha b c d (m := (rs.length : Int)) (by omega) (Nat.lt_of_le_of_lt (Nat.log2_le_self _) (by omega))
    obtain ⟨ch, rs1, g1, g2, g3⟩ := pop_at k2 k3 (by omega)
    obtain ⟨rs', acc', a2, b2, c2, d2, y, j1, j0, j2, j3⟩ := pi_loop ns p q ds rs1 (acc ++ [ch]) a1 b1 c1 d1 (some t) k4 (by omega) (by rw [List.length_append]; simp; omega)
    refine ⟨rs', acc', a2, b2, c2, d2, y, ?_, j0, ?_, by rw [j3]; simp; omega⟩
    · rw [e_lp]
      have zc : fzL (acc.map fun c => D.str (one c)) = true := fzL_map _ (fun _ => by simp) _
      have hap : appF (acc.map fun c => .str (one c)) [.str (one ch)] = some (.non, (acc ++ [ch]).map fun c => .str (one c)) := by
        simp only [appF]
        rw [if_pos ⟨zc, by simp, by rw [List.length_map]; omega⟩]
        simp
      have zr : fzL (rs.map fun c => D.str (one c)) = true := fzL_map _ (fun _ => by simp) _
      have hln : lenD [.lst true (rs.map fun c => D.str (one c))] = some (.int rs.length) := by simp
      generalize (rs.length : Int) = L at k1 hln
      generalize (rs.map fun c => D.str (one c)) = RS at g1 zr hln ⊢
      generalize (acc.map fun c => D.str (one c)) = AC at hap zc ⊢
      generalize (acc ++ [ch]).map (fun c => D.str (one c)) = A1 at hap j1
      simp only [piE] at j1 ⊢
      simp (implicitDefEqProofs := false) [ownVars, putBack, hln, k1, g1, hap, -lenD_l]
      exact j1
    · refine j2.trans ?_
      rw [List.append_assoc]
      exact List.Perm.append_left acc g2
def digs : List Nat := [48, 49, 50, 51, 52, 53, 54, 55, 56, 57]
theorem fg_digs : fg.cps.toList = digs := by decide +kernel
theorem s_law_pick (ns : List Int) {a : Int} (ha : 0 ≤ a) (b c d : Int) : ∃ (R : List Nat) (a' b' c' d' : Int), g__law_pick [fd ns a b c d, .str "0123456789", .int 3] = .ok (.lst true (R.map fun c => .str (one c)), [some (fd ns a' b' c' d'), some (.str "0123456789"), some (.int 3)]) ∧ 0 ≤ a' ∧ R.Nodup ∧ (∀ c ∈ R, c ∈ digs) ∧ R.length = 3 := by
  have hr : rng1 [.int 3] = some (rngD 0 3) := by
    simp only [rng1]
    rw [if_pos (by decide)]
    rfl
  have hz : fzL (rngD 0 3) = true := fzL_map _ (fun _ => by simp) _
  obtain ⟨rs', acc', a2, b2, c2, d2, y, j1, j0, j2, j3⟩ := pi_loop ns (some (.str "0123456789")) (some (.int 3)) (rngD 0 3) digs [] a b c d none ha (by decide) (by decide)
  have hly : listY [.str "0123456789"] = some (.lst true (digs.map fun c => .str (one c))) := by
    simp only [listY]
    rw [if_pos (by decide)]
    rfl
  have zd : fzL (digs.map fun c => D.str (one c)) = true := fzL_map _ (fun _ => by simp) _
  have hkf := kFor_ok (t := .nm 5) (ms := piE) (e := [some (fd ns a b c d), some (.str "0123456789"), some (.int 3), some (.lst true (digs.map fun c => .str (one c))), some (.lst true []), none]) hz
  rw [show (.lst true [] : D) = .lst true (([] : List Nat).map fun c => .str (one c)) from rfl, j1] at hkf
  simp (implicitDefEqProofs := false) only [piE, List.map_nil] at hkf
  have hp : (acc' ++ rs').Perm digs := j2
  have hnd : (acc' ++ rs').Nodup := hp.nodup_iff.mpr (by decide)
  refine ⟨acc', a2, b2, c2, d2, ?_, j0, hnd.sublist (List.sublist_append_left acc' rs'), fun c hc => hp.mem_iff.mp (List.mem_append_left _ hc), by rw [j3]; rfl⟩
  have hm : ∀ env, vM 3 4 env (some (some (.lst true (acc'.map fun c => .str (one c))))) = .ok (.lst true (acc'.map fun c => .str (one c)), env.set 4 none) := fun env => vM_mv (by simp) (by omega)
  have hmm : ∃ e, m__law_pick [some (fd ns a b c d), some (.str "0123456789"), some (.int 3), none, none, none] = .ok (.ret (.lst true (acc'.map fun c => .str (one c))), some (fd ns a2 b2 c2 d2) :: some (.str "0123456789") :: some (.int 3) :: e) := by
    refine ⟨[some (.lst true (rs'.map fun c => .str (one c))), none, y], ?_⟩
    generalize (digs.map fun c => D.str (one c)) = DG at hly hkf zd
    generalize (acc'.map fun c => D.str (one c)) = AC at hkf hm ⊢
    simp (implicitDefEqProofs := false) [m__law_pick, hly, rV_ok hr, hkf, hm]
  obtain ⟨e, hmm⟩ := hmm
  simp (implicitDefEqProofs := false) [g__law_pick, runD, ownOk, outsD, List.range, List.range.loop, hmm]
end Mi
namespace Mi
open PySem PySem.Spec PyProof.Rows L2
/-! ### rows of figures and names -/
abbrev El := Nat ⊕ Str
def toS : El → Str
  | .inl c => one c
  | .inr s => s
def okE : El → Prop
  | .inl c => c ∈ digs
  | .inr s => okNam s
structure okR (R : List El) : Prop where
  nd : R.Nodup
  el : ∀ x ∈ R, okE x
  l3 : R.length ≤ 3
def isL : El → Bool
  | .inl _ => true
  | _ => false
def dg : List El → List Nat
  | [] => []
  | .inl c :: R => c :: dg R
  | .inr _ :: R => dg R
def mapE (f : Nat → Nat) (R : List El) : List El := R.map (Sum.map f id)
def rkC (R : List El) (c : Nat) : Nat := ((dg R).filter fun d => decide (d < c)).length
def rk (R : List El) : List El := mapE (fun c => 48 + rkC R c) R
theorem dg_mem {c : Nat} : ∀ {R : List El}, c ∈ dg R ↔ Sum.inl c ∈ R
  | [] => by simp [dg]
  | .inl d :: R => by simp [dg, dg_mem (R := R)]
  | .inr s :: R => by simp [dg, dg_mem (R := R)]
theorem dg_map (f : Nat → Nat) : ∀ R : List El, dg (mapE f R) = (dg R).map f
  | [] => rfl
  | .inl d :: R => by
    have := dg_map f R
    simp only [mapE] at this ⊢
    simp [dg, this]
  | .inr s :: R => by
    have := dg_map f R
    simp only [mapE] at this ⊢
    simp [dg, this]
theorem dg_len : ∀ R : List El, (dg R).length ≤ R.length
  | [] => by simp [dg]
  | .inl d :: R => by have := dg_len R; simp [dg]; omega
  | .inr s :: R => by have := dg_len R; simp [dg]; omega
theorem dg_nd : ∀ {R : List El}, R.Nodup → (dg R).Nodup
  | [], _ => by simp [dg]
  | .inl d :: R, h => by
    rw [List.nodup_cons] at h
    rw [dg, List.nodup_cons]
    exact ⟨fun m => h.1 (dg_mem.mp m), dg_nd h.2⟩
  | .inr s :: R, h => by
    show (dg R).Nodup
    exact dg_nd (R := R) (List.nodup_cons.mp h).2
theorem cnt_le {c d : Nat} (h : c ≤ d) : ∀ l : List Nat, (l.filter fun x => decide (x < c)).length ≤ (l.filter fun x => decide (x < d)).length
  | [] => by simp
  | x :: l => by
    have ih := cnt_le h l
    by_cases h1 : x < c
    · have h2 : x < d := by omega
      simp [h1, h2, ih]
    · by_cases h2 : x < d
      · simp [h1, h2]; omega
      · simp [h1, h2, ih]
theorem cnt_lt {c d : Nat} (h : c < d) : ∀ l : List Nat, c ∈ l → (l.filter fun x => decide (x < c)).length < (l.filter fun x => decide (x < d)).length
  | x :: l, hm => by
    rcases List.mem_cons.mp hm with rfl | hm
    · have := cnt_le (Nat.le_of_lt h) l
      have h1 : ¬ c < c := Nat.lt_irrefl c
      simp [h]; omega
    · have ih := cnt_lt h l hm
      by_cases h1 : x < c
      · have h2 : x < d := by omega
        simp [h1, h2, ih]
      · by_cases h2 : x < d
        · simp [h1, h2]; omega
        · simp [h1, h2, ih]
theorem cnt_self (c : Nat) : ∀ l : List Nat, c ∈ l → (l.filter fun x => decide (x < c)).length < l.length
  | x :: l, hm => by
    rcases List.mem_cons.mp hm with rfl | hm
    · have := List.length_filter_le (fun x => decide (x < c)) l
      simp; omega
    · have ih := cnt_self c l hm
      rw [List.filter_cons]
      split <;> simp only [List.length_cons] <;> omega
theorem rkC_lt {R : List El} {c d : Nat} (h : c < d) (hc : c ∈ dg R) : rkC R c < rkC R d := cnt_lt h _ hc
theorem rkC_len {R : List El} {c : Nat} (hc : c ∈ dg R) : rkC R c < (dg R).length := cnt_self c _ hc
theorem mapE_cg {f g : Nat → Nat} {R : List El} (h : ∀ c ∈ dg R, f c = g c) : mapE f R = mapE g R := by
  refine List.map_congr_left fun x hx => ?_
  cases x with
  | inl c => simp [h c (dg_mem.mpr hx)]
  | inr s => rfl
theorem mapE_mapE (f g : Nat → Nat) (R : List El) : mapE f (mapE g R) = mapE (fun c => f (g c)) R := by
  simp only [mapE, List.map_map]
  refine List.map_congr_left fun x _ => ?_
  cases x <;> rfl
theorem rkC_map {f : Nat → Nat} {R : List El} (hf : ∀ c ∈ dg R, ∀ d ∈ dg R, c < d → f c < f d) {c : Nat} (hc : c ∈ dg R) : rkC (mapE f R) (f c) = rkC R c := by
  unfold rkC
  rw [dg_map, List.filter_map, List.length_map]
  have : (dg R).filter ((fun d => decide (d < f c)) ∘ f) = (dg R).filter fun d => decide (d < c) := by
    refine List.filter_congr fun d hd => ?_
    simp only [Function.comp]
    rw [decide_eq_decide]
    constructor
    · intro h
      rcases Nat.lt_trichotomy d c with h1 | h1 | h1
      · exact h1
      · subst h1; omega
      · have := hf c hc d hd h1; omega
    · exact hf d hd c hc
  rw [this]
theorem rk_map {f : Nat → Nat} {R : List El} (hf : ∀ c ∈ dg R, ∀ d ∈ dg R, c < d → f c < f d) : rk (mapE f R) = rk R := by
  unfold rk
  rw [mapE_mapE]
  exact mapE_cg fun c hc => by rw [rkC_map hf hc]
theorem rk_rk (R : List El) : rk (rk R) = rk R := rk_map fun c hc d hd h => by have := rkC_lt (R := R) h hc; omega
theorem okR_map {f : Nat → Nat} {R : List El} (h : okR R) (hi : ∀ c ∈ dg R, ∀ d ∈ dg R, f c = f d → c = d) (hd : ∀ c ∈ dg R, f c ∈ digs) : okR (mapE f R) := by
  refine ⟨?_, fun x hx => ?_, by rw [mapE, List.length_map]; exact h.l3⟩
  · unfold List.Nodup mapE
    rw [List.pairwise_map]
    refine List.Pairwise.imp_of_mem (fun {a b} ha hb hne e => hne ?_) h.nd
    cases a with
    | inl c =>
      cases b with
      | inl d =>
        have e : f c = f d := Sum.inl.inj e
        rw [hi c (dg_mem.mpr ha) d (dg_mem.mpr hb) e]
      | inr s => cases e
    | inr s =>
      cases b with
      | inl d => cases e
      | inr t => exact e
  · obtain ⟨y, hy, rfl⟩ := List.mem_map.mp hx
    cases y with
    | inl c => exact hd c (dg_mem.mpr hy)
    | inr s => exact h.el _ hy
theorem okR_rk {R : List El} (h : okR R) : okR (rk R) := by
  refine okR_map h (fun c hc d hd e => ?_) fun c hc => ?_
  · rcases Nat.lt_trichotomy c d with h1 | h1 | h1
    · have := rkC_lt (R := R) h1 hc; omega
    · exact h1
    · have := rkC_lt (R := R) h1 hd; omega
  · have h1 := rkC_len hc
    have h2 := dg_len R
    have h3 := h.l3
    have : rkC R c < 3 := by omega
    generalize rkC R c = k at this
    match k, this with
    | 0, _ => decide
    | 1, _ => decide
    | 2, _ => decide
/-! sorted figures -/
theorem idx_cnt : ∀ {l : List Nat} {c : Nat}, l.Pairwise (· < ·) → c ∈ l → l.idxOf c = (l.filter fun x => decide (x < c)).length
  | x :: l, c, h, hm => by
    rw [List.pairwise_cons] at h
    by_cases e : x = c
    · subst e
      rw [List.idxOf_cons_self]
      have : (x :: l).filter (fun y => decide (y < x)) = [] := by
        rw [List.filter_eq_nil_iff]
        intro y hy
        rcases List.mem_cons.mp hy with rfl | hy
        · simp
        · have := h.1 y hy
          simp; omega
      rw [this]; rfl
    · have hm' : c ∈ l := by
        rcases List.mem_cons.mp hm with h1 | h1
        · exact absurd h1.symm e
        · exact h1
      have h1 := h.1 c hm'
      have e' : (x == c) = false := by simpa using e
      rw [List.idxOf_cons, e', cond_false, idx_cnt h.2 hm', List.filter_cons, if_pos (by simpa using h1)]
      rfl
theorem one_injT {a b : Nat} (h : one a = one b) : a = b := by
  have := congrArg (fun s : Str => s.cps.toList) h
  simpa [one] using this
theorem idx_one : ∀ (l : List Nat) (c : Nat), (l.map one).idxOf (one c) = l.idxOf c
  | [], c => rfl
  | x :: l, c => by
    rw [List.map_cons]
    by_cases e : x = c
    · subst e; rw [List.idxOf_cons_self, List.idxOf_cons_self]
    · have e1 : (x == c) = false := by simpa using e
      have e2 : (one x == one c) = false := by simpa using fun h => e (one_injT h)
      rw [List.idxOf_cons, List.idxOf_cons, e1, e2, cond_false, cond_false, idx_one l c]
def srtN (l : List Nat) : List Nat := l.mergeSort fun a b => decide (a ≤ b)
theorem srtN_perm (l : List Nat) : (srtN l).Perm l := List.mergeSort_perm _ _
theorem srtN_lt {l : List Nat} (h : l.Nodup) : (srtN l).Pairwise (· < ·) := by
  have h1 : (srtN l).Pairwise fun a b => decide (a ≤ b) = true := List.pairwise_mergeSort (fun a b c h g => by simp at h g ⊢; omega) (fun a b => by simp; omega) l
  have h2 : (srtN l).Nodup := (srtN_perm l).nodup_iff.mpr h
  exact List.Pairwise.imp₂ (fun a b h g => by simp at h; exact Nat.lt_of_le_of_ne h g) h1 h2
theorem le_one {a b : Nat} (h : a ≤ b) : leS (one a) (one b) = true := by
  have : ¬ b < a := by omega
  simp [leS, one, ltCps, this]
theorem sort_one' (l : List Nat) : sortS (l.map one) = (srtN l).map one := by
  have hp : ((srtN l).map one).Perm (l.map one) := (srtN_perm l).map one
  rw [← perm_sort hp]
  refine List.mergeSort_of_pairwise ?_
  rw [List.pairwise_map]
  have h1 : (srtN l).Pairwise fun a b => decide (a ≤ b) = true := List.pairwise_mergeSort (fun a b c h g => by simp at h g ⊢; omega) (fun a b => by simp; omega) l
  exact List.Pairwise.imp (fun h => le_one (by simpa using h)) h1
theorem idx_rk {R : List El} (h : okR R) {c : Nat} (hc : c ∈ dg R) : (srtN (dg R)).idxOf c = rkC R c := by
  have hp := srtN_perm (dg R)
  rw [idx_cnt (srtN_lt (dg_nd h.nd)) (hp.mem_iff.mpr hc)]
  exact (hp.filter _).length_eq
end Mi
namespace Mi
open PySem PySem.Spec PyProof.Rows L2
/-! ### ranks told by the program and by the law -/
theorem toS_fk {x : El} (h : okE x) : okFk (toS x) := by
  cases x with
  | inl c => exact .inr ⟨c, by rw [fg_digs]; exact h, rfl⟩
  | inr s => exact .inl h
theorem gm_fg : ∀ c ∈ gm.cps.toList, c ∉ fg.cps.toList := by decide +kernel
theorem name_c {s : Str} (h : okNam s) : ∃ c, c ∈ s.cps.toList ∧ c ∉ fg.cps.toList := by
  obtain ⟨h1, _, h3⟩ := h
  have : 0 < s.cps.toList.length := by
    have h1' : 1 ≤ s.cps.toList.length := by simpa [Str.length] using h1
    omega
  exact ⟨s.cps.toList[0], List.getElem_mem this, gm_fg _ (h3 _ (List.getElem_mem this))⟩
theorem in_fg {x : El} (h : okE x) : inD (.str (toS x)) (.str fg) = some (.bl (isL x)) := by
  cases x with
  | inl c =>
    have : c ∈ fg.cps.toList := by rw [fg_digs]; exact h
    show inD (.str (one c)) (.str fg) = _
    rw [inD_one]
    simp only [isL, decide_eq_true this]
  | inr s =>
    obtain ⟨c, hc, hn⟩ := name_c h
    show (inQ (.str s) (.str fg)).map D.bl = some (.bl false)
    have key : inQ (.str s) (.str fg) = some false := by
      show (match s.cps.toList with
        | [c] => some (decide (c ∈ fg.cps.toList))
        | _ => some (!(Builtin.Str.occurrences fg s 0 fg.length 1).isEmpty)) = some false
      split
      · rename_i d e
        rw [e, List.mem_singleton] at hc
        subst hc
        rw [decide_eq_false hn]
      · have := PySem.W.occ_nil_of_no (x := fg) (y := s) 1 (fun i _ => by
          cases hs : Builtin.Str.subAt fg s i with
          | false => rfl
          | true =>
            exfalso
            have hm : c ∈ s.cps := by simpa using hc
            rw [← beq_iff_eq.mp hs] at hm
            obtain ⟨k, hk, rfl⟩ := Array.mem_extract_iff_getElem.mp hm
            exact hn (by simp))
        rw [this]; rfl
    rw [key]; rfl
theorem comB_el {x : El} (h : okE x) : comB (toS x) = isL x := by
  cases x with
  | inl c =>
    have : c ∈ fg.cps.toList := by rw [fg_digs]; exact h
    have h2 : c ∈ fg.cps := by simpa using this
    simp [comB, toS, one, Str.length, isL, h2]
  | inr s =>
    obtain ⟨c, hc, hn⟩ := name_c h
    have : (s.cps.toList.all fun c => decide (c ∈ fg.cps.toList)) = false := by
      rw [Bool.eq_false_iff]
      intro q
      rw [List.all_eq_true] at q
      exact hn (by simpa using q c hc)
    simp only [comB, toS, this, Bool.and_false, isL]
theorem com_el {x : El} (h : okE x) : g_is_comer [.str (toS x)] = .ok (.bl (isL x), [some (.str (toS x))]) := by
  have := s_is_comer (s := toS x) (by have := okFk_len (toS_fk h); omega)
  rw [comB_el h] at this
  exact this
def rwD (R : List El) : D := .tup (R.map fun x => .str (toS x))
theorem fz_rwL (R : List El) : fzL (R.map fun x => D.str (toS x)) = true := fzL_map _ (fun _ => by simp) _
theorem fz_rw (R : List El) : fz (rwD R) = true := by rw [rwD, fz, fz_rwL]
theorem lt_one (a b : Nat) : ltD (.str (one a)) (.str (one b)) = some (.bl (decide (a < b))) := by
  have : (one a).cps.toList < (one b).cps.toList ↔ a < b := by
    show List.Lex (· < ·) [a] [b] ↔ _
    constructor
    · intro h
      cases h with
      | rel h => exact h
      | cons h => cases h
    · exact fun h => .rel h
  simp only [ltD]
  rw [decide_eq_decide.mpr this]
theorem str_dg {n : Nat} (h : n < 3) : strD [.int (n : Int)] = some (.str (one (48 + n))) := by
  match n, h with
  | 0, _ => rfl
  | 1, _ => rfl
  | 2, _ => rfl
def pD : D → Bool
  | .str s => comB s
  | _ => false
theorem filt_dg : ∀ {R : List El}, (∀ x ∈ R, okE x) → ((R.map fun x => D.str (toS x)).filter pD).map (fun d => frzQ d) = (dg R).map fun c => .str (one c)
  | [], _ => rfl
  | x :: R, h => by
    have ih := filt_dg (R := R) fun y hy => h y (List.mem_cons_of_mem _ hy)
    have h1 : pD (.str (toS x)) = isL x := comB_el (h x List.mem_cons_self)
    rw [List.map_cons, List.filter_cons, h1]
    cases x with
    | inl c =>
      rw [show isL (.inl c) = true from rfl, if_pos rfl, List.map_cons, ih]
      rfl
    | inr s =>
      rw [show isL (.inr s) = false from rfl, if_neg (by decide)]
      exact ih
def rE (R : List El) : El → El := Sum.map (fun c => 48 + rkC R c) id
theorem rk_eq (R : List El) : rk R = R.map (rE R) := rfl
theorem rkC3 {R : List El} (h : okR R) {c : Nat} (hc : c ∈ dg R) : rkC R c < 3 := by
  have h1 := rkC_len hc
  have h2 := dg_len R
  have h3 := h.l3
  omega
theorem strs_one (l : List Nat) : strsOf (l.map fun c => .str (one c)) = some (l.map one) := by
  have := strsOf_map (l.map one)
  rw [List.map_map] at this
  exact this
theorem idx_D {R : List El} (h : okR R) {c : Nat} (hc : c ∈ dg R) : idxF ((srtN (dg R)).map fun c => .str (one c)) [.str (one c)] = some (.int (rkC R c : Nat), (srtN (dg R)).map fun c => .str (one c)) := by
  simp only [idxF, strs_one]
  have hm : c ∈ srtN (dg R) := (srtN_perm (dg R)).mem_iff.mpr hc
  rw [if_pos (List.mem_map.mpr ⟨c, hm, rfl⟩), idx_one, idx_rk h hc]
def raF (R : List El) : D → D := fun d => match d with
  | .str s => if comB s = true then .str (one (48 + rkC R (s.cps.toList.headD 0))) else .str s
  | d => d
theorem raF_el {R : List El} {x : El} (h : okE x) : raF R (.str (toS x)) = .str (toS (rE R x)) := by
  show (if comB (toS x) = true then _ else _) = _
  rw [comB_el h]
  cases x with
  | inl c => simp [isL, rE, toS, one]
  | inr s => simp [isL, rE, toS]
theorem s_ranked {R : List El} (h : okR R) : g_ranked [rwD R] = .ok (rwD (rk R), [some (rwD R)]) := by
  have z := fz_rw R
  have zL := fz_rwL R
  have hq : frzQ (rwD R) = rwD R := frzQ_fz z
  have hsq : seqI [rwD R] = some (R.map fun x => D.str (toS x)) := by simp only [rwD, seqI, zL, if_true]
  have hlen : (R.map fun x => D.str (toS x)).length ≤ 1000 := by rw [List.length_map]; have := h.l3; omega
  have e1 := lc_filter (k := 2) (cond := mTB (mCall g_is_comer (mArgs [mVarA 2]))) (elt := mVarE 2) (fun d => d) pD (e := [some (rwD R), none, none]) (ds := R.map fun x => D.str (toS x)) zL hlen (fun d hd => by
      obtain ⟨x, hx, rfl⟩ := List.mem_map.mp hd
      have h1 := com_el (h.el x hx)
      have h2 : pD (.str (toS x)) = isL x := comB_el (h.el x hx)
      rw [h2]
      simp [ownVars, putBack, h1]) (fun d hd _ => by
      obtain ⟨x, hx, rfl⟩ := List.mem_map.mp hd
      simp)
  rw [filt_dg h.el] at e1
  have hst : sortD [.lst false ((dg R).map fun c => .str (one c))] = some (.lst true ((srtN (dg R)).map fun c => .str (one c))) := by
    have h1 := sortD_labs false (l := (dg R).map one) (by rw [List.length_map]; have := dg_len R; have := h.l3; omega)
    rw [sort_one', List.map_map, List.map_map] at h1
    exact h1
  have zD : fzL ((dg R).map fun c => D.str (one c)) = true := fzL_map _ (fun _ => by simp) _
  have e2 := lc_pure (k := 2) (elt := mIfE (mTB (mCall g_is_comer (mArgs [mVarA 2]))) (mCB strD (mArgs [mFrz (mMet 1 (mArgs [mFrz (mVarE 2)]) idxF)])) (mVarE 2)) (raF R) (e := [some (rwD R), some (.lst true ((srtN (dg R)).map fun c => .str (one c))), none]) (ds := R.map fun x => D.str (toS x)) zL hlen (fun d hd => by
      obtain ⟨x, hx, rfl⟩ := List.mem_map.mp hd
      have h1 := com_el (h.el x hx)
      rw [raF_el (h.el x hx)]
      cases x with
      | inl c =>
        have hc : c ∈ dg R := dg_mem.mpr hx
        have h2 := idx_D h hc
        have h3 := str_dg (rkC3 h hc)
        simp only [toS] at h1
        simp only [isL] at h1
        generalize (srtN (dg R)).map (fun c => D.str (one c)) = H at h2 ⊢
        generalize (rkC R c : Int) = kk at h2 h3
        simp [mIfE, ownVars, putBack, toS, rE, h1, h2, h3]
      | inr s =>
        simp only [toS, isL] at h1
        simp [mIfE, ownVars, putBack, toS, rE, h1])
  have e3 : ((R.map fun x => D.str (toS x)).map fun d => frzQ (raF R d)) = (rk R).map fun x => D.str (toS x) := by
    rw [rk_eq, List.map_map, List.map_map]
    refine List.map_congr_left fun x hx => ?_
    simp only [Function.comp]
    rw [raF_el (h.el x hx)]
    exact frzQ_fz (by simp)
  rw [e3] at e2
  have zK := fz_rwL (rk R)
  have htp := tupleD_l (o := false) zK
  have hmm : ∃ e, m_ranked [some (rwD R), none, none] = .ok (.ret (rwD (rk R)), some (rwD R) :: e) := by
    refine ⟨[some (.lst true ((srtN (dg R)).map fun c => .str (one c))), none], ?_⟩
    unfold rwD at *
    generalize (R.map fun x => D.str (toS x)) = X at *
    generalize ((rk R).map fun x => D.str (toS x)) = Y at *
    generalize (srtN (dg R)).map (fun c => D.str (one c)) = H at *
    generalize (dg R).map (fun c => D.str (one c)) = G at *
    simp (implicitDefEqProofs := false) [m_ranked, zL, hq, sqV_ok hsq, e1, restV, frz_lstt zD, hst, e2, frz_lstt zK, htp]
  obtain ⟨e, hmm⟩ := hmm
  simp (implicitDefEqProofs := false) [g_ranked, runD, ownOk, outsD, List.range, List.range.loop, z, hmm]
/-! the law's own -/
def ltB (c : Nat) : D → Bool
  | .str s => comB s && decide (s.cps.toList.headD 0 < c)
  | _ => false
theorem ltB_el {c : Nat} {x : El} (h : okE x) : ltB c (.str (toS x)) = match x with | .inl d => decide (d < c) | .inr _ => false := by
  show (comB (toS x) && _) = _
  rw [comB_el h]
  cases x with
  | inl d => simp [isL, toS, one]
  | inr s => simp [isL]
theorem cnt_el (c : Nat) : ∀ {R : List El}, (∀ x ∈ R, okE x) → ((R.map fun x => D.str (toS x)).filter (ltB c)).length = ((dg R).filter fun d => decide (d < c)).length
  | [], _ => rfl
  | x :: R, h => by
    have ih := cnt_el c (R := R) fun y hy => h y (List.mem_cons_of_mem _ hy)
    rw [List.map_cons, List.filter_cons, ltB_el (h x List.mem_cons_self)]
    cases x with
    | inl d =>
      rw [dg, List.filter_cons]
      by_cases hd : d < c <;> simp [hd, ih]
    | inr s => simpa [dg] using ih
def lrE : EM FlowD := (mIfS (mTB (mBin inD (mVarA 2) (mFrz (mC (.str "0123456789"))))) (mDrop (mMet 1 (mArgs [mFrz (mCB strD (mArgs [mFrz (mCB lenD (mArgs [mFrz (mLc (mIt1 (mFrz (mVarE 0))) (.nm 3) (mAndT (mTB (mBin inD (mVarA 3) (mFrz (mC (.str "0123456789"))))) (mTB (mBin ltD (mVarA 3) (mVarA 2)))) (mVarE 3) [3])]))]))]) appF)) (mDrop (mMet 1 (mArgs [mFrz (mVarE 2)]) appF)))
theorem appD {A : List D} {d : D} (z : fzL A = true) (zd : fz d = true) (h : A.length ≤ 1000) : appF A [d] = some (.non, A ++ [d]) := by
  simp only [appF]
  rw [if_pos ⟨z, zd, by omega⟩]
theorem lr_turn {R : List El} (h : okR R) {x : El} (hx : x ∈ R) {A : List D} (zA : fzL A = true) (hA : A.length ≤ 1000) : lrE [some (rwD R), some (.lst true A), some (.str (toS x)), none] = .ok (.next, [some (rwD R), some (.lst true (A ++ [.str (toS (rE R x))])), some (.str (toS x)), none]) := by
  have z := fz_rw R
  have zL := fz_rwL R
  have hq : frzQ (rwD R) = rwD R := frzQ_fz z
  have hsq : seqI [rwD R] = some (R.map fun x => D.str (toS x)) := by simp only [rwD, seqI, zL, if_true]
  have hlen : (R.map fun x => D.str (toS x)).length ≤ 1000 := by rw [List.length_map]; have := h.l3; omega
  have hin := in_fg (h.el x hx)
  have hap := appD zA (d := .str (toS (rE R x))) (by simp) hA
  cases x with
  | inr s =>
    simp only [toS, isL, fg, rE] at hin hap ⊢
    simp only [Sum.map_inr, id] at hap ⊢
    simp (implicitDefEqProofs := false) [lrE, hin, hap]
  | inl c =>
    have hc : c ∈ dg R := dg_mem.mpr hx
    have e1 := lc_filter (k := 3) (cond := mAndT (mTB (mBin inD (mVarA 3) (mFrz (mC (.str "0123456789"))))) (mTB (mBin ltD (mVarA 3) (mVarA 2)))) (elt := mVarE 3) (fun d => d) (ltB c) (e := [some (rwD R), some (.lst true A), some (.str (one c)), none]) (ds := R.map fun x => D.str (toS x)) zL hlen (fun d hd => by
        obtain ⟨y, hy, rfl⟩ := List.mem_map.mp hd
        have h1 := in_fg (h.el y hy)
        rw [ltB_el (h.el y hy)]
        cases y with
        | inl d =>
          have h2 := lt_one d c
          simp only [toS, isL, fg] at h1 ⊢
          simp [h1, h2]
        | inr s =>
          simp only [toS, isL, fg] at h1 ⊢
          simp [h1]) (fun d hd _ => by
        obtain ⟨y, hy, rfl⟩ := List.mem_map.mp hd
        simp)
    have hl : (((R.map fun x => D.str (toS x)).filter (ltB c)).map fun d => frzQ d).length = rkC R c := by
      rw [List.length_map, cnt_el c h.el]; rfl
    have zF : fzL (((R.map fun x => D.str (toS x)).filter (ltB c)).map fun d => frzQ d) = true := fzL_all fun d hd => by
      obtain ⟨y, hy, rfl⟩ := List.mem_map.mp hd
      obtain ⟨w, _, rfl⟩ := List.mem_map.mp (List.mem_filter.mp hy).1
      simp
    have hln : lenD [.lst false (((R.map fun x => D.str (toS x)).filter (ltB c)).map fun d => frzQ d)] = some (.int (rkC R c : Nat)) := by
      show some (D.int (List.length _)) = _
      rw [hl]
    have hs := str_dg (rkC3 h hc)
    generalize (((R.map fun x => D.str (toS x)).filter (ltB c)).map fun d => frzQ d) = FF at e1 zF hln
    have hap' : appF A [.str (one (48 + rkC R c))] = some (.non, A ++ [.str (one (48 + rkC R c))]) := hap
    generalize (rkC R c : Int) = kk at hln hs
    show lrE [some (rwD R), some (.lst true A), some (.str (one c)), none] = .ok (.next, [some (rwD R), some (.lst true (A ++ [.str (one (48 + rkC R c))])), some (.str (one c)), none])
    simp only [toS, isL, fg] at hin
    generalize one (48 + rkC R c) = oo at hs hap' ⊢
    simp (implicitDefEqProofs := false) [lrE, hin, z, hq, sqV_ok hsq, e1, restV, frz_lstt zF, hln, hs, hap', -lenD_l]
theorem lr_loop {R : List El} (h : okR R) : ∀ (S : List El) (A : List D) (x : Option D), (∀ y ∈ S, y ∈ R) → fzL A = true → A.length + S.length ≤ 1000 → ∃ y, loopF (.nm 2) lrE (S.map fun x => D.str (toS x)) [some (rwD R), some (.lst true A), x, none] = .ok (.next, [some (rwD R), some (.lst true (A ++ S.map fun x => .str (toS (rE R x)))), y, none])
  | [], A, x, _, _, _ => ⟨x, by simp [e_lp0]⟩
  | s :: S, A, x, hs, zA, hl => by
    simp only [List.length_cons] at hl
    have ht := lr_turn h (hs s List.mem_cons_self) zA (by omega)
    obtain ⟨y, hy⟩ := lr_loop h S (A ++ [.str (toS (rE R s))]) (some (.str (toS s))) (fun y hy => hs y (List.mem_cons_of_mem _ hy)) (by rw [fzL_append, zA]; simp) (by simp; omega)
    refine ⟨y, ?_⟩
    rw [List.map_cons, e_lp]
    simp only [lpV, tg_nm, List.set_cons_succ, List.set_cons_zero]
    rw [ht]
    simp only [bind_ok, kLp]
    rw [hy, List.map_cons, List.append_assoc]
    rfl
theorem s_law_ranks {R : List El} (h : okR R) : g__law_ranks [rwD R] = .ok (rwD (rk R), [some (rwD R)]) := by
  have z := fz_rw R
  have zL := fz_rwL R
  have hq : frzQ (rwD R) = rwD R := frzQ_fz z
  have hsq : seqI [rwD R] = some (R.map fun x => D.str (toS x)) := by simp only [rwD, seqI, zL, if_true]
  obtain ⟨y, hy⟩ := lr_loop h R [] none (fun _ h => h) rfl (by have := h.l3; simp; omega)
  have e3 : (R.map fun x => D.str (toS (rE R x))) = (rk R).map fun x => D.str (toS x) := by
    rw [rk_eq, List.map_map]; rfl
  rw [List.nil_append, e3] at hy
  have hkf := kFor_ok (t := .nm 2) (ms := lrE) (e := [some (rwD R), some (.lst true []), none, none]) zL
  rw [hy] at hkf
  simp (implicitDefEqProofs := false) only [lrE] at hkf
  have zK := fz_rwL (rk R)
  have htp : tupleD [.lst true ((rk R).map fun x => D.str (toS x))] = some (rwD (rk R)) := tupleD_l zK
  have hmm : ∃ e, m__law_ranks [some (rwD R), none, none, none] = .ok (.ret (rwD (rk R)), some (rwD R) :: e) := by
    refine ⟨[some (.lst true ((rk R).map fun x => D.str (toS x))), y, none], ?_⟩
    generalize rwD (rk R) = K at *
    generalize (R.map fun x => D.str (toS x)) = X at *
    generalize ((rk R).map fun x => D.str (toS x)) = Y at *
    simp (implicitDefEqProofs := false) [m__law_ranks, z, hq, sqV_ok hsq, hkf, htp]
  obtain ⟨e, hmm⟩ := hmm
  simp (implicitDefEqProofs := false) [g__law_ranks, runD, ownOk, outsD, List.range, List.range.loop, z, hmm]
end Mi
namespace Mi
open PySem PySem.Spec PyProof.Rows L2
/-! ### folk drawn; forms told -/
theorem ix_lst {l : List D} (z : fzL l = true) {i : Nat} (hi : i < l.length) (o : Bool) : ixD (.lst o l) (.int (i : Int)) = some l[i] := by
  have h1 : (i : Int) < l.length := by omega
  have h2 := fzL_mem z _ (List.getElem_mem hi)
  simp [ixD, atI, ixN, h1, pick, hi, h2]
theorem toS_inj {x y : El} (hx : okE x) (hy : okE y) (h : toS x = toS y) : x = y := by
  cases x with
  | inl c =>
    cases y with
    | inl d => rw [one_injT h]
    | inr s =>
      exfalso
      obtain ⟨e, he, hn⟩ := name_c hy
      have h : one c = s := h
      subst h
      have : e = c := by simpa [one] using he
      subst this
      exact hn (by rw [fg_digs]; exact hx)
  | inr s =>
    cases y with
    | inl d =>
      exfalso
      obtain ⟨e, he, hn⟩ := name_c hx
      have h : s = one d := h
      subst h
      have : e = d := by simpa [one] using he
      subst this
      exact hn (by rw [fg_digs]; exact hy)
    | inr t => exact congrArg Sum.inr h
theorem nd_toS {R : List El} (h : ∀ x ∈ R, okE x) (nd : R.Nodup) : (R.map toS).Nodup := by
  unfold List.Nodup
  rw [List.pairwise_map]
  exact List.Pairwise.imp_of_mem (fun {a b} ha hb hne e => hne (toS_inj (h a ha) (h b hb) e)) nd
theorem rw_map (R : List El) : (R.map fun x => D.str (toS x)) = (R.map toS).map .str := by rw [List.map_map]; rfl
theorem s_unlike_folk {R : List El} (h : okR R) : g_are_unlike_folk [rwD R] = .ok (.bl true, [some (rwD R)]) := by
  have z := fz_rw R
  have hl := h.l3
  have hf : ∀ s ∈ R.map toS, okFk s := fun s hs => by
    obtain ⟨x, hx, rfl⟩ := List.mem_map.mp hs
    exact toS_fk (h.el x hx)
  have zL := fzL_strs (R.map toS)
  have hsq : seqI [rwD R] = some ((R.map toS).map .str) := by rw [rwD, rw_map]; simp only [seqI, zL, if_true]
  have hln : lenD [rwD R] = some (.int (R.map toS).length) := by simp [rwD]
  have hu := s_are_unlike z hsq (by rw [List.length_map]; omega) hln (nd_toS h.el h.nd)
  have e1 := lc_pure (k := 1) (elt := mCall g_is_folk (mArgs [mVarA 1])) (fun x => .bl (folkB x)) (e := [some (rwD R), none]) (ds := (R.map toS).map .str) zL (by rw [List.length_map, List.length_map]; omega) (fun x hx => by
    have ho := strs_okF hf x hx
    have := s_is_folk ho
    have z := ho.1.1
    simp [ownVars, putBack, this, z])
  have e2 : (((R.map toS).map D.str).map fun d => frzQ ((fun x => D.bl (folkB x)) d)) = ((R.map toS).map D.str).map fun x => .bl (folkB x) := List.map_congr_left fun x _ => by simp
  rw [e2] at e1
  have ha := allD_bls (b := false) folkB ((R.map toS).map .str)
  rw [strs_all hf] at ha
  have hfl : fzL (((R.map toS).map D.str).map fun x => D.bl (folkB x)) = true := fzL_map _ (fun _ => by simp) _
  have hk : isK .tTup (rwD R) = some true := rfl
  have hq : frzQ (rwD R) = rwD R := frzQ_fz z
  generalize (((R.map toS).map D.str).map fun x => D.bl (folkB x)) = X at e1 ha hfl
  generalize (R.map toS).map D.str = Y at hsq e1
  generalize rwD R = K at *
  simp (implicitDefEqProofs := false) [g_are_unlike_folk, m_are_unlike_folk, runD, ownOk, outsD, List.range, List.range.loop, ownVars, putBack, z, hk, hq, sqV_ok hsq, e1, restV, frz_lstt hfl, ha, hu]
theorem s_place_form {l : Str} {R : List El} (h : okR R) : g_place_form [.tup [.str l, rwD R]] = .ok (.tup [.str l, rwD (rk R)], [some (.tup [.str l, rwD R])]) := by
  have z := fz_rw R
  have z2 := fz_rw (rk R)
  have i0 : ixD (.tup [.str l, rwD R]) (.int 0) = some (.str l) := ixD_t0 (by simp)
  have i1 : ixD (.tup [.str l, rwD R]) (.int 1) = some (rwD R) := ixD_t1 z
  have hr := s_ranked h
  simp (implicitDefEqProofs := false) [g_place_form, m_place_form, runD, ownOk, outsD, List.range, List.range.loop, ownVars, putBack, z, z2, i0, i1, frzQ_fz z, hr, frzQ_fz z2]
theorem s_form_of {l : Str} {R : List El} (hl : okLab l) (h : okR R) : g_form_of [.tup [.str l, rwD R]] = .ok (.tup [.str l, rwD (rk R)], [some (.tup [.str l, rwD R])]) := by
  have z := fz_rw R
  have z2 := fz_rw (rk R)
  have i0 : ixD (.tup [.str l, rwD R]) (.int 0) = some (.str l) := ixD_t0 (by simp)
  have i1 : ixD (.tup [.str l, rwD R]) (.int 1) = some (rwD R) := ixD_t1 z
  have hp : g_is_pair [.tup [.str l, rwD R]] = .ok (.bl true, [some (.tup [.str l, rwD R])]) := s_is_pair (l := [.str l, rwD R]) (by simp [z])
  have hL := s_is_label hl
  have hu := s_unlike_folk h
  have hpf := s_place_form (l := l) h
  have h3 := h.l3
  have hln : lenD [rwD R] = some (.int R.length) := by simp [rwD]
  have hgt : ¬ (3 : Int) < R.length := by omega
  generalize (R.length : Int) = n at hln hgt
  have zP : fz (.tup [.str l, rwD R]) = true := by simp [z]
  generalize hP : (.tup [.str l, rwD R] : D) = P at *
  simp (implicitDefEqProofs := false) [g_form_of, m_form_of, runD, ownOk, outsD, List.range, List.range.loop, ownVars, putBack, zP, hp, i0, i1, hL, frzQ_fz z, z, hu, hln, hgt, hpf]
def foE : EM FlowD := (mIfS (mTB (mBin gtD (mFrz (mCall g__law_draw (mArgs [mVarA 0, mFrz (mC (.int 3))]))) (mFrz (mC (.int 0))))) (mDrop (mMet 3 (mArgs [mFrz (mBin ixD (mVarA 2) (mVarA 4))]) appF)) (mIfS (mTB (mBin ninD (mFrz (mBin ixD (mVarA 1) (mFrz (mBin modD (mFrz (mCB intD (mArgs [mVarA 4]))) (mFrz (mCB lenD (mArgs [mVarA 1]))))))) (mVarA 3))) (mDrop (mMet 3 (mArgs [mFrz (mBin ixD (mVarA 1) (mFrz (mBin modD (mFrz (mCB intD (mArgs [mVarA 4]))) (mFrz (mCB lenD (mArgs [mVarA 1]))))))]) appF)) (mNext)))
structure okTn (fig : List Nat) (i : Nat) (R : List El) : Prop where
  nd : R.Nodup
  el : ∀ x ∈ R, okE x
  ln : R.length ≤ i
  fg : ∀ c, Sum.inl c ∈ R → c ∈ fig.take i
theorem fo_turn (ns : List Int) {P : List Str} (hP : ∀ s ∈ P, okNam s) (p1 : 1 ≤ P.length) {fig : List Nat} (nd : fig.Nodup) (hd : ∀ c ∈ fig, c ∈ digs) {a : Int} (ha : 0 ≤ a) (b c d : Int) {i : Nat} (hi : i < fig.length) (hi3 : i ≤ 3) {R : List El} (h : okTn fig i R) : ∃ R' a' b' c' d', foE [some (fd ns a b c d), some (.tup (P.map .str)), some (.lst true (fig.map fun c => .str (one c))), some (.lst true (R.map fun x => .str (toS x))), some (.int (i : Int))] = .ok (.next, [some (fd ns a' b' c' d'), some (.tup (P.map .str)), some (.lst true (fig.map fun c => .str (one c))), some (.lst true (R'.map fun x => .str (toS x))), some (.int (i : Int))]) ∧ 0 ≤ a' ∧ okTn fig (i + 1) R' := by
  obtain ⟨q, a1, b1, c1, d1, k1, k2, k3, k4⟩ := s_law_draw ns ha b c d (m := 3) (by decide) (by decide)
  have zf : fzL (fig.map fun c => D.str (one c)) = true := fzL_map _ (fun _ => by simp) _
  have zP := fzL_strs P
  have zR := fz_rwL R
  have hRl := h.ln
  have htk : ∀ c, c ∈ fig.take i → c ∈ fig.take (i + 1) := fun c hc => by
    rw [List.take_succ]; exact List.mem_append_left _ hc
  have add : ∀ x : El, okE x → x ∉ R → (∀ c, x = .inl c → c ∈ fig.take (i + 1)) → okTn fig (i + 1) (R ++ [x]) := fun x hx hn hc => by
    refine ⟨?_, fun y hy => ?_, by simp; omega, fun e he => ?_⟩
    · rw [List.nodup_append]
      exact ⟨h.nd, by simp, fun a ha b hb => by rw [List.mem_singleton] at hb; subst hb; rintro rfl; exact hn ha⟩
    · rcases List.mem_append.mp hy with hy | hy
      · exact h.el y hy
      · rw [List.mem_singleton] at hy; subst hy; exact hx
    · rcases List.mem_append.mp he with he | he
      · exact htk e (h.fg e he)
      · rw [List.mem_singleton] at he; exact hc e he.symm
  have hap : ∀ x : El, appF (R.map fun x => .str (toS x)) [.str (toS x)] = some (.non, (R ++ [x]).map fun x => .str (toS x)) := fun x => by
    simp only [appF]
    rw [if_pos ⟨zR, by simp, by rw [List.length_map]; omega⟩]
    simp
  by_cases hq : 0 < q
  · have hx := ix_lst zf (i := i) (by rw [List.length_map]; exact hi) true
    rw [List.getElem_map] at hx
    have hm : fig[i] ∈ fig := List.getElem_mem hi
    have hn : Sum.inl fig[i] ∉ R := fun hm' => by
      have h1 := h.fg _ hm'
      obtain ⟨j, hj, e⟩ := List.mem_iff_getElem.mp h1
      rw [List.getElem_take] at e
      have hji : j < i := by rw [List.length_take] at hj; omega
      have := (List.getElem_inj (h₀ := by omega) (h₁ := hi) nd).mp e
      omega
    have ha2 : appF (R.map fun x => .str (toS x)) [.str (one fig[i])] = some (.non, (R ++ [(Sum.inl fig[i] : El)]).map fun x => .str (toS x)) := hap (.inl fig[i])
    refine ⟨R ++ [.inl fig[i]], a1, b1, c1, d1, ?_, k4, add (.inl fig[i]) (hd _ hm) hn fun c e => ?_⟩
    · generalize (R ++ [Sum.inl fig[i]]).map (fun x => D.str (toS x)) = R1 at ha2 ⊢
      generalize R.map (fun x => D.str (toS x)) = R2 at *
      generalize one fig[i] = oo at *
      generalize fig.map (fun c => D.str (one c)) = FG at *
      generalize (i : Int) = ii at *
      simp (implicitDefEqProofs := false) [foE, ownVars, putBack, k1, hq, hx, ha2]
    · cases e
      exact List.mem_iff_getElem.mpr ⟨i, by rw [List.length_take]; omega, by rw [List.getElem_take]⟩
  · have hm : modD (.int (i : Int)) (.int (P.length : Int)) = some (.int ((i % P.length : Nat) : Int)) := by
      rw [modD_i (by omega)]; rfl
    have hj : i % P.length < P.length := Nat.mod_lt _ (by omega)
    have hx := ix_tup zP (i := i % P.length) (by rw [List.length_map]; exact hj)
    rw [List.getElem_map] at hx
    have hs : P[i % P.length] ∈ P := List.getElem_mem hj
    have hln : lenD [.tup (P.map D.str)] = some (.int (P.length : Int)) := by simp
    have hn := nin_l P[i % P.length] (R.map toS) true
    rw [← rw_map] at hn
    by_cases hmem : P[i % P.length] ∈ R.map toS
    · refine ⟨R, a1, b1, c1, d1, ?_, k4, ⟨h.nd, h.el, by omega, fun c hc => htk c (h.fg c hc)⟩⟩
      generalize P[i % P.length] = s at *
      generalize R.map (fun x => D.str (toS x)) = R2 at *
      generalize P.map D.str = PP at *
      generalize (P.length : Int) = pl at *
      generalize ((i % P.length : Nat) : Int) = jj at *
      generalize (i : Int) = ii at *
      simp (implicitDefEqProofs := false) [foE, ownVars, putBack, k1, hq, hm, hx, hln, hn, hmem, zP]
    · have ha2 : appF (R.map fun x => .str (toS x)) [.str P[i % P.length]] = some (.non, (R ++ [(Sum.inr P[i % P.length] : El)]).map fun x => .str (toS x)) := hap (.inr P[i % P.length])
      refine ⟨R ++ [.inr P[i % P.length]], a1, b1, c1, d1, ?_, k4, add (.inr P[i % P.length]) (hP _ hs) (fun hm' => hmem (List.mem_map.mpr ⟨_, hm', rfl⟩)) fun c e => nomatch e⟩
      generalize (R ++ [Sum.inr P[i % P.length]]).map (fun x => D.str (toS x)) = R1 at ha2 ⊢
      generalize P[i % P.length] = s at *
      generalize R.map (fun x => D.str (toS x)) = R2 at *
      generalize P.map D.str = PP at *
      generalize (P.length : Int) = pl at *
      generalize ((i % P.length : Nat) : Int) = jj at *
      generalize (i : Int) = ii at *
      simp (implicitDefEqProofs := false) [foE, ownVars, putBack, k1, hq, hm, hx, hln, hn, hmem, zP, ha2]
theorem fo_loop (ns : List Int) {P : List Str} (hP : ∀ s ∈ P, okNam s) (p1 : 1 ≤ P.length) {fig : List Nat} (nd : fig.Nodup) (hd : ∀ c ∈ fig, c ∈ digs) (hf3 : fig.length = 3) : ∀ (n i : Nat) (R : List El) (a b c d : Int) (x : Option D), i + n ≤ 3 → 0 ≤ a → okTn fig i R → ∃ R' a' b' c' d' y, loopF (.nm 4) foE ((List.range' i n).map fun (j : Nat) => .int (0 + (j : Int))) [some (fd ns a b c d), some (.tup (P.map .str)), some (.lst true (fig.map fun c => .str (one c))), some (.lst true (R.map fun x => .str (toS x))), x] = .ok (.next, [some (fd ns a' b' c' d'), some (.tup (P.map .str)), some (.lst true (fig.map fun c => .str (one c))), some (.lst true (R'.map fun x => .str (toS x))), y]) ∧ 0 ≤ a' ∧ okTn fig (i + n) R'
  | 0, i, R, a, b, c, d, x, _, ha, h => ⟨R, a, b, c, d, x, by simp [e_lp0], ha, h⟩
  | n + 1, i, R, a, b, c, d, x, hi, ha, h => by
    obtain ⟨R1, a1, b1, c1, d1, k1, k2, k3⟩ := fo_turn ns hP p1 nd hd ha b c d (i := i) (by omega) (by omega) h
    obtain ⟨R', a2, b2, c2, d2, y, j1, j2, j3⟩ := fo_loop ns hP p1 nd hd hf3 n (i + 1) R1 a1 b1 c1 d1 (some (.int (i : Int))) (by omega) k2 k3
    refine ⟨R', a2, b2, c2, d2, y, ?_, j2, by rw [show i + (n + 1) = i + 1 + n by omega]; exact j3⟩
    rw [List.range'_succ, List.map_cons, e_lp]
    simp only [lpV, tg_nm, List.set_cons_succ, List.set_cons_zero, Int.zero_add] at j1 ⊢
    rw [k1]
    simp only [bind_ok, kLp]
    exact j1
theorem s_law_folk (ns : List Int) {P : List Str} (hP : ∀ s ∈ P, okNam s) (p1 : 1 ≤ P.length) {a : Int} (ha : 0 ≤ a) (b c d : Int) : ∃ R a' b' c' d', g__law_folk [fd ns a b c d, .tup (P.map .str)] = .ok (rwD R, [some (fd ns a' b' c' d'), some (.tup (P.map .str))]) ∧ 0 ≤ a' ∧ okR R := by
  obtain ⟨fig, a1, b1, c1, d1, f1, f2, f3, f4, f5⟩ := s_law_pick ns ha b c d
  obtain ⟨k, a2, b2, c2, d2, k1, k2, k3, k4⟩ := s_law_draw ns f2 b1 c1 d1 (m := 4) (by decide) (by decide)
  obtain ⟨R, a3, b3, c3, d3, y, j1, j2, j3⟩ := fo_loop ns hP p1 f3 f4 f5 k.toNat 0 [] a2 b2 c2 d2 none (by omega) k4 ⟨.nil, by simp, by simp, by simp⟩
  have hr : rng1 [.int k] = some ((List.range' 0 k.toNat).map fun (j : Nat) => .int (0 + (j : Int))) := by
    have : rng1 [.int k] = some (rngD 0 k.toNat) := by
      show (if _ then _ else _) = _
      rw [if_pos (by omega)]
    rw [this, rngD, List.range_eq_range']
  have hz : fzL ((List.range' 0 k.toNat).map fun (j : Nat) => D.int (0 + (j : Int))) = true := fzL_map _ (fun _ => by simp) _
  have hkf := kFor_ok (t := .nm 4) (ms := foE) (e := [some (fd ns a2 b2 c2 d2), some (.tup (P.map .str)), some (.lst true (fig.map fun c => .str (one c))), some (.lst true []), none]) hz
  rw [List.map_nil] at j1
  rw [j1] at hkf
  simp (implicitDefEqProofs := false) only [foE] at hkf
  have zR := fz_rwL R
  have zP := fzL_strs P
  have htp : tupleD [.lst true (R.map fun x => D.str (toS x))] = some (rwD R) := tupleD_l zR
  refine ⟨R, a3, b3, c3, d3, ?_, j2, ⟨j3.nd, j3.el, by have := j3.ln; omega⟩⟩
  have hmm : ∃ e, m__law_folk [some (fd ns a b c d), some (.tup (P.map .str)), none, none, none] = .ok (.ret (rwD R), some (fd ns a3 b3 c3 d3) :: some (.tup (P.map .str)) :: e) := by
    refine ⟨[some (.lst true (fig.map fun c => .str (one c))), some (.lst true (R.map fun x => .str (toS x))), y], ?_⟩
    generalize (List.range' 0 k.toNat).map (fun (j : Nat) => D.int (0 + (j : Int))) = RG at *
    generalize fig.map (fun c => D.str (one c)) = FG at *
    generalize R.map (fun x => D.str (toS x)) = R2 at *
    simp (implicitDefEqProofs := false) [m__law_folk, ownVars, putBack, f1, k1, rV_ok hr, hkf, htp]
  obtain ⟨e, hmm⟩ := hmm
  simp (implicitDefEqProofs := false) [g__law_folk, runD, ownOk, outsD, List.range, List.range.loop, zP, hmm]
end Mi
namespace Mi
open PySem PySem.Spec PyProof.Rows L2
/-! ### parties without numbers; the forms -/
theorem s_is_name {s : Str} (h : okNam s) : g_is_name [.str s] = .ok (.bl true, [some (.str s)]) := by
  have h1 := s_is_ofB (s := s) (t := gm) (by have := h.2.1; omega)
  have h2 : ofB s gm = true := by
    simp only [ofB, h.1, h.2.1, decide_true, Bool.true_and, List.all_eq_true, decide_eq_true_eq]
    exact h.2.2
  rw [h2] at h1
  simp only [gm] at h1
  simp (implicitDefEqProofs := false) [g_is_name, m_is_name, runD, ownOk, outsD, List.range, List.range.loop, ownVars, putBack, h1]
theorem eqD_strs {a b : Bool} {l : List Str} (h : ∀ s ∈ l, PyData.strOk s = true) : eqD (.lst a (l.map .str)) (.lst b (l.map .str)) = some (.bl true) := by
  have h1 := okPL_strs l 63 h
  simp [eqD, eqQ, scalD, okP, h1, eqB, toP, PyData.eqv, eqv_strs]
theorem listY_t {l : List D} (h : fzL l = true) : listY [.tup l] = some (.lst true l) := by
  show (if fzL l = true then _ else _) = _
  rw [if_pos h]
theorem s_are_names {K : List Str} (h : ∀ s ∈ K, okNam s) (h3 : K.length ≤ 3) (nd : K.Nodup) (hs : sortS K = K) : g_are_names [.tup (K.map .str)] = .ok (.bl true, [some (.tup (K.map .str))]) := by
  have zK := fzL_strs K
  have z : fz (.tup (K.map D.str)) = true := by rw [fz, zK]
  have hsq : seqI [.tup (K.map D.str)] = some (K.map .str) := by simp only [seqI, zK, if_true]
  have hln : lenD [.tup (K.map D.str)] = some (.int K.length) := by simp
  have hu := s_are_unlike z hsq (by omega) hln nd
  have e1 := lc_pure (k := 1) (elt := mCall g_is_name (mArgs [mVarA 1])) (fun _ => .bl true) (e := [some (.tup (K.map .str)), none]) (ds := K.map .str) zK (by rw [List.length_map]; omega) (fun x hx => by
    obtain ⟨s, hs, rfl⟩ := List.mem_map.mp hx
    have := s_is_name (h s hs)
    simp [ownVars, putBack, this])
  have e2 : ((K.map D.str).map fun d => frzQ ((fun _ => D.bl true) d)) = (K.map D.str).map fun _ => .bl true := List.map_congr_left fun x _ => by simp
  rw [e2] at e1
  have ha : allD [.lst false ((K.map D.str).map fun _ => D.bl true)] = some (.bl true) := allD_true fun d hd => by
    obtain ⟨_, _, rfl⟩ := List.mem_map.mp hd; rfl
  have hfl : fzL ((K.map D.str).map fun _ => D.bl true) = true := fzL_map _ (fun _ => by simp) _
  have hk : isK .tTup (.tup (K.map D.str)) = some true := rfl
  have hq : frzQ (.tup (K.map D.str)) = .tup (K.map .str) := frzQ_fz z
  have hly := listY_t zK
  have hst : sortX [.tup (K.map .str)] = some (.lst true (K.map .str)) := by
    simp only [sortX, strsOf_map]
    rw [if_pos (by omega), hs]
  have hf := frz_lstt zK
  have heq : eqD (.lst false (K.map .str)) (.lst false (K.map .str)) = some (.bl true) := eqD_strs fun s hs => strOk_fk (.inl (h s hs))
  have hgt : ¬ (3 : Int) < K.length := by omega
  generalize (K.length : Int) = n at hln hgt
  generalize ((K.map D.str).map fun _ => D.bl true) = X at e1 ha hfl
  generalize K.map D.str = Y at *
  simp (implicitDefEqProofs := false) [g_are_names, m_are_names, runD, ownOk, outsD, List.range, List.range.loop, ownVars, putBack, zK, hk, hln, hgt, hq, sqV_ok hsq, e1, restV, frz_lstt hfl, ha, hly, hst, hf, heq, hu]
def ptD (o : Bool) (b : Bk) (K : List Str) : D := .ins o "Party" ["book", "names", "kept"] [bkD false b, .tup (K.map .str), .dic false [] []]
theorem fz_bkF (b : Bk) : fz (bkD false b) = true := by
  have h1 := fz_tabs b.ts
  have h2 := fz_dmds b.ds
  simp [bkD, fz, fzL, tabsD, h1, h2]
theorem s_are_numbers {x y : D} (hx : fz x = true) (hy : fz y = true) : g_are_numbers [x, y, .dic false [] []] = .ok (.bl true, [some x, some y, some (.dic false [] [])]) := by
  have hk : isK .tDic (.dic false [] []) = some true := rfl
  have ha : allD [.lst false []] = some (.bl true) := rfl
  have hf : frzQ (.lst true []) = .lst false [] := frz_lstt rfl
  simp (implicitDefEqProofs := false) [g_are_numbers, m_are_numbers, runD, ownOk, outsD, List.range, List.range.loop, hx, hy, hk, ha, hf]
theorem s_Party {b : Bk} {K : List Str} (h : ∀ s ∈ K, okNam s) (h3 : K.length ≤ 3) (nd : K.Nodup) (hs : sortS K = K) : g_Party__init [.ins true "Party" [] [], bkD false b, .tup (K.map .str), .dic false [] []] = .ok (.non, [some (ptD true b K), some (bkD false b), some (.tup (K.map .str)), some (.dic false [] [])]) := by
  have zb := fz_bkF b
  have zK := fzL_strs K
  have z : fz (.tup (K.map D.str)) = true := by rw [fz, zK]
  have hn := s_are_names h h3 nd hs
  have hu := s_are_numbers zb z
  have hqb : frzQ (bkD false b) = bkD false b := frzQ_fz zb
  have hq : frzQ (.tup (K.map D.str)) = .tup (K.map .str) := frzQ_fz z
  have hc : copyD (.dic false [] []) = some (.dic true [] []) := rfl
  have hqd : frzQ (.dic true [] []) = .dic false [] [] := by simp [frzQ, frz, frzL]
  have hqe : frzQ (.dic false [] []) = .dic false [] [] := frzQ_fz (by simp)
  have n1 : fz (.ins true "Party" [] []) = false := by rw [fz]; rfl
  have n2 : ¬ ("book" : Str) = "names" := by decide
  have n3 : ¬ ("book" : Str) = "kept" := by decide
  have n4 : ¬ ("names" : Str) = "kept" := by decide
  unfold ptD
  generalize hB : bkD false b = B at *
  generalize K.map D.str = Y at *
  simp (implicitDefEqProofs := false) [g_Party__init, m_Party__init, runD, ownOk, outsD, List.range, List.range.loop, ownVars, putBack, zb, z, zK, hn, hu, hqb, hq, hc, hqd, hqe, n1, cs_book, cs_names, cs_kept, fsetG, putW, n2, n3, n4]
theorem rows_nd (F : List Str) (hF : F.Nodup) : ∀ n, ∀ r ∈ rows F n, r.Nodup
  | 0, r, h => by
    simp only [rows, List.mem_singleton] at h
    subst h; exact .nil
  | n + 1, r, h => by
    simp only [rows, List.mem_flatMap, List.mem_map, List.mem_filter] at h
    obtain ⟨r0, h0, x, ⟨hx, hn⟩, rfl⟩ := h
    have hn : x ∉ r0 := by simpa using hn
    rw [List.nodup_append]
    exact ⟨rows_nd F hF n r0 h0, by simp, fun a ha b hb => by rw [List.mem_singleton] at hb; subst hb; rintro rfl; exact hn ha⟩
theorem rows_all (F : List Str) : ∀ (n : Nat) (r : List Str), r.length = n → r.Nodup → (∀ s ∈ r, s ∈ F) → r ∈ rows F n
  | 0, r, h, _, _ => by
    have : r = [] := List.length_eq_zero_iff.mp h
    subst this; simp [rows]
  | n + 1, r, h, nd, hm => by
    rcases List.eq_nil_or_concat r with e | ⟨r0, x, e⟩
    · subst e; simp at h
    · rw [List.concat_eq_append] at e
      subst e
      rw [List.nodup_append] at nd
      have h0 : r0.length = n := by simpa using h
      simp only [rows, List.mem_flatMap, List.mem_map, List.mem_filter]
      refine ⟨r0, rows_all F n r0 h0 nd.1 fun s hs => hm s (List.mem_append_left _ hs), x, ⟨hm x (by simp), ?_⟩, rfl⟩
      simpa using fun hx => nd.2.2 x hx x (by simp) rfl
def ofS (s : Str) : El := if comB s = true then .inl (s.cps.toList.headD 0) else .inr s
theorem ofS_toS {x : El} (h : okE x) : ofS (toS x) = x := by
  unfold ofS
  rw [comB_el h]
  cases x with
  | inl c => simp [isL, toS, one]
  | inr s => simp [isL, toS]
theorem eqv_ss : ∀ (xs ys : List Str), PyData.eqvAll (toPL (xs.map .str)) (toPL (ys.map .str)) = decide (xs = ys)
  | [], [] => rfl
  | [], _ :: _ => rfl
  | _ :: _, [] => rfl
  | x :: xs, y :: ys => by
    rw [List.map_cons, List.map_cons]
    simp only [toPL, toP, PyData.eqvAll, PyData.eqv, eqv_ss xs ys]
    by_cases h : x = y <;> simp [h]
theorem okP_rw {R : List El} (h : ∀ x ∈ R, okE x) (n : Nat) : okP (n + 1) (rwD R) = true := by
  rw [rwD, rw_map, okP]
  exact okPL_strs _ _ fun s hs => by
    obtain ⟨x, hx, rfl⟩ := List.mem_map.mp hs
    exact strOk_fk (toS_fk (h x hx))
theorem eqD_rw {R S : List El} (h : ∀ x ∈ R, okE x) (g : ∀ x ∈ S, okE x) : eqD (rwD R) (rwD S) = some (.bl (decide (R.map toS = S.map toS))) := by
  have h1 := okP_rw h 63
  have h2 := okP_rw g 63
  have hs : scalD (rwD R) (rwD S) = none := rfl
  have he : eqB (rwD R) (rwD S) = decide (R.map toS = S.map toS) := by
    unfold eqB
    rw [rwD, rwD, rw_map, rw_map]
    simp only [toP, PyData.eqv]
    exact eqv_ss _ _
  simp [eqD, eqQ, hs, h1, h2, he]
def fmE : EM FlowD := (mIfS (mTB (mBin eqD (mFrz (mCall g_ranked (mArgs [mVarA 5]))) (mVarA 5))) (mDrop (mMet 2 (mArgs [mFrz (mTup (mArgs [mFrz (mVarE 3), mFrz (mVarE 5)]))]) appF)) (mNext))
def frmD (l : Str) (R : List El) : D := .tup [.str l, rwD R]
def selR (R : List El) : Bool := decide ((rk R).map toS = R.map toS)
theorem fm_turn (p q s : Option D) (l : Str) {R : List El} (h : okR R) {A : List D} (zA : fzL A = true) (hA : A.length ≤ 1000) : fmE [p, q, some (.lst true A), some (.str l), s, some (rwD R)] = .ok (.next, [p, q, some (.lst true (A ++ if selR R = true then [frmD l R] else [])), some (.str l), s, some (rwD R)]) := by
  have z := fz_rw R
  have z2 := fz_rw (rk R)
  have hr := s_ranked h
  have he := eqD_rw (okR_rk h).el h.el
  have hq : frzQ (rwD R) = rwD R := frzQ_fz z
  have hq2 : frzQ (rwD (rk R)) = rwD (rk R) := frzQ_fz z2
  have zf : fz (frmD l R) = true := by simp [frmD, z]
  have hq3 : frzQ (.tup [.str l, rwD R]) = frmD l R := frzQ_fz zf
  have hap := appD zA zf hA
  rw [show decide ((rk R).map toS = R.map toS) = selR R from rfl] at he
  cases hsel : selR R with
  | true =>
    rw [hsel] at he
    simp (implicitDefEqProofs := false) [fmE, ownVars, putBack, z, hr, hq2, he, hq, hq3, hap]
  | false =>
    rw [hsel] at he
    simp (implicitDefEqProofs := false) [fmE, ownVars, putBack, z, hr, hq2, he]
theorem fm_loop (p q s : Option D) (l : Str) : ∀ (Rs : List (List El)) (A : List D) (x : Option D), (∀ R ∈ Rs, okR R) → fzL A = true → A.length + Rs.length ≤ 1000 → ∃ y, loopF (.nm 5) fmE (Rs.map rwD) [p, q, some (.lst true A), some (.str l), s, x] = .ok (.next, [p, q, some (.lst true (A ++ (Rs.filter selR).map (frmD l))), some (.str l), s, y])
  | [], A, x, _, _, _ => ⟨x, by simp [e_lp0]⟩
  | R :: Rs, A, x, h, zA, hl => by
    simp only [List.length_cons] at hl
    have ht := fm_turn p q s l (h R List.mem_cons_self) zA (by omega)
    have zf : fz (frmD l R) = true := by simp [frmD, fz_rw]
    obtain ⟨y, hy⟩ := fm_loop p q s l Rs (A ++ if selR R = true then [frmD l R] else []) (some (rwD R)) (fun S hS => h S (List.mem_cons_of_mem _ hS)) (by rw [fzL_append, zA]; split <;> simp [zf]) (by rw [List.length_append]; split <;> simp <;> omega)
    refine ⟨y, ?_⟩
    rw [List.map_cons, e_lp]
    simp only [lpV, tg_nm, List.set_cons_succ, List.set_cons_zero]
    rw [ht]
    simp only [bind_ok, kLp]
    rw [hy, List.append_assoc, List.filter_cons]
    cases selR R <;> rfl
end Mi
namespace Mi
open PySem PySem.Spec PyProof.Rows L2
/-! ### the forms of a party -/
def c3 : List Str := ["0", "1", "2"]
theorem s_comers : g_comers [.int 3] = .ok (.lst true (c3.map .str), [some (.int 3)]) := by
  have h1 : slD (.str "0123456789") none (some 3) = some (.str "012") := by
    simp only [slD]
    rw [if_pos (by rw [szl]; decide)]
    rfl
  have h2 : listY [.str "012"] = some (.lst true (c3.map .str)) := by
    simp only [listY]
    rw [if_pos (by decide)]
    rfl
  simp (implicitDefEqProofs := false) [g_comers, m_comers, runD, ownOk, outsD, List.range, List.range.loop, h1, h2]
theorem add_ll {o o' : Bool} {l m : List D} (zl : fzL l = true) (zm : fzL m = true) (h : l.length + m.length ≤ 10000) : addD (.lst o l) (.lst o' m) = some (.lst true (l ++ m)) := by
  have : l.length + m.length ≤ 16777216 := by omega
  simp [addD, zl, zm, szl, this]
theorem c3_el : ∀ s ∈ c3, ∃ c ∈ digs, s = one c := by decide +kernel
theorem c3_nd : c3.Nodup := by decide +kernel
def Fk (K : List Str) : List Str := c3 ++ K
theorem Fk_el {K : List Str} (h : ∀ s ∈ K, okNam s) : ∀ s ∈ Fk K, ∃ x, okE x ∧ toS x = s := fun s hs => by
  rcases List.mem_append.mp hs with hs | hs
  · obtain ⟨c, hc, rfl⟩ := c3_el s hs
    exact ⟨.inl c, hc, rfl⟩
  · exact ⟨.inr s, h s hs, rfl⟩
theorem Fk_nd {K : List Str} (h : ∀ s ∈ K, okNam s) (nd : K.Nodup) : (Fk K).Nodup := by
  unfold Fk
  rw [List.nodup_append]
  refine ⟨c3_nd, nd, fun a ha b hb e => ?_⟩
  subst e
  obtain ⟨c, hc, rfl⟩ := c3_el a ha
  have := toS_inj (x := .inl c) (y := .inr (one c)) hc (h _ hb) rfl
  cases this
def rws (K : List Str) (n : Nat) : List (List El) := (rows (Fk K) n).map fun r => r.map ofS
theorem rw_row {K : List Str} (h : ∀ s ∈ K, okNam s) (nd : K.Nodup) {n : Nat} (h3 : n ≤ 3) {r : List Str} (hr : r ∈ rows (Fk K) n) : rowD r = rwD (r.map ofS) ∧ okR (r.map ofS) := by
  obtain ⟨i1, i2⟩ := rows_item (Fk K) n r hr
  have i3 := rows_nd (Fk K) (Fk_nd h nd) n r hr
  have back : ∀ s ∈ r, toS (ofS s) = s ∧ okE (ofS s) := fun s hs => by
    obtain ⟨x, hx, rfl⟩ := Fk_el h s (i2 s hs)
    rw [ofS_toS hx]
    exact ⟨rfl, hx⟩
  refine ⟨?_, ?_, fun x hx => ?_, by rw [List.length_map]; omega⟩
  · unfold rowD rwD
    rw [List.map_map]
    refine congrArg D.tup (List.map_congr_left fun s hs => ?_)
    simp only [Function.comp, (back s hs).1]
  · unfold List.Nodup
    rw [List.pairwise_map]
    exact List.Pairwise.imp_of_mem (fun {a b} ha hb hne e => hne (by rw [← (back a ha).1, ← (back b hb).1, e])) i3
  · obtain ⟨s, hs, rfl⟩ := List.mem_map.mp hx
    exact (back s hs).2
theorem rws_D {K : List Str} (h : ∀ s ∈ K, okNam s) (nd : K.Nodup) {n : Nat} (h3 : n ≤ 3) : (rows (Fk K) n).map rowD = (rws K n).map rwD := by
  unfold rws
  rw [List.map_map]
  exact List.map_congr_left fun r hr => (rw_row h nd h3 hr).1
theorem big6' {n k : Nat} (h : n ≤ 6) (hk : k < 3) : n ^ k * n ≤ 216 := by
  have h1 : n ^ k * n ≤ 6 ^ k * 6 := Nat.mul_le_mul (Nat.pow_le_pow_left h k) h
  have h2 : 6 ^ k * 6 ≤ 216 := by
    match k, hk with
    | 0, _ => decide
    | 1, _ => decide
    | 2, _ => decide
  exact Nat.le_trans h1 h2
theorem rws_len {K : List Str} (hk : K.length ≤ 3) {n : Nat} (h3 : n ≤ 3) : (rws K n).length ≤ 216 := by
  unfold rws
  rw [List.length_map]
  have h1 := rows_len (Fk K) n
  have h2 : (Fk K).length ≤ 6 := by simp [Fk, c3]; omega
  cases n with
  | zero => simp [rows]
  | succ k =>
    rw [Nat.pow_succ] at h1
    exact Nat.le_trans h1 (big6' h2 (by omega))
def fmM : EM FlowD := (mFor (mIt1 (mFrz (mCall g_arrangements (mArgs [mFrz (mBin addD (mFrz (mCall g_comers (mArgs [mFrz (mC (.int 3))]))) (mFrz (mCB listY (mArgs [mVarA 1])))), mVarA 4])))) (.nm 5) fmE)
theorem fmM_ok {l : Str} {K : List Str} (h : ∀ s ∈ K, okNam s) (nd : K.Nodup) (hk : K.length ≤ 3) {n : Nat} {z : Int} (hz : z = (n : Int)) (h3 : n ≤ 3) (p : Option D) : ∃ y, fmM [p, some (.tup (K.map .str)), some (.lst true []), some (.str l), some (.int z), none] = .ok (.next, [p, some (.tup (K.map .str)), some (.lst true (((rws K n).filter selR).map (frmD l))), some (.str l), some (.int z), y]) := by
  have zK := fzL_strs K
  have zc := fzL_strs c3
  have hly := listY_t zK
  have hadd : addD (.lst false (c3.map .str)) (.lst false (K.map .str)) = some (.lst true ((Fk K).map .str)) := by
    rw [add_ll zc zK (by simp [c3]; omega), Fk, List.map_append]
  have hl6 : (Fk K).length ≤ 6 := by simp [Fk, c3]; omega
  have hA := s_arrangements (F := Fk K) hz (by omega) (fun k hk => Nat.le_trans (big6' hl6 (by omega)) (by decide))
  rw [rws_D h nd h3] at hA
  have zR : fzL ((rws K n).map rwD) = true := fzL_map _ fz_rw _
  have hok : ∀ R ∈ rws K n, okR R := fun R hR => by
    obtain ⟨r, hr, rfl⟩ := List.mem_map.mp hR
    exact (rw_row h nd h3 hr).2
  have hlen := rws_len hk h3
  obtain ⟨y, hy⟩ := fm_loop p (some (.tup (K.map .str))) (some (.int z)) l (rws K n) [] none hok rfl (by simp; omega)
  rw [List.nil_append] at hy
  have hkf := kFor_ok (t := .nm 5) (ms := fmE) (e := [p, some (.tup (K.map .str)), some (.lst true []), some (.str l), some (.int z), none]) zR
  rw [hy] at hkf
  have hsq : seqI [.lst false ((rws K n).map rwD)] = some ((rws K n).map rwD) := by simp only [seqI, zR, if_true]
  have hfK := frz_lstt zK
  have hfc := frz_lstt zc
  have zF := fzL_strs (Fk K)
  have hfF := frz_lstt zF
  have hfR := frz_lstt zR
  have hcm := s_comers
  refine ⟨y, ?_⟩
  generalize (rws K n).map rwD = RR at *
  generalize ((rws K n).filter selR).map (frmD l) = LL at *
  generalize (Fk K).map D.str = FF at *
  generalize K.map D.str = KK at *
  generalize c3.map D.str = CC at *
  simp (implicitDefEqProofs := false) [fmM, ownVars, putBack, zK, hcm, hfc, hly, hfK, hadd, hfF, zF, hA, hfR, sqV_ok hsq, hkf]
theorem s_forms_of {l : Str} {K : List Str} (h : ∀ s ∈ K, okNam s) (nd : K.Nodup) (hk : K.length ≤ 3) {n : Nat} {z : Int} (hz : z = (n : Int)) (h3 : n ≤ 3) : g_forms_of [bkD false ⟨2, [(l, z)], []⟩, .tup (K.map .str)] = .ok (.lst true (((rws K n).filter selR).map (frmD l)), [some (bkD false ⟨2, [(l, z)], []⟩), some (.tup (K.map .str))]) := by
  have zb := fz_bkF ⟨2, [(l, z)], []⟩
  have zK := fzL_strs K
  have zt : fz (tabsD [(l, z)]) = true := by simp [tabsD, fz_tab]
  have hqt : frzQ (tabsD [(l, z)]) = tabsD [(l, z)] := frzQ_fz zt
  have hft := fld_tables false ⟨2, [(l, z)], []⟩
  have hsq : seqI [tabsD [(l, z)]] = some [tabD (l, z)] := by simp [tabsD, seqI, fz_tabs, fz_tab]
  obtain ⟨y, hy⟩ := fmM_ok (l := l) h nd hk hz h3 (some (bkD false ⟨2, [(l, z)], []⟩))
  have zl : fzL [tabD (l, z)] = true := by simp [fz_tab]
  have zL : fzL (((rws K n).filter selR).map (frmD l)) = true := fzL_map _ (fun R => by simp [frmD, fz_rw]) _
  simp only at hft
  generalize bkD false ⟨2, [(l, z)], []⟩ = B at *
  generalize ((rws K n).filter selR).map (frmD l) = LL at *
  have zKt : fz (.tup (K.map D.str)) = true := by rw [fz, zK]
  generalize K.map D.str = KK at *
  have hout : loopF (.tp [(.nm 3), (.nm 4)]) fmM [tabD (l, z)] [some B, some (.tup KK), some (.lst true []), none, none, none] = .ok (.next, [some B, some (.tup KK), some (.lst true LL), some (.str l), some (.int z), y]) := by
    rw [e_lp]
    have htg : mTg (.tp [(.nm 3), (.nm 4)]) (tabD (l, z)) [some B, some (.tup KK), some (.lst true []), none, none, none] = some [some B, some (.tup KK), some (.lst true []), some (.str l), some (.int z), none] := by
      simp [tabD, mTg, mTgs]
    rw [htg]
    simp only [lpV]
    rw [hy]
    simp only [bind_ok, kLp, e_lp0]
  have hkf := kFor_ok (t := .tp [(.nm 3), (.nm 4)]) (ms := fmM) (e := [some B, some (.tup KK), some (.lst true []), none, none, none]) zl
  rw [hout] at hkf
  simp (implicitDefEqProofs := false) only [fmM, fmE] at hkf
  generalize [tabD (l, z)] = TT at *
  have hm : ∀ env, vM 2 2 env (some (some (.lst true LL))) = .ok (.lst true LL, env.set 2 none) := fun env => vM_mv (by simp) (by omega)
  have hmm : ∃ e, m_forms_of [some B, some (.tup KK), none, none, none, none] = .ok (.ret (.lst true LL), some B :: some (.tup KK) :: e) := by
    refine ⟨[none, some (.str l), some (.int z), y], ?_⟩
    simp (implicitDefEqProofs := false) [m_forms_of, zb, hft, hqt, sqV_ok hsq, hkf, hm]
  obtain ⟨e, hmm⟩ := hmm
  simp (implicitDefEqProofs := false) [g_forms_of, runD, ownOk, outsD, List.range, List.range.loop, zb, zK, hmm]
theorem s_forms {l : Str} {K : List Str} (h : ∀ s ∈ K, okNam s) (nd : K.Nodup) (hk : K.length ≤ 3) {n : Nat} {z : Int} (hz : z = (n : Int)) (h3 : n ≤ 3) : g_forms [ptD true ⟨2, [(l, z)], []⟩ K] = .ok (.lst true (((rws K n).filter selR).map (frmD l)), [some (ptD true ⟨2, [(l, z)], []⟩ K)]) := by
  have hf := s_forms_of (l := l) h nd hk hz h3
  have zb := fz_bkF ⟨2, [(l, z)], []⟩
  have zK := fzL_strs K
  have zKt : fz (.tup (K.map D.str)) = true := by rw [fz, zK]
  have n1 : fz (ptD true ⟨2, [(l, z)], []⟩ K) = false := by rw [ptD, fz]; rfl
  have n2 : ¬ ("names" : Str) = "book" := by decide
  have f1 : fldG cs_book "book" (ptD true ⟨2, [(l, z)], []⟩ K) = some (bkD false ⟨2, [(l, z)], []⟩) := by
    simp [ptD, fldG, fldD, cs_book, pick, zb]
  have f2 : fldG cs_names "names" (ptD true ⟨2, [(l, z)], []⟩ K) = some (.tup (K.map .str)) := by
    simp [ptD, fldG, fldD, cs_names, pick, n2, zK]
  have hqb : frzQ (bkD false ⟨2, [(l, z)], []⟩) = bkD false ⟨2, [(l, z)], []⟩ := frzQ_fz zb
  have hqK : frzQ (.tup (K.map D.str)) = .tup (K.map .str) := frzQ_fz zKt
  generalize ptD true ⟨2, [(l, z)], []⟩ K = PT at *
  generalize bkD false ⟨2, [(l, z)], []⟩ = B at *
  generalize ((rws K n).filter selR).map (frmD l) = LL at *
  generalize K.map D.str = KK at *
  simp (implicitDefEqProofs := false) [g_forms, m_forms, runD, ownOk, outsD, List.range, List.range.loop, ownVars, putBack, n1, f1, f2, hqb, hqK, zb, zKt, zK, hf]
theorem okPL_all : ∀ {L : List D} {n : Nat}, (∀ d ∈ L, okP n d = true) → okPL n L = true
  | [], n, _ => by simp [okPL]
  | d :: L, n, h => by
    simp only [okPL, Bool.and_eq_true]
    exact ⟨h d List.mem_cons_self, okPL_all fun x hx => h x (List.mem_cons_of_mem _ hx)⟩
theorem toPL_map : ∀ L : List D, toPL L = L.map toP
  | [] => by simp [toPL]
  | d :: L => by simp [toPL, toPL_map L]
theorem okP_frm {l : Str} (hl : okLab l) {R : List El} (h : ∀ x ∈ R, okE x) (n : Nat) : okP (n + 2) (frmD l R) = true := by
  have h1 := okP_rw h n
  have h2 := strOk_lab hl
  simp [frmD, okP, okPL, h1, h2]
/- the form of a row stands among the forms of a party with its names -/
theorem s_among {l : Str} (hl : okLab l) {R : List El} (hR : okR R) {K : List Str} (h : ∀ s ∈ K, okNam s) (nd : K.Nodup) (hm : ∀ s, Sum.inr s ∈ R → s ∈ K) (o : Bool) : inXD (frmD l (rk R)) (.lst o (((rws K R.length).filter selR).map (frmD l))) = some (.bl true) := by
  have hk := okR_rk hR
  have hmem : rk R ∈ (rws K R.length).filter selR := by
    refine List.mem_filter.mpr ⟨?_, ?_⟩
    · refine List.mem_map.mpr ⟨(rk R).map toS, ?_, ?_⟩
      · refine rows_all _ _ _ (by rw [List.length_map, rk_eq, List.length_map]) (nd_toS hk.el hk.nd) fun s hs => ?_
        obtain ⟨x, hx, rfl⟩ := List.mem_map.mp hs
        rw [rk_eq] at hx
        obtain ⟨y, hy, rfl⟩ := List.mem_map.mp hx
        cases y with
        | inl c =>
          have := rkC3 hR (dg_mem.mpr hy)
          show one (48 + rkC R c) ∈ _
          generalize rkC R c = k at this
          refine List.mem_append_left _ ?_
          match k, this with
          | 0, _ => decide +kernel
          | 1, _ => decide +kernel
          | 2, _ => decide +kernel
        | inr s => exact List.mem_append_right _ (hm s hy)
      · rw [List.map_map]
        have : (rk R).map (ofS ∘ toS) = (rk R).map id := List.map_congr_left fun x hx => ofS_toS (hk.el x hx)
        rw [this, List.map_id]
    · simp [selR, rk_rk]
  have hall : ∀ d ∈ ((rws K R.length).filter selR).map (frmD l), okP 62 d = true := fun d hd => by
    obtain ⟨S, hS, rfl⟩ := List.mem_map.mp hd
    obtain ⟨r, hr, rfl⟩ := List.mem_map.mp (List.mem_filter.mp hS).1
    exact okP_frm hl (rw_row h nd hR.l3 hr).2.el 60
  have hd : frmD l (rk R) ∈ ((rws K R.length).filter selR).map (frmD l) := List.mem_map.mpr ⟨_, hmem, rfl⟩
  have h1 : okP 63 (frmD l (rk R)) = true := okP_frm hl hk.el 61
  have h2 := okPL_all hall
  have hq : inQ (frmD l (rk R)) (.lst o (((rws K R.length).filter selR).map (frmD l))) = none := by
    have : flatD (frmD l (rk R)) = false := rfl
    simp only [inQ, this, Bool.false_and]
    rfl
  have ha : ((toPL (((rws K R.length).filter selR).map (frmD l))).any fun z => PyData.eqv z (toP (frmD l (rk R)))) = true := by
    rw [toPL_map, List.any_map, List.any_eq_true]
    exact ⟨_, hd, PySem.SeqAt.eqv_refl _ (okP_shape _ _ h1).1⟩
  unfold inXD
  rw [hq]
  simp only
  rw [if_pos ⟨h1, h2⟩, ha]
end Mi
namespace Mi
open PySem PySem.Spec PyProof.Rows L2
/-! ### the law's own rows: raised figures, figures turned about, names -/
theorem pw_getD {l : List Nat} (h : l.Pairwise (· < ·)) {i j : Nat} (hij : i < j) (hj : j < l.length) : l.getD i 0 < l.getD j 0 := by
  rw [List.getD_eq_getElem?_getD, List.getD_eq_getElem?_getD, List.getElem?_eq_getElem hj, List.getElem?_eq_getElem (Nat.lt_trans hij hj)]
  exact List.pairwise_iff_getElem.mp h i j _ _ hij
theorem getD_mem {l : List Nat} {i : Nat} (h : i < l.length) : l.getD i 0 ∈ l := by
  rw [List.getD_eq_getElem?_getD, List.getElem?_eq_getElem h]
  exact List.getElem_mem h
def fS (L : List Nat) (R : List El) (c : Nat) : Nat := L.getD (rkC R c) 0
def fT (R : List El) (c : Nat) : Nat := (srtN (dg R)).getD ((dg R).length - 1 - rkC R c) 0
theorem srtN_len (l : List Nat) : (srtN l).length = l.length := (srtN_perm l).length_eq
theorem fS_lt {L : List Nat} (hL : L.Pairwise (· < ·)) (h3 : L.length = 3) {R : List El} (h : okR R) : ∀ c ∈ dg R, ∀ d ∈ dg R, c < d → fS L R c < fS L R d := fun c hc d hd hcd =>
  pw_getD hL (rkC_lt hcd hc) (by have := rkC3 h hd; omega)
theorem fT_lt {R : List El} (h : okR R) : ∀ c ∈ dg R, ∀ d ∈ dg R, c < d → fT R d < fT R c := fun c hc d hd hcd =>
  pw_getD (srtN_lt (dg_nd h.nd)) (by have := rkC_lt hcd hc; have := rkC_len hd; omega) (by rw [srtN_len]; have := rkC_len hc; omega)
theorem dg_digs {R : List El} (h : okR R) {c : Nat} (hc : c ∈ dg R) : c ∈ digs := h.el _ (dg_mem.mp hc)
theorem okR_S {L : List Nat} (hL : L.Pairwise (· < ·)) (h3 : L.length = 3) (hd : ∀ c ∈ L, c ∈ digs) {R : List El} (h : okR R) : okR (mapE (fS L R) R) := by
  refine okR_map h (fun c hc d hd e => ?_) fun c hc => hd _ (getD_mem (by have := rkC3 h hc; omega))
  rcases Nat.lt_trichotomy c d with h1 | h1 | h1
  · have := fS_lt hL h3 h c hc d hd h1; omega
  · exact h1
  · have := fS_lt hL h3 h d hd c hc h1; omega
theorem fT_mem {R : List El} (h : okR R) {c : Nat} (hc : c ∈ dg R) : fT R c ∈ dg R :=
  (srtN_perm (dg R)).mem_iff.mp (getD_mem (by rw [srtN_len]; have := rkC_len hc; omega))
theorem okR_T {R : List El} (h : okR R) : okR (mapE (fT R) R) := by
  refine okR_map h (fun c hc d hd e => ?_) fun c hc => dg_digs h (fT_mem h hc)
  rcases Nat.lt_trichotomy c d with h1 | h1 | h1
  · have := fT_lt h c hc d hd h1; omega
  · exact h1
  · have := fT_lt h d hd c hc h1; omega
theorem map_id_E {R : List El} {f : Nat → Nat} (h : ∀ c ∈ dg R, f c = c) : mapE f R = R := by
  rw [mapE_cg (g := fun c => c) h]
  unfold mapE
  rw [List.map_congr_left (g := id) (fun x _ => by cases x <;> rfl), List.map_id]
theorem sum_inlJ {x y : Nat} (h : (Sum.inl x : El) = .inl y) : x = y := Sum.inl.inj h
/- turned about, the row's ranks stay just where fewer than two figures are -/
theorem turn_same {R : List El} (h : okR R) : decide ((rk (mapE (fT R) R)).map toS = (rk R).map toS) = decide ((dg R).length < 2) := by
  rw [decide_eq_decide]
  constructor
  · intro e
    apply Decidable.byContradiction
    intro hn
    have inj : rk (mapE (fT R) R) = rk R := by
      have h1 := (okR_rk (okR_T h)).el
      have h2 := (okR_rk h).el
      generalize rk (mapE (fT R) R) = A at e h1
      generalize rk R = B at e h2
      induction A generalizing B with
      | nil => cases B with
        | nil => rfl
        | cons b B => simp at e
      | cons a A ih => cases B with
        | nil => simp at e
        | cons b B =>
          rw [List.map_cons, List.map_cons, List.cons.injEq] at e
          rw [toS_inj (h1 a List.mem_cons_self) (h2 b List.mem_cons_self) e.1, ih (fun x hx => h1 x (List.mem_cons_of_mem _ hx)) B e.2 (fun x hx => h2 x (List.mem_cons_of_mem _ hx))]
    unfold rk at inj
    rw [mapE_mapE] at inj
    have key : ∀ c ∈ dg R, rkC (mapE (fT R) R) (fT R c) = rkC R c := fun c hc => by
      have := List.map_inj_left.mp inj _ (dg_mem.mp hc)
      have : 48 + rkC (mapE (fT R) R) (fT R c) = 48 + rkC R c := sum_inlJ this
      omega
    have two : ∃ c ∈ dg R, ∃ d ∈ dg R, c < d := by
      have nd := dg_nd h.nd
      match hD : dg R with
      | [] => rw [hD] at hn; simp at hn
      | [_] => rw [hD] at hn; simp at hn
      | a :: b :: l =>
        rw [hD, List.nodup_cons] at nd
        have hab : a ≠ b := fun e => nd.1 (by rw [e]; exact List.mem_cons_self)
        rcases Nat.lt_or_gt_of_ne hab with h1 | h1
        · exact ⟨a, by simp, b, by simp, h1⟩
        · exact ⟨b, by simp, a, by simp, h1⟩
    obtain ⟨c, hc, d, hd, hcd⟩ := two
    have h1 := fT_lt h c hc d hd hcd
    have h2 : fT R d ∈ dg (mapE (fT R) R) := by rw [dg_map]; exact List.mem_map.mpr ⟨d, hd, rfl⟩
    have h3 := rkC_lt h1 h2
    rw [key c hc, key d hd] at h3
    have h4 := rkC_lt hcd hc
    omega
  · intro hl
    have : mapE (fT R) R = R := map_id_E fun c hc => by
      match hD : dg R with
      | [] => rw [hD] at hc; cases hc
      | [a] =>
        rw [hD, List.mem_singleton] at hc
        subst hc
        have hc' : c ∈ dg R := by rw [hD]; simp
        have := rkC_len hc'
        rw [hD, List.length_singleton] at this
        have h0 : rkC R c = 0 := by omega
        unfold fT
        rw [h0, hD]
        simp [srtN]
      | a :: b :: l => rw [hD] at hl; simp at hl; omega
    rw [this]
def mpF (f : Nat → Nat) : D → D := fun d => match d with
  | .str s => if comB s = true then .str (one (f (s.cps.toList.headD 0))) else .str s
  | d => d
theorem mpF_el {f : Nat → Nat} {x : El} (h : okE x) : mpF f (.str (toS x)) = .str (toS (Sum.map f id x)) := by
  show (if comB (toS x) = true then _ else _) = _
  rw [comB_el h]
  cases x with
  | inl c => simp [isL, toS, one]
  | inr s => simp [isL, toS]
theorem mpF_map {f : Nat → Nat} {R : List El} (h : ∀ x ∈ R, okE x) : ((R.map fun x => D.str (toS x)).map fun d => frzQ (mpF f d)) = (mapE f R).map fun x => .str (toS x) := by
  unfold mapE
  rw [List.map_map, List.map_map]
  refine List.map_congr_left fun x hx => ?_
  simp only [Function.comp]
  rw [mpF_el (h x hx)]
  exact frzQ_fz (by simp)
def pN : D → Bool
  | .str s => !comB s
  | _ => false
def nm : List El → List Str
  | [] => []
  | .inl _ :: R => nm R
  | .inr s :: R => s :: nm R
theorem nm_mem {s : Str} : ∀ {R : List El}, s ∈ nm R ↔ Sum.inr s ∈ R
  | [] => by simp [nm]
  | .inl d :: R => by simp [nm, nm_mem (R := R)]
  | .inr t :: R => by simp [nm, nm_mem (R := R)]
theorem nm_len : ∀ R : List El, (nm R).length ≤ R.length
  | [] => by simp [nm]
  | .inl d :: R => by have := nm_len R; simp [nm]; omega
  | .inr s :: R => by have := nm_len R; simp [nm]; omega
theorem nm_nd : ∀ {R : List El}, R.Nodup → (nm R).Nodup
  | [], _ => by simp [nm]
  | .inr d :: R, h => by
    rw [List.nodup_cons] at h
    rw [nm, List.nodup_cons]
    exact ⟨fun m => h.1 (nm_mem.mp m), nm_nd h.2⟩
  | .inl s :: R, h => by
    show (nm R).Nodup
    exact nm_nd (R := R) (List.nodup_cons.mp h).2
theorem filt_nm : ∀ {R : List El}, (∀ x ∈ R, okE x) → ((R.map fun x => D.str (toS x)).filter pN).map (fun d => frzQ d) = (nm R).map .str
  | [], _ => rfl
  | x :: R, h => by
    have ih := filt_nm (R := R) fun y hy => h y (List.mem_cons_of_mem _ hy)
    have h1 : pN (.str (toS x)) = !isL x := congrArg not (comB_el (h x List.mem_cons_self))
    rw [List.map_cons, List.filter_cons, h1]
    cases x with
    | inr c =>
      rw [show (!isL (.inr c)) = true from rfl, if_pos rfl, List.map_cons, ih]
      rfl
    | inl s =>
      rw [show (!isL (.inl s)) = false from rfl, if_neg (by decide)]
      exact ih
theorem in_l (s : Str) (F : List Str) (o : Bool) : inD (.str s) (.lst o (F.map .str)) = some (.bl (decide (s ∈ F))) := by
  have h : flatD (.str s) = true := rfl
  simp only [inD, inQ, flat_strs, any_strs, h]
  simp
theorem here_mem {R : List El} (h : okR R) {x : El} (hx : x ∈ R) : decide (toS x ∈ (srtN (dg R)).map one) = isL x := by
  cases x with
  | inl c =>
    refine decide_eq_true (List.mem_map.mpr ⟨c, (srtN_perm (dg R)).mem_iff.mpr (dg_mem.mpr hx), rfl⟩)
  | inr s =>
    refine decide_eq_false fun hm => ?_
    obtain ⟨c, hc, e⟩ := List.mem_map.mp hm
    have hc' := (srtN_perm (dg R)).mem_iff.mp hc
    have := toS_inj (x := .inl c) (y := .inr s) (dg_digs h hc') (h.el _ hx) e
    cases this
theorem ones_map (l : List Nat) : (l.map fun c => D.str (one c)) = (l.map one).map .str := by rw [List.map_map]; rfl
theorem in_here {R : List El} (h : okR R) {x : El} (hx : x ∈ R) : inD (.str (toS x)) (.lst true ((srtN (dg R)).map fun c => .str (one c))) = some (.bl (isL x)) := by
  rw [ones_map, in_l, here_mem h hx]
theorem nin_here {R : List El} (h : okR R) {x : El} (hx : x ∈ R) : ninD (.str (toS x)) (.lst true ((srtN (dg R)).map fun c => .str (one c))) = some (.bl (!isL x)) := by
  rw [ones_map, nin_l, ← here_mem h hx, decide_not]
theorem ix_ones {l : List Nat} {i : Nat} (h : i < l.length) : ixD (.lst true (l.map fun c => .str (one c))) (.int (i : Int)) = some (.str (one (l.getD i 0))) := by
  have z : fzL (l.map fun c => D.str (one c)) = true := fzL_map _ (fun _ => by simp) _
  have := ix_lst z (i := i) (by rw [List.length_map]; exact h) true
  rw [this, List.getElem_map, List.getD_eq_getElem?_getD, List.getElem?_eq_getElem h]
  rfl
theorem eqD_frm {l : Str} (hl : okLab l) {R S : List El} (h : ∀ x ∈ R, okE x) (g : ∀ x ∈ S, okE x) : eqD (frmD l R) (frmD l S) = some (.bl (decide (R.map toS = S.map toS))) := by
  have h1 := okP_frm hl h 62
  have h2 := okP_frm hl g 62
  have hs : scalD (frmD l R) (frmD l S) = none := rfl
  have he : eqB (frmD l R) (frmD l S) = decide (R.map toS = S.map toS) := by
    unfold eqB
    rw [frmD, frmD, rwD, rwD, rw_map, rw_map]
    simp only [toPL, toP, PyData.eqv, PyData.eqvAll, eqv_ss]
    simp
  simp [eqD, eqQ, hs, h1, h2, he]
theorem neD_frm {l : Str} (hl : okLab l) {R : List El} (h : ∀ x ∈ R, okE x) : neD (frmD l R) (frmD l R) = some (.bl false) :=
  neD_tup (okP_frm hl h 62)
end Mi
namespace Mi
open PySem PySem.Spec PyProof.Rows L2
/-! ### the law's steps -/
def onesD (l : List Nat) : D := .lst true (l.map fun c => .str (one c))
def tl4 : EM FlowD := mSeq (mAsg 12 (mMake "Party" g_Party__init (mArgs [mFrz (mMake "Book" g_Book__init (mArgs [mFrz (mC (.int 2)), mFrz (mTup (mArgs [mFrz (mTup (mArgs [mFrz (mVarE 2), mFrz (mCB lenD (mArgs [mVarA 3]))]))])), mFrz (mTup (mArgs []))])), mVarA 11, mFrz (mDic0)])))
  (mRet (mBin inXD (mVarA 9) (mFrz (mCall g_forms (mArgs [mVarA 12])))))
def tl3 : EM FlowD := mSeq (mAsg 11 (mCB tupleD (mArgs [mFrz (mCB sortX (mArgs [mFrz (mLc (mIt1 (mFrz (mVarE 3))) (.nm 6) (mTB (mBin ninD (mVarA 6) (mVarA 5))) (mVarE 6) [6])]))]))) (tl4)
def tl2 : EM FlowD := mSeq (mAsg 10 (mCall g_form_of (mArgs [mFrz (mTup (mArgs [mFrz (mVarE 2), mFrz (mVarE 8)]))])))
  (mSeq (mIfS (mOrT (mTB (mBin neD (mVarA 10) (mFrz (mTup (mArgs [mFrz (mVarE 2), mFrz (mCall g__law_ranks (mArgs [mVarA 8]))]))))) (mTB (mBin neD (mFrz (mBin eqD (mVarA 10) (mVarA 9))) (mFrz (mBin ltD (mFrz (mCB lenD (mArgs [mVarA 5]))) (mFrz (mC (.int 2)))))))) (mRet (mC (.bl false))) (mNext))
  (tl3))
def tl1 : EM FlowD := mSeq (mAsg 9 (mTup (mArgs [mFrz (mVarE 2), mFrz (mCall g__law_ranks (mArgs [mVarA 3]))])))
  (mSeq (mIfS (mOrT (mTB (mBin neD (mFrz (mCall g_form_of (mArgs [mFrz (mTup (mArgs [mFrz (mVarE 2), mFrz (mVarE 3)]))]))) (mVarA 9))) (mOrT (mTB (mBin neD (mFrz (mCall g_form_of (mArgs [mFrz (mTup (mArgs [mFrz (mVarE 2), mFrz (mVarE 7)]))]))) (mVarA 9))) (mTB (mBin neD (mFrz (mCall g_form_of (mArgs [mVarA 9]))) (mVarA 9))))) (mRet (mC (.bl false))) (mNext))
  (tl2))
def tl0 : EM FlowD := mSeq (mAsg 7 (mCB tupleD (mArgs [mFrz (mLc (mIt1 (mFrz (mVarE 3))) (.nm 6) (mYes) (mIfE (mTB (mBin inD (mVarA 6) (mVarA 5))) (mBin ixD (mVarA 4) (mFrz (mMet 5 (mArgs [mFrz (mVarE 6)]) idxF))) (mVarE 6)) [6])])))
  (mSeq (mAsg 8 (mCB tupleD (mArgs [mFrz (mLc (mIt1 (mFrz (mVarE 3))) (.nm 6) (mYes) (mIfE (mTB (mBin inD (mVarA 6) (mVarA 5))) (mBin ixD (mVarA 5) (mFrz (mBin subD (mFrz (mBin subD (mFrz (mCB lenD (mArgs [mVarA 5]))) (mFrz (mC (.int 1))))) (mFrz (mMet 5 (mArgs [mFrz (mVarE 6)]) idxF))))) (mVarE 6)) [6])])))
  (tl1))
theorem tl_split : m_law = mSeq (mAsg 1 (mCall g__law_feed (mArgs [mVarA 0])))
  (mSeq (mAsg 2 (mBin ixD (mFrz (mCall g__law_words (mArgs [mVarA 1, mFrz (mC (.str "abcdefghijklmnopqrstuvwxyz")), mFrz (mC (.int 1))]))) (mFrz (mC (.int 0)))))
  (mSeq (mAsg 3 (mCall g__law_folk (mArgs [mVarA 1, mFrz (mCall g__law_people (mArgs [mVarA 1, mFrz (mC (.int 3))]))])))
  (mSeq (mAsg 4 (mCB sortX (mArgs [mFrz (mCall g__law_pick (mArgs [mVarA 1, mFrz (mC (.str "0123456789")), mFrz (mC (.int 3))]))])))
  (mSeq (mAsg 5 (mCB sortX (mArgs [mFrz (mLc (mIt1 (mFrz (mVarE 3))) (.nm 6) (mTB (mBin inD (mVarA 6) (mFrz (mC (.str "0123456789"))))) (mVarE 6) [6])])))
  (tl0))))) := rfl
/- what stands fast: the label, the row, its figures in order -/
structure Tl (l : Str) (R : List El) (L : List Nat) : Prop where
  lab : okLab l
  row : okR R
  pw : L.Pairwise (· < ·)
  l3 : L.length = 3
  dg : ∀ c ∈ L, c ∈ digs
def kn (R : List El) : List Str := sortS (nm R)
theorem kn_perm (R : List El) : (kn R).Perm (nm R) := List.mergeSort_perm _ leS
theorem tl4_ok {l : Str} {R : List El} {L : List Nat} (h : Tl l R L) (p0 p1 p4 p5 p6 p7 p8 p10 : Option D) : ∃ e, tl4 [p0, p1, some (.str l), some (rwD R), p4, p5, p6, p7, p8, some (frmD l (rk R)), p10, some (.tup ((kn R).map .str)), none] = .ok (.ret (.bl true), p0 :: e) := by
  have hp := kn_perm R
  have hK : ∀ s ∈ kn R, okNam s := fun s hs => h.row.el _ (nm_mem.mp (hp.mem_iff.mp hs))
  have hnd : (kn R).Nodup := hp.nodup_iff.mpr (nm_nd h.row.nd)
  have hk3 : (kn R).length ≤ 3 := by rw [hp.length_eq]; have := nm_len R; have := h.row.l3; omega
  have hsrt : sortS (kn R) = kn R := perm_sort hp
  obtain ⟨z, hz⟩ : ∃ z : Int, z = (R.length : Int) := ⟨_, rfl⟩
  have h3 := h.row.l3
  have hok : okBk ⟨2, [(l, z)], []⟩ := by
    refine ⟨by show (0:Int) ≤ 2; decide, by show (2:Int) ≤ 1000; decide, ⟨by simp, by simp, fun p hp => ?_, ?_, by simp [labs], ?_⟩, by simp, by simp⟩
    · rw [List.mem_singleton] at hp; subst hp
      exact ⟨h.lab, by simp only; omega, by simp only; omega⟩
    · simp [labs, sortS]
    · exact Nat.le_trans (List.length_filter_le _ _) (by simp)
  have hB : g_Book__init [.ins true "Book" [] [], .int 2, tabsD [(l, z)], .tup []] = .ok (.non, [some (bkD true ⟨2, [(l, z)], []⟩), some (.int 2), some (tabsD [(l, z)]), some (.tup [])]) := s_Book hok
  have hP := s_Party (b := ⟨2, [(l, z)], []⟩) hK hk3 hnd hsrt
  have hF := s_forms (l := l) hK hnd hk3 hz h3
  have hA := s_among h.lab h.row hK hnd (fun s hs => hp.mem_iff.mpr (nm_mem.mpr hs)) false
  have zt : fz (tabsD [(l, z)]) = true := by simp [tabsD, fz_tab]
  have ht : (.tup [.tup [.str l, .int z]] : D) = tabsD [(l, z)] := rfl
  have hqt : frzQ (.tup [.tup [.str l, .int z]]) = tabsD [(l, z)] := frzQ_fz zt
  have hqp : frzQ (.tup [.str l, .int z]) = .tup [.str l, .int z] := frzQ_fz (by simp)
  have hq0 : frzQ (.tup []) = .tup [] := frzQ_fz (by simp)
  have hqb : frzQ (bkD true ⟨2, [(l, z)], []⟩) = bkD false ⟨2, [(l, z)], []⟩ := by
    have h3 : fz (bkD true ⟨2, [(l, z)], []⟩) = false := fz_bk _
    unfold frzQ
    rw [if_neg (by rw [h3]; decide)]
    have h2 := frz_fz _ zt
    simp only [bkD, frz, frzL, h2, List.map_nil]
  have hqd : frzQ (.dic true [] []) = .dic false [] [] := by simp [frzQ, frz, frzL]
  have hln : lenD [rwD R] = some (.int z) := by rw [hz]; simp [rwD]
  have zR := fz_rw R
  have zb := fz_bkF ⟨2, [(l, z)], []⟩
  have zK := fzL_strs (kn R)
  have z2 : fz (frmD l (rk R)) = true := by simp [frmD, fz_rw]
  have ni : ∀ c, fz (.ins true c [] []) = false := fun c => by rw [fz]; rfl
  have n1 : fz (ptD true ⟨2, [(l, z)], []⟩ (kn R)) = false := by rw [ptD, fz]; rfl
  have zL : fzL (((rws (kn R) R.length).filter selR).map (frmD l)) = true := fzL_map _ (fun R => by simp [frmD, fz_rw]) _
  have hfL := frz_lstt zL
  clear hz
  generalize ((rws (kn R) R.length).filter selR).map (frmD l) = LL at *
  generalize ptD true ⟨2, [(l, z)], []⟩ (kn R) = PT at *
  generalize bkD true ⟨2, [(l, z)], []⟩ = BT at *
  generalize bkD false ⟨2, [(l, z)], []⟩ = BF at *
  generalize hTB : tabsD [(l, z)] = TB at *
  generalize (kn R).map D.str = KK at *
  generalize frmD l (rk R) = FR at *
  refine ⟨[p1, some (.str l), some (rwD R), p4, p5, p6, p7, p8, some FR, p10, some (.tup KK), some PT], ?_⟩
  generalize rwD R = RW at *
  simp (implicitDefEqProofs := false) [tl4, ownVars, putBack, hqp, hqt, hln, zR, hq0, hB, mkV2, hqb, hqd, zb, zK, ni, hP, hF, n1, hfL, hA, z2, zt]
theorem tl3_ok {l : Str} {R : List El} {L : List Nat} (h : Tl l R L) (p0 p1 p4 p7 p8 p10 : Option D) : ∃ e, tl3 [p0, p1, some (.str l), some (rwD R), p4, some (onesD (srtN (dg R))), none, p7, p8, some (frmD l (rk R)), p10, none, none] = .ok (.ret (.bl true), p0 :: e) := by
  obtain ⟨e, he⟩ := tl4_ok h p0 p1 p4 (some (onesD (srtN (dg R)))) none p7 p8 p10
  refine ⟨e, ?_⟩
  have z := fz_rw R
  have zL := fz_rwL R
  have hq : frzQ (rwD R) = rwD R := frzQ_fz z
  have hsq : seqI [rwD R] = some (R.map fun x => D.str (toS x)) := by simp only [rwD, seqI, zL, if_true]
  have hlen : (R.map fun x => D.str (toS x)).length ≤ 1000 := by rw [List.length_map]; have := h.row.l3; omega
  have e1 := lc_filter (k := 6) (cond := mTB (mBin ninD (mVarA 6) (mVarA 5))) (elt := mVarE 6) (fun d => d) pN (e := [p0, p1, some (.str l), some (rwD R), p4, some (onesD (srtN (dg R))), none, p7, p8, some (frmD l (rk R)), p10, none, none]) (ds := R.map fun x => D.str (toS x)) zL hlen (fun d hd => by
      obtain ⟨x, hx, rfl⟩ := List.mem_map.mp hd
      have h1 := nin_here h.row hx
      have h2 : pN (.str (toS x)) = !isL x := congrArg not (comB_el (h.row.el x hx))
      rw [h2]
      unfold onesD
      simp [h1]) (fun d hd _ => by
      obtain ⟨x, hx, rfl⟩ := List.mem_map.mp hd
      simp)
  rw [filt_nm h.row.el] at e1
  have zN := fzL_strs (nm R)
  have hst : sortX [.lst false ((nm R).map .str)] = some (.lst true ((kn R).map .str)) := sortD_labs false (by have := nm_len R; have := h.row.l3; omega)
  have zK := fzL_strs (kn R)
  have hfK := frz_lstt zK
  have htp := tupleD_l (o := false) zK
  generalize (kn R).map D.str = KK at *
  generalize (nm R).map D.str = NN at *
  generalize (R.map fun x => D.str (toS x)) = X at *
  generalize onesD (srtN (dg R)) = O at *
  simp (implicitDefEqProofs := false) [tl3, z, hq, sqV_ok hsq, e1, restV, frz_lstt zN, hst, hfK, htp, he, -sortX_l]
theorem tl2_ok {l : Str} {R : List El} {L : List Nat} (h : Tl l R L) (p0 p1 p4 p7 : Option D) : ∃ e, tl2 [p0, p1, some (.str l), some (rwD R), p4, some (onesD (srtN (dg R))), none, p7, some (rwD (mapE (fT R) R)), some (frmD l (rk R)), none, none, none] = .ok (.ret (.bl true), p0 :: e) := by
  have kT := okR_T h.row
  obtain ⟨e, he⟩ := tl3_ok h p0 p1 p4 p7 (some (rwD (mapE (fT R) R))) (some (frmD l (rk (mapE (fT R) R))))
  refine ⟨e, ?_⟩
  have hf := s_form_of h.lab kT
  have hr := s_law_ranks kT
  have hne := neD_frm h.lab (okR_rk kT).el
  have heq := eqD_frm h.lab (okR_rk kT).el (okR_rk h.row).el
  rw [turn_same h.row] at heq
  have zT := fz_rw (mapE (fT R) R)
  have zT2 := fz_rw (rk (mapE (fT R) R))
  have qT : frzQ (rwD (mapE (fT R) R)) = rwD (mapE (fT R) R) := frzQ_fz zT
  have qT2 : frzQ (rwD (rk (mapE (fT R) R))) = rwD (rk (mapE (fT R) R)) := frzQ_fz zT2
  have zF : fz (.tup [.str l, rwD (mapE (fT R) R)]) = true := by simp [zT]
  have qF : frzQ (.tup [.str l, rwD (mapE (fT R) R)]) = .tup [.str l, rwD (mapE (fT R) R)] := frzQ_fz zF
  have zG : fz (.tup [.str l, rwD (rk (mapE (fT R) R))]) = true := by simp [zT2]
  have qG : frzQ (.tup [.str l, rwD (rk (mapE (fT R) R))]) = .tup [.str l, rwD (rk (mapE (fT R) R))] := frzQ_fz zG
  have zD : fz (frmD l (rk R)) = true := by simp [frmD, fz_rw]
  have hln : lenD [onesD (srtN (dg R))] = some (.int (dg R).length) := by
    show some (D.int (List.length _ : Nat)) = _
    rw [List.length_map, srtN_len]
  have hzo : fzL ((srtN (dg R)).map fun c => D.str (one c)) = true := fzL_map _ (fun _ => by simp) _
  have hlt : decide (((dg R).length : Int) < 2) = decide ((dg R).length < 2) := decide_eq_decide.mpr (by omega)
  have hzz : fz (onesD (srtN (dg R))) = false := by unfold onesD; rw [fz]; rfl
  simp only [frmD] at hne heq he hf zD ⊢
  generalize ((dg R).length : Int) = n at hln hlt
  generalize decide ((dg R).length < 2) = bb at heq hlt
  generalize onesD (srtN (dg R)) = O at *
  generalize rwD (rk (mapE (fT R) R)) = T2 at *
  generalize rwD (mapE (fT R) R) = T1 at *
  generalize hFD : (.tup [.str l, T1] : D) = F1 at *
  generalize hGD : (.tup [.str l, T2] : D) = G1 at *
  generalize hDD : (.tup [.str l, rwD (rk R)] : D) = D1 at *
  have hnb : neD (.bl bb) (.bl bb) = some (.bl false) := by cases bb <;> rfl
  simp (implicitDefEqProofs := false) [tl2, hnb, ownVars, putBack, zT, zT2, qT, qT2, zF, qF, hFD, hGD, zG, qG, hf, hr, hne, heq, hln, hlt, zD, hzz, he]
end Mi
namespace Mi
open PySem PySem.Spec PyProof.Rows L2
theorem tl1_ok {l : Str} {R : List El} {L : List Nat} (h : Tl l R L) (p0 p1 p4 : Option D) : ∃ e, tl1 [p0, p1, some (.str l), some (rwD R), p4, some (onesD (srtN (dg R))), none, some (rwD (mapE (fS L R) R)), some (rwD (mapE (fT R) R)), none, none, none, none] = .ok (.ret (.bl true), p0 :: e) := by
  have kS := okR_S h.pw h.l3 h.dg h.row
  obtain ⟨e, he⟩ := tl2_ok h p0 p1 p4 (some (rwD (mapE (fS L R) R)))
  refine ⟨e, ?_⟩
  have hr := s_law_ranks h.row
  have hf1 := s_form_of h.lab h.row
  have hf2 := s_form_of h.lab kS
  rw [rk_map (fS_lt h.pw h.l3 h.row)] at hf2
  have hf3 := s_form_of h.lab (okR_rk h.row)
  rw [rk_rk] at hf3
  have hne := neD_frm h.lab (okR_rk h.row).el
  have zR := fz_rw R
  have zR2 := fz_rw (rk R)
  have zS := fz_rw (mapE (fS L R) R)
  have qR : frzQ (rwD R) = rwD R := frzQ_fz zR
  have qR2 : frzQ (rwD (rk R)) = rwD (rk R) := frzQ_fz zR2
  have qS : frzQ (rwD (mapE (fS L R) R)) = rwD (mapE (fS L R) R) := frzQ_fz zS
  have zF1 : fz (.tup [.str l, rwD R]) = true := by simp [zR]
  have zF2 : fz (.tup [.str l, rwD (mapE (fS L R) R)]) = true := by simp [zS]
  have zF3 : fz (.tup [.str l, rwD (rk R)]) = true := by simp [zR2]
  have qF1 : frzQ (.tup [.str l, rwD R]) = .tup [.str l, rwD R] := frzQ_fz zF1
  have qF2 : frzQ (.tup [.str l, rwD (mapE (fS L R) R)]) = .tup [.str l, rwD (mapE (fS L R) R)] := frzQ_fz zF2
  have qF3 : frzQ (.tup [.str l, rwD (rk R)]) = .tup [.str l, rwD (rk R)] := frzQ_fz zF3
  simp only [frmD] at hne he
  generalize rwD (mapE (fT R) R) = T1 at *
  generalize rwD (mapE (fS L R) R) = S1 at *
  generalize rwD (rk R) = R2 at *
  generalize rwD R = R1 at *
  generalize onesD (srtN (dg R)) = O at *
  generalize h1 : (.tup [.str l, S1] : D) = F2 at *
  generalize h2 : (.tup [.str l, R2] : D) = F3 at *
  generalize h3 : (.tup [.str l, R1] : D) = F1 at *
  simp (implicitDefEqProofs := false) [tl1, ownVars, putBack, zR, zR2, zS, qR, qR2, qS, zF1, zF2, zF3, qF1, qF2, qF3, h1, h2, h3, hr, hf1, hf2, hf3, hne, he]
theorem tl0_ok {l : Str} {R : List El} {L : List Nat} (h : Tl l R L) (p0 p1 : Option D) : ∃ e, tl0 [p0, p1, some (.str l), some (rwD R), some (onesD L), some (onesD (srtN (dg R))), none, none, none, none, none, none, none] = .ok (.ret (.bl true), p0 :: e) := by
  obtain ⟨e, he⟩ := tl1_ok h p0 p1 (some (onesD L))
  refine ⟨e, ?_⟩
  have z := fz_rw R
  have zL := fz_rwL R
  have hq : frzQ (rwD R) = rwD R := frzQ_fz z
  have hsq : seqI [rwD R] = some (R.map fun x => D.str (toS x)) := by simp only [rwD, seqI, zL, if_true]
  have hlen : (R.map fun x => D.str (toS x)).length ≤ 1000 := by rw [List.length_map]; have := h.row.l3; omega
  have e1 := lc_pure (k := 6) (elt := mIfE (mTB (mBin inD (mVarA 6) (mVarA 5))) (mBin ixD (mVarA 4) (mFrz (mMet 5 (mArgs [mFrz (mVarE 6)]) idxF))) (mVarE 6)) (mpF (fS L R)) (e := [p0, p1, some (.str l), some (rwD R), some (onesD L), some (onesD (srtN (dg R))), none, none, none, none, none, none, none]) (ds := R.map fun x => D.str (toS x)) zL hlen (fun d hd => by
      obtain ⟨x, hx, rfl⟩ := List.mem_map.mp hd
      have h1 := in_here h.row hx
      rw [mpF_el (h.row.el x hx)]
      cases x with
      | inl c =>
        have hc : c ∈ dg R := dg_mem.mpr hx
        have h2 := idx_D h.row hc
        have h3 := ix_ones (l := L) (i := rkC R c) (by have := rkC3 h.row hc; have := h.l3; omega)
        simp only [toS] at h1
        simp only [isL] at h1
        unfold onesD
        have h4 : toS (Sum.map (fS L R) id (.inl c)) = one (L.getD (rkC R c) 0) := rfl
        rw [h4]
        generalize one (L.getD (rkC R c) 0) = oo at *
        generalize (srtN (dg R)).map (fun c => D.str (one c)) = H at *
        generalize L.map (fun c => D.str (one c)) = LL at *
        generalize (rkC R c : Int) = kk at h2 h3
        simp [mIfE, ownVars, putBack, toS, h1, h2, h3]
      | inr s =>
        simp only [toS, isL] at h1
        unfold onesD
        simp [mIfE, ownVars, putBack, toS, h1])
  rw [mpF_map h.row.el] at e1
  have e2 := lc_pure (k := 6) (elt := mIfE (mTB (mBin inD (mVarA 6) (mVarA 5))) (mBin ixD (mVarA 5) (mFrz (mBin subD (mFrz (mBin subD (mFrz (mCB lenD (mArgs [mVarA 5]))) (mFrz (mC (.int 1))))) (mFrz (mMet 5 (mArgs [mFrz (mVarE 6)]) idxF))))) (mVarE 6)) (mpF (fT R)) (e := [p0, p1, some (.str l), some (rwD R), some (onesD L), some (onesD (srtN (dg R))), none, some (rwD (mapE (fS L R) R)), none, none, none, none, none]) (ds := R.map fun x => D.str (toS x)) zL hlen (fun d hd => by
      obtain ⟨x, hx, rfl⟩ := List.mem_map.mp hd
      have h1 := in_here h.row hx
      rw [mpF_el (h.row.el x hx)]
      cases x with
      | inl c =>
        have hc : c ∈ dg R := dg_mem.mpr hx
        have h2 := idx_D h.row hc
        have hk := rkC_len hc
        have h3 := ix_ones (l := srtN (dg R)) (i := (dg R).length - 1 - rkC R c) (by rw [srtN_len]; omega)
        have hsb : (((dg R).length - 1 - rkC R c : Nat) : Int) = ((dg R).length : Int) - 1 - (rkC R c : Int) := by omega
        rw [hsb] at h3
        have hln : lenD [.lst true ((srtN (dg R)).map fun c => D.str (one c))] = some (.int (dg R).length) := by
          show some (D.int (List.length _ : Nat)) = _
          rw [List.length_map, srtN_len]
        simp only [toS] at h1
        simp only [isL] at h1
        unfold onesD
        have h4 : toS (Sum.map (fT R) id (.inl c)) = one ((srtN (dg R)).getD ((dg R).length - 1 - rkC R c) 0) := rfl
        rw [h4]
        generalize one ((srtN (dg R)).getD ((dg R).length - 1 - rkC R c) 0) = oo at *
        generalize (srtN (dg R)).map (fun c => D.str (one c)) = H at *
        generalize L.map (fun c => D.str (one c)) = LL at *
        generalize (rkC R c : Int) = kk at h2 h3
        generalize ((dg R).length : Int) = nn at h3 hln
        generalize rwD R = RW at *
        generalize rwD (mapE (fS L R) R) = SW at *
        simp [mIfE, ownVars, putBack, toS, h1, h2, h3, hln, subD, -lenD_l]
      | inr s =>
        simp only [toS, isL] at h1
        unfold onesD
        simp [mIfE, ownVars, putBack, toS, h1])
  rw [mpF_map h.row.el] at e2
  have zS := fz_rwL (mapE (fS L R) R)
  have zT := fz_rwL (mapE (fT R) R)
  have tS : tupleD [.lst false ((mapE (fS L R) R).map fun x => .str (toS x))] = some (rwD (mapE (fS L R) R)) := tupleD_l zS
  have tT : tupleD [.lst false ((mapE (fT R) R).map fun x => .str (toS x))] = some (rwD (mapE (fT R) R)) := tupleD_l zT
  generalize rwD (mapE (fS L R) R) = SW at *
  generalize rwD (mapE (fT R) R) = TW at *
  generalize rwD R = RW at *
  generalize ((mapE (fS L R) R).map fun x => D.str (toS x)) = SX at *
  generalize ((mapE (fT R) R).map fun x => D.str (toS x)) = TX at *
  generalize (R.map fun x => D.str (toS x)) = X at *
  generalize onesD (srtN (dg R)) = O at *
  generalize onesD L = LL at *
  simp (implicitDefEqProofs := false) [tl0, z, hq, sqV_ok hsq, e1, e2, restV, frz_lstt zS, frz_lstt zT, tS, tT, he]
theorem law_true (ns : List Int) (hl : ns.length ≤ 63) (hb : ∀ z ∈ ns, PySem.Builtin.Int.intBits z ≤ 1048576) : ∃ outs, g_law [.scr ns] = .ok (.bl true, outs) := by
  obtain ⟨c0, f1⟩ := s_law_feed ns
  obtain ⟨W, a1, b1, c1, d1, w1, w2, w3, w4, w5, w6⟩ := s_law_words ns (t := sm) (by decide +kernel) (n := 1) (by decide) (by decide) (a := 0) (by decide) 0 c0 0
  have hW : ∃ l, W = [l] ∧ okLab l := by
    match W, w4, w5, w6 with
    | [l], w4, _, _ => exact ⟨l, rfl, w4 l (by simp)⟩
    | [], _, w5, _ => simp at w5
    | _ :: _ :: _, _, _, w6 => simp at w6; omega
  obtain ⟨l, rfl, hlab⟩ := hW
  obtain ⟨P, a2, b2, c2, d2, p1, p2, p3, p4, p5, p6⟩ := s_law_people ns w2 b1 c1 d1
  obtain ⟨R, a3, b3, c3, d3, r1, r2, r3⟩ := s_law_folk ns p4 p5 p2 b2 c2 d2
  obtain ⟨fig, a4, b4, c4, d4, k1, k2, k3, k4, k5⟩ := s_law_pick ns r2 b3 c3 d3
  have h : Tl l R (srtN fig) := ⟨hlab, r3, srtN_lt k3, by rw [srtN_len, k5], fun c hc => k4 c ((srtN_perm fig).mem_iff.mp hc)⟩
  obtain ⟨e, he⟩ := tl0_ok h (some (.scr ns)) (some (fd ns a4 b4 c4 d4))
  have z := fz_rw R
  have zL := fz_rwL R
  have hq : frzQ (rwD R) = rwD R := frzQ_fz z
  have hsq : seqI [rwD R] = some (R.map fun x => D.str (toS x)) := by simp only [rwD, seqI, zL, if_true]
  have hlen : (R.map fun x => D.str (toS x)).length ≤ 1000 := by rw [List.length_map]; have := r3.l3; omega
  have e1 := lc_filter (k := 6) (cond := mTB (mBin inD (mVarA 6) (mFrz (mC (.str "0123456789"))))) (elt := mVarE 6) (fun d => d) pD (e := [some (.scr ns), some (fd ns a4 b4 c4 d4), some (.str l), some (rwD R), some (onesD (srtN fig)), none, none, none, none, none, none, none, none]) (ds := R.map fun x => D.str (toS x)) zL hlen (fun d hd => by
      obtain ⟨x, hx, rfl⟩ := List.mem_map.mp hd
      have h1 := in_fg (r3.el x hx)
      have h2 : pD (.str (toS x)) = isL x := comB_el (r3.el x hx)
      rw [h2]
      simp only [fg] at h1
      simp [h1]) (fun d hd _ => by
      obtain ⟨x, hx, rfl⟩ := List.mem_map.mp hd
      simp)
  rw [filt_dg r3.el] at e1
  have srt : ∀ (o : Bool) (l : List Nat), l.length ≤ 60 → sortX [.lst o (l.map fun c => .str (one c))] = some (onesD (srtN l)) := fun o l hl => by
    have h1 := sortD_labs o (l := l.map one) (by rw [List.length_map]; omega)
    rw [sort_one', List.map_map, List.map_map] at h1
    exact h1
  have s1 := srt false fig (by omega)
  have s2 := srt false (dg R) (by have := dg_len R; have := r3.l3; omega)
  have zf : fzL (fig.map fun c => D.str (one c)) = true := fzL_map _ (fun _ => by simp) _
  have zd : fzL ((dg R).map fun c => D.str (one c)) = true := fzL_map _ (fun _ => by simp) _
  have zP := fzL_strs P
  have qP : frzQ (.tup (P.map D.str)) = .tup (P.map .str) := frzQ_fz (by rw [fz, zP])
  have qW : frzQ (.tup [.str l]) = .tup [.str l] := frzQ_fz (by simp)
  have i0 : ixD (.tup [.str l]) (.int 0) = some (.str l) := by simp [ixD, atI, ixN, pick]
  simp only [sm, List.map_cons, List.map_nil] at w1
  have hlaw : m_law [some (.scr ns), none, none, none, none, none, none, none, none, none, none, none, none] = .ok (.ret (.bl true), some (.scr ns) :: e) := by
    rw [tl_split]
    generalize rwD R = RW at *
    generalize (R.map fun x => D.str (toS x)) = X at *
    generalize P.map D.str = PP at *
    generalize (fig.map fun c => D.str (one c)) = FG at *
    generalize ((dg R).map fun c => D.str (one c)) = DG at *
    generalize onesD (srtN fig) = LL at *
    generalize onesD (srtN (dg R)) = O at *
    simp (implicitDefEqProofs := false) [ownVars, putBack, f1, w1, qW, i0, p1, qP, zP, r1, k1, frz_lstt zf, s1, z, hq, sqV_ok hsq, e1, restV, frz_lstt zd, s2, he, -sortX_l]
  refine ⟨[some (.scr ns)], ?_⟩
  simp (implicitDefEqProofs := false) [g_law, runD, ownOk, outsD, List.range, List.range.loop, hlaw]
end Mi
namespace Mi
open PySem PySem.Spec PyProof.Rows L2
def top (i : Nat) : Stmt := PySem.Challenge.pw_elderalike_k31_whole_form_of.main.body.getD i (.Pass ⟨0, 0, 0, 0⟩)
structure Txt (C : KM) (xNoPlace : Addr) : Prop where
  n_abs : C.mg "abs" = none
  n_all : C.mg "all" = none
  n_bool : C.mg "bool" = none
  n_dict : C.mg "dict" = none
  n_int : C.mg "int" = none
  n_isinstance : C.mg "isinstance" = none
  n_len : C.mg "len" = none
  n_list : C.mg "list" = none
  n_range : C.mg "range" = none
  n_sorted : C.mg "sorted" = none
  n_str : C.mg "str" = none
  n_tuple : C.mg "tuple" = none
  c_FIGURES : ∃ t, C.mg "FIGURES" = some (.str "0123456789" t)
  c_FRACTIONS : ∃ t, C.mg "FRACTIONS" = some (.int 1 t)
  c_GREAT : ∃ t, C.mg "GREAT" = some (.str "ABCDEFGHIJKLMNOPQRSTUVWXYZ" t)
  c_LETTERS : ∃ t, C.mg "LETTERS" = some (.str "abcd" t)
  c_MOST_DEMANDS : ∃ t, C.mg "MOST_DEMANDS" = some (.int 6 t)
  c_MOST_FACTOR : ∃ t, C.mg "MOST_FACTOR" = some (.int 99 t)
  c_MOST_HOURS : ∃ t, C.mg "MOST_HOURS" = some (.int 1000 t)
  c_MOST_NAMES : ∃ t, C.mg "MOST_NAMES" = some (.int 3 t)
  c_MOST_RIGHT : ∃ t, C.mg "MOST_RIGHT" = some (.int 999 t)
  c_MOST_SIGNS : ∃ t, C.mg "MOST_SIGNS" = some (.int 8 t)
  c_MOST_SIZE_books : ∃ t, C.mg "MOST_SIZE_books" = some (.int 3 t)
  c_MOST_SIZE_rules : ∃ t, C.mg "MOST_SIZE_rules" = some (.int 3 t)
  c_MOST_TABLES : ∃ t, C.mg "MOST_TABLES" = some (.int 4 t)
  c_MOST_TERMS : ∃ t, C.mg "MOST_TERMS" = some (.int 8 t)
  c_SMALL : ∃ t, C.mg "SMALL" = some (.str "abcdefghijklmnopqrstuvwxyz" t)
  c_WHOLE : ∃ t, C.mg "WHOLE" = some (.int 0 t)
  e_NoPlace : ExcC C "NoPlace"
  g_NoPlace : C.mg "NoPlace" = some (.ref xNoPlace)
  f_book : ∀ c ∈ cs_book, FldOk C c "book"
  f_demands : ∀ c ∈ cs_demands, FldOk C c "demands"
  f_kept : ∀ c ∈ cs_kept, FldOk C c "kept"
  f_names : ∀ c ∈ cs_names, FldOk C c "names"
  f_tables : ∀ c ∈ cs_tables, FldOk C c "tables"
  f_world : ∀ c ∈ cs_world, FldOk C c "world"
theorem sc__law_feed : FnScope ["_law_script", "_law_state", "_law_cell"] ["_law_script"] (defScope (top 57)) := ⟨rfl, rfl, rfl, by decide +kernel, rfl, by decide +kernel, by decide +kernel⟩
theorem b__law_feed {C : KM} {xNoPlace : Addr} (T : Txt C xNoPlace)  (base : Heap) (f : Addr) (cdv : Value) (A : Around) (outer : List Env) (s : Shared) (H : Hp) (E : XK) (vs : List V) (W : WX) (g : Go (CxD C base ["_law_script", "_law_state", "_law_cell"] "_law_feed" (defScope (top 57)) f cdv A outer s H E) ⟨C, vs, [0]⟩ W 0) : PSs (CxD C base ["_law_script", "_law_state", "_law_cell"] "_law_feed" (defScope (top 57)) f cdv A outer s H E) (defBody (top 57)) (tS ⟨C, vs, [0]⟩ W m__law_feed) :=
  (rs_cons (rs_set g.toSt0 1 (show (1 : Nat) ∉ [0] by decide) rfl (by first | exact .inl rfl | exact .inr rfl) r_int)
  (rs_cons (rs_for g (.nm 2) (show (2 : Nat) ∉ [0] by decide) (ri_val g.toSt0 (r_frz (r_varE 0 rfl (by first | exact .inl rfl | exact .inr (.inl rfl) | exact .inr (.inr rfl))))) (rg_nm g.toSt0 2 rfl (by first | exact .inl rfl | exact .inr rfl)) (rs_one (rs_set g.toSt0 1 (show (1 : Nat) ∉ [0] by decide) rfl (by first | exact .inl rfl | exact .inr rfl) (r_bin g.toSt0 rfl (r_frz (r_cty g.toSt0 (call_intD) T.n_int (by rfl) rfl (r_cons (r_frz (r_bin g.toSt0 rfl (r_frz (r_bin g.toSt0 rfl (r_frz (r_bin g.toSt0 rfl (r_varA 1 rfl (by first | exact .inl rfl | exact .inr (.inl rfl) | exact .inr (.inr rfl))) (r_frz r_int))) (r_frz (r_bin g.toSt0 rfl (r_frz (r_cty g.toSt0 (call_intD) T.n_int (by rfl) rfl (r_cons (r_varA 2 rfl (by first | exact .inl rfl | exact .inr (.inl rfl) | exact .inr (.inr rfl))) r_nil))) (r_frz r_int))))) (r_frz r_int))) r_nil))) (r_frz r_int)))))
  (rs_one (rs_ret (r_lst (r_cons (r_frz (r_cty g.toSt0 (call_listY g.k.symm g.cm) T.n_list (by rfl) rfl (r_cons (r_varA 0 rfl (by first | exact .inl rfl | exact .inr (.inl rfl) | exact .inr (.inr rfl))) r_nil))) (r_cons (r_frz r_int) (r_cons (r_frz r_int) (r_cons (r_frz (r_varE 1 rfl (by first | exact .inl rfl | exact .inr (.inl rfl) | exact .inr (.inr rfl)))) (r_cons (r_frz r_int) r_nil))))))))))
theorem sc__law_draw : FnScope ["_law_feed_here", "_law_many", "_law_cell", "_law_found", "_law_one"] ["_law_feed_here", "_law_many"] (defScope (top 58)) := ⟨rfl, rfl, rfl, by decide +kernel, rfl, by decide +kernel, by decide +kernel⟩
theorem b__law_draw {C : KM} {xNoPlace : Addr} (T : Txt C xNoPlace)  (base : Heap) (f : Addr) (cdv : Value) (A : Around) (outer : List Env) (s : Shared) (H : Hp) (E : XK) (vs : List V) (W : WX) (g : Go (CxD C base ["_law_feed_here", "_law_many", "_law_cell", "_law_found", "_law_one"] "_law_draw" (defScope (top 58)) f cdv A outer s H E) ⟨C, vs, [0, 1]⟩ W 0) : PSs (CxD C base ["_law_feed_here", "_law_many", "_law_cell", "_law_found", "_law_one"] "_law_draw" (defScope (top 58)) f cdv A outer s H E) (defBody (top 58)) (tS ⟨C, vs, [0, 1]⟩ W m__law_draw) :=
  (rs_cons (rs_putX g.toSt0 0 rfl (by first | exact .inl rfl | exact .inr (.inl rfl) | exact .inr (.inr rfl)) r_int (r_bin g.toSt0 rfl (r_frz (r_ix g.toSt0 (r_varA 0 rfl (by first | exact .inl rfl | exact .inr (.inl rfl) | exact .inr (.inr rfl))) (r_frz r_int))) (r_frz r_int)))
  (rs_cons (rs_if (PW.pt (rt_and (rt_cmp g.toSt0 rfl (r_frz (r_ix g.toSt0 (r_varA 0 rfl (by first | exact .inl rfl | exact .inr (.inl rfl) | exact .inr (.inr rfl))) (r_frz r_int))) (r_frz r_int)) (rt_and1 (rt_cmp g.toSt0 rfl (r_frz (r_ix g.toSt0 (r_varA 0 rfl (by first | exact .inl rfl | exact .inr (.inl rfl) | exact .inr (.inr rfl))) (r_frz r_int))) (r_frz (r_cb g.toSt0 (call_lenDD g.k.symm) T.n_len (by rfl) rfl (r_cons (r_frz (r_ix g.toSt0 (r_varA 0 rfl (by first | exact .inl rfl | exact .inr (.inl rfl) | exact .inr (.inr rfl))) (r_frz r_int))) r_nil))))))) (rs_cons (rs_set g.toSt0 2 (show (2 : Nat) ∉ [0, 1] by decide) rfl (by first | exact .inl rfl | exact .inr rfl) (r_cb g.toSt0 (call_absD) T.n_abs (by rfl) rfl (r_cons (r_frz (r_ix g.toSt0 (r_frz (r_ix g.toSt0 (r_varA 0 rfl (by first | exact .inl rfl | exact .inr (.inl rfl) | exact .inr (.inr rfl))) (r_frz r_int))) (r_frz (r_ix g.toSt0 (r_varA 0 rfl (by first | exact .inl rfl | exact .inr (.inl rfl) | exact .inr (.inr rfl))) (r_frz r_int))))) r_nil)))
  (rs_cons (rs_putX g.toSt0 0 rfl (by first | exact .inl rfl | exact .inr (.inl rfl) | exact .inr (.inr rfl)) r_int (r_bin g.toSt0 rfl (r_frz (r_ix g.toSt0 (r_varA 0 rfl (by first | exact .inl rfl | exact .inr (.inl rfl) | exact .inr (.inr rfl))) (r_frz r_int))) (r_frz r_int)))
  (rs_one (rs_if (rt_cmp g.toSt0 rfl (r_varA 2 rfl (by first | exact .inl rfl | exact .inr (.inl rfl) | exact .inr (.inr rfl))) (r_frz (r_bin g.toSt0 rfl (r_frz r_int) (r_frz r_int)))) (rs_one (rs_putX g.toSt0 0 rfl (by first | exact .inl rfl | exact .inr (.inl rfl) | exact .inr (.inr rfl)) r_int (r_varE 2 rfl (by first | exact .inl rfl | exact .inr (.inl rfl) | exact .inr (.inr rfl))))) (rs_one (rs_putX g.toSt0 0 rfl (by first | exact .inl rfl | exact .inr (.inl rfl) | exact .inr (.inr rfl)) r_int (r_bin g.toSt0 rfl (r_frz (r_cty g.toSt0 (call_intD) T.n_int (by rfl) rfl (r_cons (r_frz (r_bin g.toSt0 rfl (r_frz (r_bin g.toSt0 rfl (r_frz (r_bin g.toSt0 rfl (r_frz (r_ix g.toSt0 (r_varA 0 rfl (by first | exact .inl rfl | exact .inr (.inl rfl) | exact .inr (.inr rfl))) (r_frz r_int))) (r_frz r_int))) (r_varA 2 rfl (by first | exact .inl rfl | exact .inr (.inl rfl) | exact .inr (.inr rfl))))) (r_frz r_int))) r_nil))) (r_frz r_int)))))))) rs_nil)
  (rs_cons (rs_if (rt_cmp g.toSt0 rfl (r_frz (r_ix g.toSt0 (r_varA 0 rfl (by first | exact .inl rfl | exact .inr (.inl rfl) | exact .inr (.inr rfl))) (r_frz r_int))) (r_frz r_int)) (rs_cons (rs_set g.toSt0 3 (show (3 : Nat) ∉ [0, 1] by decide) rfl (by first | exact .inl rfl | exact .inr rfl) (r_bin g.toSt0 rfl (r_frz (r_cty g.toSt0 (call_intD) T.n_int (by rfl) rfl (r_cons (r_frz (r_ix g.toSt0 (r_varA 0 rfl (by first | exact .inl rfl | exact .inr (.inl rfl) | exact .inr (.inr rfl))) (r_frz r_int))) r_nil))) (r_varA 1 rfl (by first | exact .inl rfl | exact .inr (.inl rfl) | exact .inr (.inr rfl)))))
  (rs_cons (rs_putX g.toSt0 0 rfl (by first | exact .inl rfl | exact .inr (.inl rfl) | exact .inr (.inr rfl)) r_int (r_bin g.toSt0 rfl (r_frz (r_ix g.toSt0 (r_varA 0 rfl (by first | exact .inl rfl | exact .inr (.inl rfl) | exact .inr (.inr rfl))) (r_frz r_int))) (r_varA 1 rfl (by first | exact .inl rfl | exact .inr (.inl rfl) | exact .inr (.inr rfl)))))
  (rs_one (rs_ret (r_varM 2 3 rfl (by first | exact .inl rfl | exact .inr (.inl rfl) | exact .inr (.inr rfl))))))) rs_nil)
  (rs_cons (rs_set g.toSt0 4 (show (4 : Nat) ∉ [0, 1] by decide) rfl (by first | exact .inl rfl | exact .inr rfl) (r_bin g.toSt0 rfl (r_frz (r_cty g.toSt0 (call_intD) T.n_int (by rfl) rfl (r_cons (r_frz (r_bin g.toSt0 rfl (r_frz (r_bin g.toSt0 rfl (r_frz (r_bin g.toSt0 rfl (r_frz (r_ix g.toSt0 (r_varA 0 rfl (by first | exact .inl rfl | exact .inr (.inl rfl) | exact .inr (.inr rfl))) (r_frz r_int))) (r_frz (r_bin g.toSt0 rfl (r_frz r_int) (r_frz (r_ix g.toSt0 (r_varA 0 rfl (by first | exact .inl rfl | exact .inr (.inl rfl) | exact .inr (.inr rfl))) (r_frz r_int))))))) (r_frz r_int))) (r_frz r_int))) r_nil))) (r_frz r_int)))
  (rs_cons (rs_set g.toSt0 4 (show (4 : Nat) ∉ [0, 1] by decide) rfl (by first | exact .inl rfl | exact .inr rfl) (r_bin g.toSt0 rfl (r_frz (r_cty g.toSt0 (call_intD) T.n_int (by rfl) rfl (r_cons (r_frz (r_bin g.toSt0 rfl (r_varA 4 rfl (by first | exact .inl rfl | exact .inr (.inl rfl) | exact .inr (.inr rfl))) (r_frz (r_bin g.toSt0 rfl (r_frz (r_bin g.toSt0 rfl (r_varA 4 rfl (by first | exact .inl rfl | exact .inr (.inl rfl) | exact .inr (.inr rfl))) (r_frz r_int))) (r_frz r_int))))) r_nil))) (r_frz r_int)))
  (rs_cons (rs_set g.toSt0 4 (show (4 : Nat) ∉ [0, 1] by decide) rfl (by first | exact .inl rfl | exact .inr rfl) (r_bin g.toSt0 rfl (r_frz (r_cty g.toSt0 (call_intD) T.n_int (by rfl) rfl (r_cons (r_frz (r_bin g.toSt0 rfl (r_varA 4 rfl (by first | exact .inl rfl | exact .inr (.inl rfl) | exact .inr (.inr rfl))) (r_frz (r_bin g.toSt0 rfl (r_frz (r_bin g.toSt0 rfl (r_varA 4 rfl (by first | exact .inl rfl | exact .inr (.inl rfl) | exact .inr (.inr rfl))) (r_frz r_int))) (r_frz r_int))))) r_nil))) (r_frz r_int)))
  (rs_one (rs_ret (r_bin g.toSt0 rfl (r_frz (r_cty g.toSt0 (call_intD) T.n_int (by rfl) rfl (r_cons (r_frz (r_bin g.toSt0 rfl (r_varA 4 rfl (by first | exact .inl rfl | exact .inr (.inl rfl) | exact .inr (.inr rfl))) (r_frz r_int))) r_nil))) (r_varA 1 rfl (by first | exact .inl rfl | exact .inr (.inl rfl) | exact .inr (.inr rfl))))))))))))
theorem sc__law_pick : FnScope ["_law_feed_here", "_law_things", "_law_many", "_law_left", "_law_found", "_law_turn"] ["_law_feed_here", "_law_things", "_law_many"] (defScope (top 61)) := ⟨rfl, rfl, rfl, by decide +kernel, rfl, by decide +kernel, by decide +kernel⟩
theorem b__law_pick {C : KM} {xNoPlace : Addr} (T : Txt C xNoPlace) (F__law_draw : Fn C 1 "_law_draw" g__law_draw) (base : Heap) (f : Addr) (cdv : Value) (A : Around) (outer : List Env) (s : Shared) (H : Hp) (E : XK) (vs : List V) (W : WX) (g : Go (CxD C base ["_law_feed_here", "_law_things", "_law_many", "_law_left", "_law_found", "_law_turn"] "_law_pick" (defScope (top 61)) f cdv A outer s H E) ⟨C, vs, [0, 1, 2]⟩ W 1) : PSs (CxD C base ["_law_feed_here", "_law_things", "_law_many", "_law_left", "_law_found", "_law_turn"] "_law_pick" (defScope (top 61)) f cdv A outer s H E) (defBody (top 61)) (tS ⟨C, vs, [0, 1, 2]⟩ W m__law_pick) :=
  (rs_cons (rs_set g.toSt0 3 (show (3 : Nat) ∉ [0, 1, 2] by decide) rfl (by first | exact .inl rfl | exact .inr rfl) (r_cty g.toSt0 (call_listY g.k.symm g.cm) T.n_list (by rfl) rfl (r_cons (r_varA 1 rfl (by first | exact .inl rfl | exact .inr (.inl rfl) | exact .inr (.inr rfl))) r_nil)))
  (rs_cons (rs_set g.toSt0 4 (show (4 : Nat) ∉ [0, 1, 2] by decide) rfl (by first | exact .inl rfl | exact .inr rfl) (r_lst r_nil))
  (rs_cons (rs_for g (.nm 5) (show (5 : Nat) ∉ [0, 1, 2] by decide) (ri_rng1 g.toSt0 T.n_range rfl (r_cons (r_varA 2 rfl (by first | exact .inl rfl | exact .inr (.inl rfl) | exact .inr (.inr rfl))) r_nil)) (rg_nm g.toSt0 5 rfl (by first | exact .inl rfl | exact .inr rfl)) (rs_one (rs_expr (r_append g.toSt0 4 rfl (by first | exact .inl rfl | exact .inr (.inl rfl) | exact .inr (.inr rfl)) (r_cons (r_frz (r_popAt g.toSt0 3 rfl (by first | exact .inl rfl | exact .inr (.inl rfl) | exact .inr (.inr rfl)) (r_cons (r_frz (r_call g F__law_draw (by decide) rfl (r_cons (r_varA 0 rfl (by first | exact .inl rfl | exact .inr (.inl rfl) | exact .inr (.inr rfl))) (r_cons (r_frz (r_cb g.toSt0 (call_lenDD g.k.symm) T.n_len (by rfl) rfl (r_cons (r_varA 3 rfl (by first | exact .inl rfl | exact .inr (.inl rfl) | exact .inr (.inr rfl))) r_nil))) r_nil)))) r_nil))) r_nil)))))
  (rs_one (rs_ret (r_varM 3 4 rfl (by first | exact .inl rfl | exact .inr (.inl rfl) | exact .inr (.inr rfl))))))))
theorem sc__law_folk : FnScope ["_law_feed_here", "_law_people_here", "_law_figures", "_law_found", "_law_turn"] ["_law_feed_here", "_law_people_here"] (defScope (top 63)) := ⟨rfl, rfl, rfl, by decide +kernel, rfl, by decide +kernel, by decide +kernel⟩
theorem b__law_folk {C : KM} {xNoPlace : Addr} (T : Txt C xNoPlace) (F__law_pick : Fn C 2 "_law_pick" g__law_pick) (F__law_draw : Fn C 1 "_law_draw" g__law_draw) (base : Heap) (f : Addr) (cdv : Value) (A : Around) (outer : List Env) (s : Shared) (H : Hp) (E : XK) (vs : List V) (W : WX) (g : Go (CxD C base ["_law_feed_here", "_law_people_here", "_law_figures", "_law_found", "_law_turn"] "_law_folk" (defScope (top 63)) f cdv A outer s H E) ⟨C, vs, [0, 1]⟩ W 2) : PSs (CxD C base ["_law_feed_here", "_law_people_here", "_law_figures", "_law_found", "_law_turn"] "_law_folk" (defScope (top 63)) f cdv A outer s H E) (defBody (top 63)) (tS ⟨C, vs, [0, 1]⟩ W m__law_folk) :=
  (rs_cons (rs_set g.toSt0 2 (show (2 : Nat) ∉ [0, 1] by decide) rfl (by first | exact .inl rfl | exact .inr rfl) (r_call g F__law_pick (by decide) rfl (r_cons (r_varA 0 rfl (by first | exact .inl rfl | exact .inr (.inl rfl) | exact .inr (.inr rfl))) (r_cons (r_frz r_str) (r_cons (r_frz r_int) r_nil)))))
  (rs_cons (rs_set g.toSt0 3 (show (3 : Nat) ∉ [0, 1] by decide) rfl (by first | exact .inl rfl | exact .inr rfl) (r_lst r_nil))
  (rs_cons (rs_for g (.nm 4) (show (4 : Nat) ∉ [0, 1] by decide) (ri_rng1 g.toSt0 T.n_range rfl (r_cons (r_frz (r_call g F__law_draw (by decide) rfl (r_cons (r_varA 0 rfl (by first | exact .inl rfl | exact .inr (.inl rfl) | exact .inr (.inr rfl))) (r_cons (r_frz r_int) r_nil)))) r_nil)) (rg_nm g.toSt0 4 rfl (by first | exact .inl rfl | exact .inr rfl)) (rs_one (rs_if (rt_cmp g.toSt0 rfl (r_frz (r_call g F__law_draw (by decide) rfl (r_cons (r_varA 0 rfl (by first | exact .inl rfl | exact .inr (.inl rfl) | exact .inr (.inr rfl))) (r_cons (r_frz r_int) r_nil)))) (r_frz r_int)) (rs_one (rs_expr (r_append g.toSt0 3 rfl (by first | exact .inl rfl | exact .inr (.inl rfl) | exact .inr (.inr rfl)) (r_cons (r_frz (r_ix g.toSt0 (r_varA 2 rfl (by first | exact .inl rfl | exact .inr (.inl rfl) | exact .inr (.inr rfl))) (r_varA 4 rfl (by first | exact .inl rfl | exact .inr (.inl rfl) | exact .inr (.inr rfl))))) r_nil)))) (rs_one (rs_if (rt_cmp g.toSt0 rfl (r_frz (r_ix g.toSt0 (r_varA 1 rfl (by first | exact .inl rfl | exact .inr (.inl rfl) | exact .inr (.inr rfl))) (r_frz (r_bin g.toSt0 rfl (r_frz (r_cty g.toSt0 (call_intD) T.n_int (by rfl) rfl (r_cons (r_varA 4 rfl (by first | exact .inl rfl | exact .inr (.inl rfl) | exact .inr (.inr rfl))) r_nil))) (r_frz (r_cb g.toSt0 (call_lenDD g.k.symm) T.n_len (by rfl) rfl (r_cons (r_varA 1 rfl (by first | exact .inl rfl | exact .inr (.inl rfl) | exact .inr (.inr rfl))) r_nil))))))) (r_varA 3 rfl (by first | exact .inl rfl | exact .inr (.inl rfl) | exact .inr (.inr rfl)))) (rs_one (rs_expr (r_append g.toSt0 3 rfl (by first | exact .inl rfl | exact .inr (.inl rfl) | exact .inr (.inr rfl)) (r_cons (r_frz (r_ix g.toSt0 (r_varA 1 rfl (by first | exact .inl rfl | exact .inr (.inl rfl) | exact .inr (.inr rfl))) (r_frz (r_bin g.toSt0 rfl (r_frz (r_cty g.toSt0 (call_intD) T.n_int (by rfl) rfl (r_cons (r_varA 4 rfl (by first | exact .inl rfl | exact .inr (.inl rfl) | exact .inr (.inr rfl))) r_nil))) (r_frz (r_cb g.toSt0 (call_lenDD g.k.symm) T.n_len (by rfl) rfl (r_cons (r_varA 1 rfl (by first | exact .inl rfl | exact .inr (.inl rfl) | exact .inr (.inr rfl))) r_nil))))))) r_nil)))) rs_nil)))))
  (rs_one (rs_ret (r_cty g.toSt0 (call_tupleD g.k.symm) T.n_tuple (by rfl) rfl (r_cons (r_varA 3 rfl (by first | exact .inl rfl | exact .inr (.inl rfl) | exact .inr (.inr rfl))) r_nil)))))))
theorem sc_is_comer : FnScope ["thing"] ["thing"] (defScope (top 16)) := ⟨rfl, rfl, rfl, by decide +kernel, rfl, by decide +kernel, by decide +kernel⟩
theorem b_is_comer {C : KM} {xNoPlace : Addr} (T : Txt C xNoPlace)  (base : Heap) (f : Addr) (cdv : Value) (A : Around) (outer : List Env) (s : Shared) (H : Hp) (E : XK) (vs : List V) (W : WX) (g : Go (CxD C base ["thing"] "is_comer" (defScope (top 16)) f cdv A outer s H E) ⟨C, vs, [0]⟩ W 0) : PSs (CxD C base ["thing"] "is_comer" (defScope (top 16)) f cdv A outer s H E) (defBody (top 16)) (tS ⟨C, vs, [0]⟩ W m_is_comer) :=
  (rs_one (rs_ret (r_and (r_isi g.toSt0 .tStr (r_varA 0 rfl (by first | exact .inl rfl | exact .inr (.inl rfl) | exact .inr (.inr rfl))) T.n_isinstance T.n_str rfl rfl (by rfl) (by rfl)) (r_and (r_cmp g.toSt0 rfl (r_frz (r_cb g.toSt0 (call_lenDD g.k.symm) T.n_len (by rfl) rfl (r_cons (r_varA 0 rfl (by first | exact .inl rfl | exact .inr (.inl rfl) | exact .inr (.inr rfl))) r_nil))) (r_frz r_int)) (r_one (r_cmp g.toSt0 rfl (r_varA 0 rfl (by first | exact .inl rfl | exact .inr (.inl rfl) | exact .inr (.inr rfl))) (r_frz (r_gStr g.toSt0 T.c_FIGURES rfl))))))))
theorem sc_ranked : FnScope ["folk", "row", "one"] ["folk"] (defScope (top 51)) := ⟨rfl, rfl, rfl, by decide +kernel, rfl, by decide +kernel, by decide +kernel⟩
theorem b_ranked {C : KM} {xNoPlace : Addr} (T : Txt C xNoPlace) (F_is_comer : Fn C 1 "is_comer" g_is_comer) (base : Heap) (f : Addr) (cdv : Value) (A : Around) (outer : List Env) (s : Shared) (H : Hp) (E : XK) (vs : List V) (W : WX) (g : Go (CxD C base ["folk", "row", "one"] "ranked" (defScope (top 51)) f cdv A outer s H E) ⟨C, vs, [0]⟩ W 1) : PSs (CxD C base ["folk", "row", "one"] "ranked" (defScope (top 51)) f cdv A outer s H E) (defBody (top 51)) (tS ⟨C, vs, [0]⟩ W m_ranked) :=
  (rs_cons (rs_set g.toSt0 1 (show (1 : Nat) ∉ [0] by decide) rfl (by first | exact .inl rfl | exact .inr rfl) (r_cb g.toSt0 (call_sortX g.k.symm) T.n_sorted (by rfl) rfl (r_cons (r_frz (r_lc g [("one", 2)] (.nm 2) (show (2 : Nat) ∉ [0] by decide) (show ∀ i ∈ [0], i ∉ [2] by decide) (show (2 : Nat) ∈ [2] by decide) (ri_val g.toSt0 (r_frz (r_varE 0 rfl (by first | exact .inl rfl | exact .inr (.inl rfl) | exact .inr (.inr rfl))))) (blkOk_by (N := ["folk", "row", "one"]) (sc := defScope (top 51)) (by decide +kernel)) (fun _ _ _ _ _ => (rg_nm (g.blk ..).toSt0 2 rfl (by first | exact .inl rfl | exact .inr rfl))) (fun _ _ _ _ _ g => (rts_one (rt_bl (r_call g F_is_comer (by decide) rfl (r_cons (r_varA 2 rfl (by first | exact .inl rfl | exact .inr (.inl rfl) | exact .inr (.inr rfl))) r_nil))))) (fun _ _ _ _ _ g => (r_varE 2 rfl (by first | exact .inl rfl | exact .inr (.inl rfl) | exact .inr (.inr rfl)))))) r_nil)))
  (rs_one (rs_ret (r_cty g.toSt0 (call_tupleD g.k.symm) T.n_tuple (by rfl) rfl (r_cons (r_frz (r_lc g [("one", 2)] (.nm 2) (show (2 : Nat) ∉ [0] by decide) (show ∀ i ∈ [0], i ∉ [2] by decide) (show (2 : Nat) ∈ [2] by decide) (ri_val g.toSt0 (r_frz (r_varE 0 rfl (by first | exact .inl rfl | exact .inr (.inl rfl) | exact .inr (.inr rfl))))) (blkOk_by (N := ["folk", "row", "one"]) (sc := defScope (top 51)) (by decide +kernel)) (fun _ _ _ _ _ => (rg_nm (g.blk ..).toSt0 2 rfl (by first | exact .inl rfl | exact .inr rfl))) (fun _ _ _ _ _ g => rts_nil) (fun _ _ _ _ _ g => (r_ifE (rt_bl (r_call g F_is_comer (by decide) rfl (r_cons (r_varA 2 rfl (by first | exact .inl rfl | exact .inr (.inl rfl) | exact .inr (.inr rfl))) r_nil))) (r_cty g.toSt0 (call_strD) T.n_str (by rfl) rfl (r_cons (r_frz (r_index g.toSt0 1 rfl (by first | exact .inl rfl | exact .inr (.inl rfl) | exact .inr (.inr rfl)) (r_cons (r_frz (r_varE 2 rfl (by first | exact .inl rfl | exact .inr (.inl rfl) | exact .inr (.inr rfl)))) r_nil))) r_nil)) (r_varE 2 rfl (by first | exact .inl rfl | exact .inr (.inl rfl) | exact .inr (.inr rfl))))))) r_nil)))))
theorem sc_place_form : FnScope ["place"] ["place"] (defScope (top 52)) := ⟨rfl, rfl, rfl, by decide +kernel, rfl, by decide +kernel, by decide +kernel⟩
theorem b_place_form {C : KM} {xNoPlace : Addr} (T : Txt C xNoPlace) (F_ranked : Fn C 2 "ranked" g_ranked) (base : Heap) (f : Addr) (cdv : Value) (A : Around) (outer : List Env) (s : Shared) (H : Hp) (E : XK) (vs : List V) (W : WX) (g : Go (CxD C base ["place"] "place_form" (defScope (top 52)) f cdv A outer s H E) ⟨C, vs, [0]⟩ W 2) : PSs (CxD C base ["place"] "place_form" (defScope (top 52)) f cdv A outer s H E) (defBody (top 52)) (tS ⟨C, vs, [0]⟩ W m_place_form) :=
  (rs_one (rs_ret (r_tup (r_cons (r_frz (r_ix g.toSt0 (r_varA 0 rfl (by first | exact .inl rfl | exact .inr (.inl rfl) | exact .inr (.inr rfl))) (r_frz r_int))) (r_cons (r_frz (r_call g F_ranked (by decide) rfl (r_cons (r_frz (r_ix g.toSt0 (r_varA 0 rfl (by first | exact .inl rfl | exact .inr (.inl rfl) | exact .inr (.inr rfl))) (r_frz r_int))) r_nil))) r_nil)))))
theorem sc_is_pair : FnScope ["thing"] ["thing"] (defScope (top 12)) := ⟨rfl, rfl, rfl, by decide +kernel, rfl, by decide +kernel, by decide +kernel⟩
theorem b_is_pair {C : KM} {xNoPlace : Addr} (T : Txt C xNoPlace)  (base : Heap) (f : Addr) (cdv : Value) (A : Around) (outer : List Env) (s : Shared) (H : Hp) (E : XK) (vs : List V) (W : WX) (g : Go (CxD C base ["thing"] "is_pair" (defScope (top 12)) f cdv A outer s H E) ⟨C, vs, [0]⟩ W 0) : PSs (CxD C base ["thing"] "is_pair" (defScope (top 12)) f cdv A outer s H E) (defBody (top 12)) (tS ⟨C, vs, [0]⟩ W m_is_pair) :=
  (rs_one (rs_ret (r_and (r_isi g.toSt0 .tTup (r_varA 0 rfl (by first | exact .inl rfl | exact .inr (.inl rfl) | exact .inr (.inr rfl))) T.n_isinstance T.n_tuple rfl rfl (by rfl) (by rfl)) (r_one (r_cmp g.toSt0 rfl (r_frz (r_cb g.toSt0 (call_lenDD g.k.symm) T.n_len (by rfl) rfl (r_cons (r_varA 0 rfl (by first | exact .inl rfl | exact .inr (.inl rfl) | exact .inr (.inr rfl))) r_nil))) (r_frz r_int))))))
theorem sc_is_of : FnScope ["thing", "signs", "sign"] ["thing", "signs"] (defScope (top 13)) := ⟨rfl, rfl, rfl, by decide +kernel, rfl, by decide +kernel, by decide +kernel⟩
theorem b_is_of {C : KM} {xNoPlace : Addr} (T : Txt C xNoPlace)  (base : Heap) (f : Addr) (cdv : Value) (A : Around) (outer : List Env) (s : Shared) (H : Hp) (E : XK) (vs : List V) (W : WX) (g : Go (CxD C base ["thing", "signs", "sign"] "is_of" (defScope (top 13)) f cdv A outer s H E) ⟨C, vs, [0, 1]⟩ W 0) : PSs (CxD C base ["thing", "signs", "sign"] "is_of" (defScope (top 13)) f cdv A outer s H E) (defBody (top 13)) (tS ⟨C, vs, [0, 1]⟩ W m_is_of) :=
  (rs_one (rs_ret (r_and (r_isi g.toSt0 .tStr (r_varA 0 rfl (by first | exact .inl rfl | exact .inr (.inl rfl) | exact .inr (.inr rfl))) T.n_isinstance T.n_str rfl rfl (by rfl) (by rfl)) (r_and (r_chain g.toSt0 rfl rfl (r_frz r_int) (r_frz (r_cb g.toSt0 (call_lenDD g.k.symm) T.n_len (by rfl) rfl (r_cons (r_varA 0 rfl (by first | exact .inl rfl | exact .inr (.inl rfl) | exact .inr (.inr rfl))) r_nil))) (r_frz (r_gInt g.toSt0 T.c_MOST_SIGNS rfl))) (r_one (r_cb g.toSt0 (call_allD g.cm) T.n_all (by rfl) rfl (r_cons (r_frz (r_lc g [("sign", 2)] (.nm 2) (show (2 : Nat) ∉ [0, 1] by decide) (show ∀ i ∈ [0, 1], i ∉ [2] by decide) (show (2 : Nat) ∈ [2] by decide) (ri_val g.toSt0 (r_frz (r_varE 0 rfl (by first | exact .inl rfl | exact .inr (.inl rfl) | exact .inr (.inr rfl))))) (blkOk_by (N := ["thing", "signs", "sign"]) (sc := defScope (top 13)) (by decide +kernel)) (fun _ _ _ _ _ => (rg_nm (g.blk ..).toSt0 2 rfl (by first | exact .inl rfl | exact .inr rfl))) (fun _ _ _ _ _ g => rts_nil) (fun _ _ _ _ _ g => (r_cmp g.toSt0 rfl (r_varA 2 rfl (by first | exact .inl rfl | exact .inr (.inl rfl) | exact .inr (.inr rfl))) (r_varA 1 rfl (by first | exact .inl rfl | exact .inr (.inl rfl) | exact .inr (.inr rfl))))))) r_nil)))))))
theorem sc_is_label : FnScope ["thing"] ["thing"] (defScope (top 14)) := ⟨rfl, rfl, rfl, by decide +kernel, rfl, by decide +kernel, by decide +kernel⟩
theorem b_is_label {C : KM} {xNoPlace : Addr} (T : Txt C xNoPlace) (F_is_of : Fn C 1 "is_of" g_is_of) (base : Heap) (f : Addr) (cdv : Value) (A : Around) (outer : List Env) (s : Shared) (H : Hp) (E : XK) (vs : List V) (W : WX) (g : Go (CxD C base ["thing"] "is_label" (defScope (top 14)) f cdv A outer s H E) ⟨C, vs, [0]⟩ W 1) : PSs (CxD C base ["thing"] "is_label" (defScope (top 14)) f cdv A outer s H E) (defBody (top 14)) (tS ⟨C, vs, [0]⟩ W m_is_label) :=
  (rs_one (rs_ret (r_call g F_is_of (by decide) rfl (r_cons (r_varA 0 rfl (by first | exact .inl rfl | exact .inr (.inl rfl) | exact .inr (.inr rfl))) (r_cons (r_frz (r_gStr g.toSt0 T.c_SMALL rfl)) r_nil)))))
theorem sc_are_unlike : FnScope ["things", "thing"] ["things"] (defScope (top 18)) := ⟨rfl, rfl, rfl, by decide +kernel, rfl, by decide +kernel, by decide +kernel⟩
theorem b_are_unlike {C : KM} {xNoPlace : Addr} (T : Txt C xNoPlace)  (base : Heap) (f : Addr) (cdv : Value) (A : Around) (outer : List Env) (s : Shared) (H : Hp) (E : XK) (vs : List V) (W : WX) (g : Go (CxD C base ["things", "thing"] "are_unlike" (defScope (top 18)) f cdv A outer s H E) ⟨C, vs, [0]⟩ W 0) : PSs (CxD C base ["things", "thing"] "are_unlike" (defScope (top 18)) f cdv A outer s H E) (defBody (top 18)) (tS ⟨C, vs, [0]⟩ W m_are_unlike) :=
  (rs_one (rs_ret (r_cmp g.toSt0 rfl (r_frz (r_cb g.toSt0 (call_lenDD g.k.symm) T.n_len (by rfl) rfl (r_cons (r_frz (r_dc g [("thing", 1)] (.nm 1) (show (1 : Nat) ∉ [0] by decide) (show ∀ i ∈ [0], i ∉ [1] by decide) (show (1 : Nat) ∈ [1] by decide) (ri_val g.toSt0 (r_frz (r_varE 0 rfl (by first | exact .inl rfl | exact .inr (.inl rfl) | exact .inr (.inr rfl))))) (blkOk_by (N := ["things", "thing"]) (sc := defScope (top 18)) (by decide +kernel)) (fun _ _ _ _ _ => (rg_nm (g.blk ..).toSt0 1 rfl (by first | exact .inl rfl | exact .inr rfl))) (fun _ _ _ _ _ g => rts_nil) (fun _ _ _ _ _ g => (r_varA 1 rfl (by first | exact .inl rfl | exact .inr (.inl rfl) | exact .inr (.inr rfl)))) (fun _ _ _ _ _ g => r_bl))) r_nil))) (r_frz (r_cb g.toSt0 (call_lenDD g.k.symm) T.n_len (by rfl) rfl (r_cons (r_varA 0 rfl (by first | exact .inl rfl | exact .inr (.inl rfl) | exact .inr (.inr rfl))) r_nil))))))
theorem sc_is_name : FnScope ["thing"] ["thing"] (defScope (top 15)) := ⟨rfl, rfl, rfl, by decide +kernel, rfl, by decide +kernel, by decide +kernel⟩
theorem b_is_name {C : KM} {xNoPlace : Addr} (T : Txt C xNoPlace) (F_is_of : Fn C 1 "is_of" g_is_of) (base : Heap) (f : Addr) (cdv : Value) (A : Around) (outer : List Env) (s : Shared) (H : Hp) (E : XK) (vs : List V) (W : WX) (g : Go (CxD C base ["thing"] "is_name" (defScope (top 15)) f cdv A outer s H E) ⟨C, vs, [0]⟩ W 1) : PSs (CxD C base ["thing"] "is_name" (defScope (top 15)) f cdv A outer s H E) (defBody (top 15)) (tS ⟨C, vs, [0]⟩ W m_is_name) :=
  (rs_one (rs_ret (r_call g F_is_of (by decide) rfl (r_cons (r_varA 0 rfl (by first | exact .inl rfl | exact .inr (.inl rfl) | exact .inr (.inr rfl))) (r_cons (r_frz (r_gStr g.toSt0 T.c_GREAT rfl)) r_nil)))))
theorem sc_is_folk : FnScope ["thing"] ["thing"] (defScope (top 17)) := ⟨rfl, rfl, rfl, by decide +kernel, rfl, by decide +kernel, by decide +kernel⟩
theorem b_is_folk {C : KM} {xNoPlace : Addr} (T : Txt C xNoPlace) (F_is_name : Fn C 2 "is_name" g_is_name) (F_is_comer : Fn C 1 "is_comer" g_is_comer) (base : Heap) (f : Addr) (cdv : Value) (A : Around) (outer : List Env) (s : Shared) (H : Hp) (E : XK) (vs : List V) (W : WX) (g : Go (CxD C base ["thing"] "is_folk" (defScope (top 17)) f cdv A outer s H E) ⟨C, vs, [0]⟩ W 2) : PSs (CxD C base ["thing"] "is_folk" (defScope (top 17)) f cdv A outer s H E) (defBody (top 17)) (tS ⟨C, vs, [0]⟩ W m_is_folk) :=
  (rs_one (rs_ret (r_or (r_call g F_is_name (by decide) rfl (r_cons (r_varA 0 rfl (by first | exact .inl rfl | exact .inr (.inl rfl) | exact .inr (.inr rfl))) r_nil)) (r_one (r_call g F_is_comer (by decide) rfl (r_cons (r_varA 0 rfl (by first | exact .inl rfl | exact .inr (.inl rfl) | exact .inr (.inr rfl))) r_nil))))))
theorem sc_are_unlike_folk : FnScope ["thing", "one"] ["thing"] (defScope (top 19)) := ⟨rfl, rfl, rfl, by decide +kernel, rfl, by decide +kernel, by decide +kernel⟩
theorem b_are_unlike_folk {C : KM} {xNoPlace : Addr} (T : Txt C xNoPlace) (F_is_folk : Fn C 3 "is_folk" g_is_folk) (F_are_unlike : Fn C 1 "are_unlike" g_are_unlike) (base : Heap) (f : Addr) (cdv : Value) (A : Around) (outer : List Env) (s : Shared) (H : Hp) (E : XK) (vs : List V) (W : WX) (g : Go (CxD C base ["thing", "one"] "are_unlike_folk" (defScope (top 19)) f cdv A outer s H E) ⟨C, vs, [0]⟩ W 3) : PSs (CxD C base ["thing", "one"] "are_unlike_folk" (defScope (top 19)) f cdv A outer s H E) (defBody (top 19)) (tS ⟨C, vs, [0]⟩ W m_are_unlike_folk) :=
  (rs_one (rs_ret (r_and (r_isi g.toSt0 .tTup (r_varA 0 rfl (by first | exact .inl rfl | exact .inr (.inl rfl) | exact .inr (.inr rfl))) T.n_isinstance T.n_tuple rfl rfl (by rfl) (by rfl)) (r_and (r_cb g.toSt0 (call_allD g.cm) T.n_all (by rfl) rfl (r_cons (r_frz (r_lc g [("one", 1)] (.nm 1) (show (1 : Nat) ∉ [0] by decide) (show ∀ i ∈ [0], i ∉ [1] by decide) (show (1 : Nat) ∈ [1] by decide) (ri_val g.toSt0 (r_frz (r_varE 0 rfl (by first | exact .inl rfl | exact .inr (.inl rfl) | exact .inr (.inr rfl))))) (blkOk_by (N := ["thing", "one"]) (sc := defScope (top 19)) (by decide +kernel)) (fun _ _ _ _ _ => (rg_nm (g.blk ..).toSt0 1 rfl (by first | exact .inl rfl | exact .inr rfl))) (fun _ _ _ _ _ g => rts_nil) (fun _ _ _ _ _ g => (r_call g F_is_folk (by decide) rfl (r_cons (r_varA 1 rfl (by first | exact .inl rfl | exact .inr (.inl rfl) | exact .inr (.inr rfl))) r_nil))))) r_nil)) (r_one (r_call g F_are_unlike (by decide) rfl (r_cons (r_varA 0 rfl (by first | exact .inl rfl | exact .inr (.inl rfl) | exact .inr (.inr rfl))) r_nil)))))))
theorem sc_form_of : FnScope ["place"] ["place"] (defScope (top 55)) := ⟨rfl, rfl, rfl, by decide +kernel, rfl, by decide +kernel, by decide +kernel⟩
theorem b_form_of {C : KM} {xNoPlace : Addr} (T : Txt C xNoPlace) (F_is_pair : Fn C 1 "is_pair" g_is_pair) (F_is_label : Fn C 2 "is_label" g_is_label) (F_are_unlike_folk : Fn C 4 "are_unlike_folk" g_are_unlike_folk) (F_place_form : Fn C 3 "place_form" g_place_form) (base : Heap) (f : Addr) (cdv : Value) (A : Around) (outer : List Env) (s : Shared) (H : Hp) (E : XK) (vs : List V) (W : WX) (g : Go (CxD C base ["place"] "form_of" (defScope (top 55)) f cdv A outer s H E) ⟨C, vs, [0]⟩ W 4) : PSs (CxD C base ["place"] "form_of" (defScope (top 55)) f cdv A outer s H E) (defBody (top 55)) (tS ⟨C, vs, [0]⟩ W m_form_of) :=
  (rs_cons (rs_if (PW.pt (rt_or (rt_not (rt_bl (r_call g F_is_pair (by decide) rfl (r_cons (r_varA 0 rfl (by first | exact .inl rfl | exact .inr (.inl rfl) | exact .inr (.inr rfl))) r_nil)))) (rt_or (rt_not (rt_bl (r_call g F_is_label (by decide) rfl (r_cons (r_frz (r_ix g.toSt0 (r_varA 0 rfl (by first | exact .inl rfl | exact .inr (.inl rfl) | exact .inr (.inr rfl))) (r_frz r_int))) r_nil)))) (rt_or (rt_not (rt_bl (r_call g F_are_unlike_folk (by decide) rfl (r_cons (r_frz (r_ix g.toSt0 (r_varA 0 rfl (by first | exact .inl rfl | exact .inr (.inl rfl) | exact .inr (.inr rfl))) (r_frz r_int))) r_nil)))) (rt_or1 (rt_cmp g.toSt0 rfl (r_frz (r_cb g.toSt0 (call_lenDD g.k.symm) T.n_len (by rfl) rfl (r_cons (r_frz (r_ix g.toSt0 (r_varA 0 rfl (by first | exact .inl rfl | exact .inr (.inl rfl) | exact .inr (.inr rfl))) (r_frz r_int))) r_nil))) (r_frz (r_gInt g.toSt0 T.c_MOST_SIZE_rules rfl)))))))) (rs_one (rs_raise0 g T.e_NoPlace rfl)) rs_nil)
  (rs_one (rs_ret (r_call g F_place_form (by decide) rfl (r_cons (r_varA 0 rfl (by first | exact .inl rfl | exact .inr (.inl rfl) | exact .inr (.inr rfl))) r_nil)))))
theorem sc_are_names : FnScope ["thing", "one"] ["thing"] (defScope (top 44)) := ⟨rfl, rfl, rfl, by decide +kernel, rfl, by decide +kernel, by decide +kernel⟩
theorem b_are_names {C : KM} {xNoPlace : Addr} (T : Txt C xNoPlace) (F_is_name : Fn C 2 "is_name" g_is_name) (F_are_unlike : Fn C 1 "are_unlike" g_are_unlike) (base : Heap) (f : Addr) (cdv : Value) (A : Around) (outer : List Env) (s : Shared) (H : Hp) (E : XK) (vs : List V) (W : WX) (g : Go (CxD C base ["thing", "one"] "are_names" (defScope (top 44)) f cdv A outer s H E) ⟨C, vs, [0]⟩ W 2) : PSs (CxD C base ["thing", "one"] "are_names" (defScope (top 44)) f cdv A outer s H E) (defBody (top 44)) (tS ⟨C, vs, [0]⟩ W m_are_names) :=
  (rs_cons (rs_if (PW.pt (rt_or (rt_not (rt_bl (r_isi g.toSt0 .tTup (r_varA 0 rfl (by first | exact .inl rfl | exact .inr (.inl rfl) | exact .inr (.inr rfl))) T.n_isinstance T.n_tuple rfl rfl (by rfl) (by rfl)))) (rt_or (rt_cmp g.toSt0 rfl (r_frz (r_cb g.toSt0 (call_lenDD g.k.symm) T.n_len (by rfl) rfl (r_cons (r_varA 0 rfl (by first | exact .inl rfl | exact .inr (.inl rfl) | exact .inr (.inr rfl))) r_nil))) (r_frz (r_gInt g.toSt0 T.c_MOST_NAMES rfl))) (rt_or1 (rt_not (rt_bl (r_cb g.toSt0 (call_allD g.cm) T.n_all (by rfl) rfl (r_cons (r_frz (r_lc g [("one", 1)] (.nm 1) (show (1 : Nat) ∉ [0] by decide) (show ∀ i ∈ [0], i ∉ [1] by decide) (show (1 : Nat) ∈ [1] by decide) (ri_val g.toSt0 (r_frz (r_varE 0 rfl (by first | exact .inl rfl | exact .inr (.inl rfl) | exact .inr (.inr rfl))))) (blkOk_by (N := ["thing", "one"]) (sc := defScope (top 44)) (by decide +kernel)) (fun _ _ _ _ _ => (rg_nm (g.blk ..).toSt0 1 rfl (by first | exact .inl rfl | exact .inr rfl))) (fun _ _ _ _ _ g => rts_nil) (fun _ _ _ _ _ g => (r_call g F_is_name (by decide) rfl (r_cons (r_varA 1 rfl (by first | exact .inl rfl | exact .inr (.inl rfl) | exact .inr (.inr rfl))) r_nil))))) r_nil)))))))) (rs_one (rs_ret r_bl)) rs_nil)
  (rs_one (rs_ret (r_and (r_cmp g.toSt0 rfl (r_frz (r_cty g.toSt0 (call_listY g.k.symm g.cm) T.n_list (by rfl) rfl (r_cons (r_varA 0 rfl (by first | exact .inl rfl | exact .inr (.inl rfl) | exact .inr (.inr rfl))) r_nil))) (r_frz (r_cb g.toSt0 (call_sortX g.k.symm) T.n_sorted (by rfl) rfl (r_cons (r_varA 0 rfl (by first | exact .inl rfl | exact .inr (.inl rfl) | exact .inr (.inr rfl))) r_nil)))) (r_one (r_call g F_are_unlike (by decide) rfl (r_cons (r_varA 0 rfl (by first | exact .inl rfl | exact .inr (.inl rfl) | exact .inr (.inr rfl))) r_nil)))))))
theorem sc_is_place_of : FnScope ["book", "folk", "thing", "known", "one"] ["book", "folk", "thing"] (defScope (top 45)) := ⟨rfl, rfl, rfl, by decide +kernel, rfl, by decide +kernel, by decide +kernel⟩
theorem b_is_place_of {C : KM} {xNoPlace : Addr} (T : Txt C xNoPlace) (F_is_pair : Fn C 1 "is_pair" g_is_pair) (F_are_unlike : Fn C 1 "are_unlike" g_are_unlike) (base : Heap) (f : Addr) (cdv : Value) (A : Around) (outer : List Env) (s : Shared) (H : Hp) (E : XK) (vs : List V) (W : WX) (g : Go (CxD C base ["book", "folk", "thing", "known", "one"] "is_place_of" (defScope (top 45)) f cdv A outer s H E) ⟨C, vs, [0, 1, 2]⟩ W 1) : PSs (CxD C base ["book", "folk", "thing", "known", "one"] "is_place_of" (defScope (top 45)) f cdv A outer s H E) (defBody (top 45)) (tS ⟨C, vs, [0, 1, 2]⟩ W m_is_place_of) :=
  (rs_cons (rs_if (PW.pt (rt_or (rt_not (rt_bl (r_call g F_is_pair (by decide) rfl (r_cons (r_varA 2 rfl (by first | exact .inl rfl | exact .inr (.inl rfl) | exact .inr (.inr rfl))) r_nil)))) (rt_or (rt_not (rt_bl (r_isi g.toSt0 .tStr (r_frz (r_ix g.toSt0 (r_varA 2 rfl (by first | exact .inl rfl | exact .inr (.inl rfl) | exact .inr (.inr rfl))) (r_frz r_int))) T.n_isinstance T.n_str rfl rfl (by rfl) (by rfl)))) (rt_or1 (rt_not (rt_bl (r_isi g.toSt0 .tTup (r_frz (r_ix g.toSt0 (r_varA 2 rfl (by first | exact .inl rfl | exact .inr (.inl rfl) | exact .inr (.inr rfl))) (r_frz r_int))) T.n_isinstance T.n_tuple rfl rfl (by rfl) (by rfl)))))))) (rs_one (rs_ret r_bl)) rs_nil)
  (rs_cons (rs_set g.toSt0 3 (show (3 : Nat) ∉ [0, 1, 2] by decide) rfl (by first | exact .inl rfl | exact .inr rfl) (r_cty g.toSt0 (call_dictDD g.k.symm g.cm) T.n_dict (by rfl) rfl (r_cons (r_frz (r_fld g.toSt0 cs_tables T.f_tables (r_varA 0 rfl (by first | exact .inl rfl | exact .inr (.inl rfl) | exact .inr (.inr rfl))))) r_nil)))
  (rs_cons (rs_if (PW.pt (rt_or (rt_cmp g.toSt0 rfl (r_frz (r_ix g.toSt0 (r_varA 2 rfl (by first | exact .inl rfl | exact .inr (.inl rfl) | exact .inr (.inr rfl))) (r_frz r_int))) (r_varA 3 rfl (by first | exact .inl rfl | exact .inr (.inl rfl) | exact .inr (.inr rfl)))) (rt_or1 (rt_cmp g.toSt0 rfl (r_frz (r_cb g.toSt0 (call_lenDD g.k.symm) T.n_len (by rfl) rfl (r_cons (r_frz (r_ix g.toSt0 (r_varA 2 rfl (by first | exact .inl rfl | exact .inr (.inl rfl) | exact .inr (.inr rfl))) (r_frz r_int))) r_nil))) (r_frz (r_ix g.toSt0 (r_varA 3 rfl (by first | exact .inl rfl | exact .inr (.inl rfl) | exact .inr (.inr rfl))) (r_frz (r_ix g.toSt0 (r_varA 2 rfl (by first | exact .inl rfl | exact .inr (.inl rfl) | exact .inr (.inr rfl))) (r_frz r_int))))))))) (rs_one (rs_ret r_bl)) rs_nil)
  (rs_one (rs_ret (r_and (r_cb g.toSt0 (call_allD g.cm) T.n_all (by rfl) rfl (r_cons (r_frz (r_lc g [("one", 4)] (.nm 4) (show (4 : Nat) ∉ [0, 1, 2] by decide) (show ∀ i ∈ [0, 1, 2], i ∉ [4] by decide) (show (4 : Nat) ∈ [4] by decide) (ri_val g.toSt0 (r_frz (r_ix g.toSt0 (r_varA 2 rfl (by first | exact .inl rfl | exact .inr (.inl rfl) | exact .inr (.inr rfl))) (r_frz r_int)))) (blkOk_by (N := ["book", "folk", "thing", "known", "one"]) (sc := defScope (top 45)) (by decide +kernel)) (fun _ _ _ _ _ => (rg_nm (g.blk ..).toSt0 4 rfl (by first | exact .inl rfl | exact .inr rfl))) (fun _ _ _ _ _ g => rts_nil) (fun _ _ _ _ _ g => (r_and (r_isi g.toSt0 .tStr (r_varA 4 rfl (by first | exact .inl rfl | exact .inr (.inl rfl) | exact .inr (.inr rfl))) T.n_isinstance T.n_str rfl rfl (by rfl) (by rfl)) (r_one (r_cmp g.toSt0 rfl (r_varA 4 rfl (by first | exact .inl rfl | exact .inr (.inl rfl) | exact .inr (.inr rfl))) (r_varA 1 rfl (by first | exact .inl rfl | exact .inr (.inl rfl) | exact .inr (.inr rfl))))))))) r_nil)) (r_one (r_call g F_are_unlike (by decide) rfl (r_cons (r_frz (r_ix g.toSt0 (r_varA 2 rfl (by first | exact .inl rfl | exact .inr (.inl rfl) | exact .inr (.inr rfl))) (r_frz r_int))) r_nil)))))))))
theorem sc_is_integer : FnScope ["thing"] ["thing"] (defScope (top 10)) := ⟨rfl, rfl, rfl, by decide +kernel, rfl, by decide +kernel, by decide +kernel⟩
theorem b_is_integer {C : KM} {xNoPlace : Addr} (T : Txt C xNoPlace)  (base : Heap) (f : Addr) (cdv : Value) (A : Around) (outer : List Env) (s : Shared) (H : Hp) (E : XK) (vs : List V) (W : WX) (g : Go (CxD C base ["thing"] "is_integer" (defScope (top 10)) f cdv A outer s H E) ⟨C, vs, [0]⟩ W 0) : PSs (CxD C base ["thing"] "is_integer" (defScope (top 10)) f cdv A outer s H E) (defBody (top 10)) (tS ⟨C, vs, [0]⟩ W m_is_integer) :=
  (rs_one (rs_ret (r_and (r_isi g.toSt0 .tInt (r_varA 0 rfl (by first | exact .inl rfl | exact .inr (.inl rfl) | exact .inr (.inr rfl))) T.n_isinstance T.n_int rfl rfl (by rfl) (by rfl)) (r_one (r_not (r_isi g.toSt0 .tBool (r_varA 0 rfl (by first | exact .inl rfl | exact .inr (.inl rfl) | exact .inr (.inr rfl))) T.n_isinstance T.n_bool rfl rfl (by rfl) (by rfl)))))))
theorem sc_is_within : FnScope ["thing", "least", "most"] ["thing", "least", "most"] (defScope (top 11)) := ⟨rfl, rfl, rfl, by decide +kernel, rfl, by decide +kernel, by decide +kernel⟩
theorem b_is_within {C : KM} {xNoPlace : Addr} (T : Txt C xNoPlace) (F_is_integer : Fn C 1 "is_integer" g_is_integer) (base : Heap) (f : Addr) (cdv : Value) (A : Around) (outer : List Env) (s : Shared) (H : Hp) (E : XK) (vs : List V) (W : WX) (g : Go (CxD C base ["thing", "least", "most"] "is_within" (defScope (top 11)) f cdv A outer s H E) ⟨C, vs, [0, 1, 2]⟩ W 1) : PSs (CxD C base ["thing", "least", "most"] "is_within" (defScope (top 11)) f cdv A outer s H E) (defBody (top 11)) (tS ⟨C, vs, [0, 1, 2]⟩ W m_is_within) :=
  (rs_one (rs_ret (r_and (r_call g F_is_integer (by decide) rfl (r_cons (r_varA 0 rfl (by first | exact .inl rfl | exact .inr (.inl rfl) | exact .inr (.inr rfl))) r_nil)) (r_one (r_chain g.toSt0 rfl rfl (r_varA 1 rfl (by first | exact .inl rfl | exact .inr (.inl rfl) | exact .inr (.inr rfl))) (r_varA 0 rfl (by first | exact .inl rfl | exact .inr (.inl rfl) | exact .inr (.inr rfl))) (r_varA 2 rfl (by first | exact .inl rfl | exact .inr (.inl rfl) | exact .inr (.inr rfl))))))))
theorem sc_common_divisor : FnScope ["one", "other"] ["one", "other"] (defScope (top 20)) := ⟨rfl, rfl, rfl, by decide +kernel, rfl, by decide +kernel, by decide +kernel⟩
theorem b_common_divisor {C : KM} {xNoPlace : Addr} (T : Txt C xNoPlace)  (base : Heap) (f : Addr) (cdv : Value) (A : Around) (outer : List Env) (s : Shared) (H : Hp) (E : XK) (vs : List V) (W : WX) (g : Go (CxD C base ["one", "other"] "common_divisor" (defScope (top 20)) f cdv A outer s H E) ⟨C, vs, ([] : List Nat)⟩ W 0) : PSs (CxD C base ["one", "other"] "common_divisor" (defScope (top 20)) f cdv A outer s H E) (defBody (top 20)) (tS ⟨C, vs, ([] : List Nat)⟩ W m_common_divisor) :=
  (rs_cons (rs_while g _ (rt_cmp g.toSt0 rfl (r_varA 1 rfl (by first | exact .inl rfl | exact .inr (.inl rfl) | exact .inr (.inr rfl))) (r_frz r_int)) (rs_one (rs_par g.toSt0 g.cm 0 1 (show (0 : Nat) ∉ ([] : List Nat) by decide) (show (1 : Nat) ∉ ([] : List Nat) by decide) rfl rfl (by decide) rfl rfl (r_cons (r_frz (r_varE 1 rfl (by first | exact .inl rfl | exact .inr (.inl rfl) | exact .inr (.inr rfl)))) (r_cons (r_frz (r_bin g.toSt0 rfl (r_varA 0 rfl (by first | exact .inl rfl | exact .inr (.inl rfl) | exact .inr (.inr rfl))) (r_varA 1 rfl (by first | exact .inl rfl | exact .inr (.inl rfl) | exact .inr (.inr rfl))))) r_nil)) rfl)))
  (rs_one (rs_ret (r_cb g.toSt0 (call_absD) T.n_abs (by rfl) rfl (r_cons (r_varA 0 rfl (by first | exact .inl rfl | exact .inr (.inl rfl) | exact .inr (.inr rfl))) r_nil)))))
theorem sc_is_fraction : FnScope ["thing"] ["thing"] (defScope (top 21)) := ⟨rfl, rfl, rfl, by decide +kernel, rfl, by decide +kernel, by decide +kernel⟩
theorem b_is_fraction {C : KM} {xNoPlace : Addr} (T : Txt C xNoPlace) (F_is_pair : Fn C 1 "is_pair" g_is_pair) (F_is_integer : Fn C 1 "is_integer" g_is_integer) (F_common_divisor : Fn C 1 "common_divisor" g_common_divisor) (base : Heap) (f : Addr) (cdv : Value) (A : Around) (outer : List Env) (s : Shared) (H : Hp) (E : XK) (vs : List V) (W : WX) (g : Go (CxD C base ["thing"] "is_fraction" (defScope (top 21)) f cdv A outer s H E) ⟨C, vs, [0]⟩ W 1) : PSs (CxD C base ["thing"] "is_fraction" (defScope (top 21)) f cdv A outer s H E) (defBody (top 21)) (tS ⟨C, vs, [0]⟩ W m_is_fraction) :=
  (rs_cons (rs_if (PW.pt (rt_or (rt_not (rt_bl (r_call g F_is_pair (by decide) rfl (r_cons (r_varA 0 rfl (by first | exact .inl rfl | exact .inr (.inl rfl) | exact .inr (.inr rfl))) r_nil)))) (rt_or (rt_not (rt_bl (r_call g F_is_integer (by decide) rfl (r_cons (r_frz (r_ix g.toSt0 (r_varA 0 rfl (by first | exact .inl rfl | exact .inr (.inl rfl) | exact .inr (.inr rfl))) (r_frz r_int))) r_nil)))) (rt_or (rt_not (rt_bl (r_call g F_is_integer (by decide) rfl (r_cons (r_frz (r_ix g.toSt0 (r_varA 0 rfl (by first | exact .inl rfl | exact .inr (.inl rfl) | exact .inr (.inr rfl))) (r_frz r_int))) r_nil)))) (rt_or1 (rt_cmp g.toSt0 rfl (r_frz (r_ix g.toSt0 (r_varA 0 rfl (by first | exact .inl rfl | exact .inr (.inl rfl) | exact .inr (.inr rfl))) (r_frz r_int))) (r_frz r_int))))))) (rs_one (rs_ret r_bl)) rs_nil)
  (rs_one (rs_ret (r_cmp g.toSt0 rfl (r_frz (r_call g F_common_divisor (by decide) rfl (r_cons (r_frz (r_ix g.toSt0 (r_varA 0 rfl (by first | exact .inl rfl | exact .inr (.inl rfl) | exact .inr (.inr rfl))) (r_frz r_int))) (r_cons (r_frz (r_ix g.toSt0 (r_varA 0 rfl (by first | exact .inl rfl | exact .inr (.inl rfl) | exact .inr (.inr rfl))) (r_frz r_int))) r_nil)))) (r_frz r_int)))))
theorem sc_is_number_of : FnScope ["world", "thing"] ["world", "thing"] (defScope (top 27)) := ⟨rfl, rfl, rfl, by decide +kernel, rfl, by decide +kernel, by decide +kernel⟩
theorem b_is_number_of {C : KM} {xNoPlace : Addr} (T : Txt C xNoPlace) (F_is_integer : Fn C 1 "is_integer" g_is_integer) (F_is_fraction : Fn C 2 "is_fraction" g_is_fraction) (F_is_within : Fn C 2 "is_within" g_is_within) (base : Heap) (f : Addr) (cdv : Value) (A : Around) (outer : List Env) (s : Shared) (H : Hp) (E : XK) (vs : List V) (W : WX) (g : Go (CxD C base ["world", "thing"] "is_number_of" (defScope (top 27)) f cdv A outer s H E) ⟨C, vs, [0, 1]⟩ W 2) : PSs (CxD C base ["world", "thing"] "is_number_of" (defScope (top 27)) f cdv A outer s H E) (defBody (top 27)) (tS ⟨C, vs, [0, 1]⟩ W m_is_number_of) :=
  (rs_cons (rs_if (rt_cmp g.toSt0 rfl (r_varA 0 rfl (by first | exact .inl rfl | exact .inr (.inl rfl) | exact .inr (.inr rfl))) (r_frz (r_gInt g.toSt0 T.c_WHOLE rfl))) (rs_one (rs_ret (r_call g F_is_integer (by decide) rfl (r_cons (r_varA 1 rfl (by first | exact .inl rfl | exact .inr (.inl rfl) | exact .inr (.inr rfl))) r_nil)))) rs_nil)
  (rs_cons (rs_if (rt_cmp g.toSt0 rfl (r_varA 0 rfl (by first | exact .inl rfl | exact .inr (.inl rfl) | exact .inr (.inr rfl))) (r_frz (r_gInt g.toSt0 T.c_FRACTIONS rfl))) (rs_one (rs_ret (r_call g F_is_fraction (by decide) rfl (r_cons (r_varA 1 rfl (by first | exact .inl rfl | exact .inr (.inl rfl) | exact .inr (.inr rfl))) r_nil)))) rs_nil)
  (rs_one (rs_ret (r_call g F_is_within (by decide) rfl (r_cons (r_varA 1 rfl (by first | exact .inl rfl | exact .inr (.inl rfl) | exact .inr (.inr rfl))) (r_cons (r_frz r_int) (r_cons (r_frz (r_bin g.toSt0 rfl (r_varA 0 rfl (by first | exact .inl rfl | exact .inr (.inl rfl) | exact .inr (.inr rfl))) (r_frz r_int))) r_nil))))))))
theorem sc_are_numbers : FnScope ["book", "names", "thing", "place"] ["book", "names", "thing"] (defScope (top 46)) := ⟨rfl, rfl, rfl, by decide +kernel, rfl, by decide +kernel, by decide +kernel⟩
theorem b_are_numbers {C : KM} {xNoPlace : Addr} (T : Txt C xNoPlace) (F_is_place_of : Fn C 2 "is_place_of" g_is_place_of) (F_is_number_of : Fn C 3 "is_number_of" g_is_number_of) (base : Heap) (f : Addr) (cdv : Value) (A : Around) (outer : List Env) (s : Shared) (H : Hp) (E : XK) (vs : List V) (W : WX) (g : Go (CxD C base ["book", "names", "thing", "place"] "are_numbers" (defScope (top 46)) f cdv A outer s H E) ⟨C, vs, [0, 1, 2]⟩ W 3) : PSs (CxD C base ["book", "names", "thing", "place"] "are_numbers" (defScope (top 46)) f cdv A outer s H E) (defBody (top 46)) (tS ⟨C, vs, [0, 1, 2]⟩ W m_are_numbers) :=
  (rs_cons (rs_if (rt_not (rt_bl (r_isi g.toSt0 .tDic (r_varA 2 rfl (by first | exact .inl rfl | exact .inr (.inl rfl) | exact .inr (.inr rfl))) T.n_isinstance T.n_dict rfl rfl (by rfl) (by rfl)))) (rs_one (rs_ret r_bl)) rs_nil)
  (rs_one (rs_ret (r_cb g.toSt0 (call_allD g.cm) T.n_all (by rfl) rfl (r_cons (r_frz (r_lcE g 2 [("place", 3)] (.nm 3) rfl (by first | exact .inl rfl | exact .inr (.inl rfl) | exact .inr (.inr rfl)) (blkOk_by (N := ["book", "names", "thing", "place"]) (sc := defScope (top 46)) (by decide +kernel)) (fun _ _ _ _ _ => (rg_nm (g.blk ..).toSt0 3 rfl (by first | exact .inl rfl | exact .inr rfl))) (fun _ _ _ _ _ g => rts_nil) (fun _ _ _ _ _ g => (r_and (r_call g F_is_place_of (by decide) rfl (r_cons (r_varA 0 rfl (by first | exact .inl rfl | exact .inr (.inl rfl) | exact .inr (.inr rfl))) (r_cons (r_varA 1 rfl (by first | exact .inl rfl | exact .inr (.inl rfl) | exact .inr (.inr rfl))) (r_cons (r_varA 3 rfl (by first | exact .inl rfl | exact .inr (.inl rfl) | exact .inr (.inr rfl))) r_nil)))) (r_one (r_call g F_is_number_of (by decide) rfl (r_cons (r_frz (r_fld g.toSt0 cs_world T.f_world (r_varA 0 rfl (by first | exact .inl rfl | exact .inr (.inl rfl) | exact .inr (.inr rfl))))) (r_cons (r_frz (r_ix g.toSt0 (r_varA 2 rfl (by first | exact .inl rfl | exact .inr (.inl rfl) | exact .inr (.inr rfl))) (r_varA 3 rfl (by first | exact .inl rfl | exact .inr (.inl rfl) | exact .inr (.inr rfl))))) r_nil)))))))) r_nil)))))
theorem sc_Party__init : FnScope ["self", "book", "names", "numbers"] ["self", "book", "names", "numbers"] (defScope (inClass (top 47) 0)) := ⟨rfl, rfl, rfl, by decide +kernel, rfl, by decide +kernel, by decide +kernel⟩
theorem b_Party__init {C : KM} {xNoPlace : Addr} (T : Txt C xNoPlace) (F_are_names : Fn C 3 "are_names" g_are_names) (F_are_numbers : Fn C 4 "are_numbers" g_are_numbers) (base : Heap) (f : Addr) (cdv : Value) (A : Around) (outer : List Env) (s : Shared) (H : Hp) (E : XK) (vs : List V) (W : WX) (g : Go (CxD C base ["self", "book", "names", "numbers"] "Party.__init__" (defScope (inClass (top 47) 0)) f cdv A outer s H E) ⟨C, vs, [0, 1, 2, 3]⟩ W 4) : PSs (CxD C base ["self", "book", "names", "numbers"] "Party.__init__" (defScope (inClass (top 47) 0)) f cdv A outer s H E) (defBody (inClass (top 47) 0)) (tS ⟨C, vs, [0, 1, 2, 3]⟩ W m_Party__init) :=
  (rs_cons (rs_if (rt_not (rt_bl (r_call g F_are_names (by decide) rfl (r_cons (r_varA 2 rfl (by first | exact .inl rfl | exact .inr (.inl rfl) | exact .inr (.inr rfl))) r_nil)))) (rs_one rs_bad) rs_nil)
  (rs_cons (rs_if (rt_not (rt_bl (r_call g F_are_numbers (by decide) rfl (r_cons (r_varA 1 rfl (by first | exact .inl rfl | exact .inr (.inl rfl) | exact .inr (.inr rfl))) (r_cons (r_varA 2 rfl (by first | exact .inl rfl | exact .inr (.inl rfl) | exact .inr (.inr rfl))) (r_cons (r_varA 3 rfl (by first | exact .inl rfl | exact .inr (.inl rfl) | exact .inr (.inr rfl))) r_nil)))))) (rs_one rs_bad) rs_nil)
  (rs_cons (rs_fld g.toSt0 0 cs_book T.f_book rfl (by first | exact .inl rfl | exact .inr (.inl rfl) | exact .inr (.inr rfl)) (r_varE 1 rfl (by first | exact .inl rfl | exact .inr (.inl rfl) | exact .inr (.inr rfl))))
  (rs_cons (rs_fld g.toSt0 0 cs_names T.f_names rfl (by first | exact .inl rfl | exact .inr (.inl rfl) | exact .inr (.inr rfl)) (r_varE 2 rfl (by first | exact .inl rfl | exact .inr (.inl rfl) | exact .inr (.inr rfl))))
  (rs_one (rs_fld g.toSt0 0 cs_kept T.f_kept rfl (by first | exact .inl rfl | exact .inr (.inl rfl) | exact .inr (.inr rfl)) (r_copy g.toSt0 (r_varA 3 rfl (by first | exact .inl rfl | exact .inr (.inl rfl) | exact .inr (.inr rfl))))))))))
theorem sc__law_words : FnScope ["_law_feed_here", "_law_signs", "_law_many", "_law_found", "_law_turn", "_law_most", "_law_word", "_law_sign"] ["_law_feed_here", "_law_signs", "_law_many"] (defScope (top 59)) := ⟨rfl, rfl, rfl, by decide +kernel, rfl, by decide +kernel, by decide +kernel⟩
theorem b__law_words {C : KM} {xNoPlace : Addr} (T : Txt C xNoPlace) (F__law_draw : Fn C 1 "_law_draw" g__law_draw) (base : Heap) (f : Addr) (cdv : Value) (A : Around) (outer : List Env) (s : Shared) (H : Hp) (E : XK) (vs : List V) (W : WX) (g : Go (CxD C base ["_law_feed_here", "_law_signs", "_law_many", "_law_found", "_law_turn", "_law_most", "_law_word", "_law_sign"] "_law_words" (defScope (top 59)) f cdv A outer s H E) ⟨C, vs, [0, 1, 2]⟩ W 1) : PSs (CxD C base ["_law_feed_here", "_law_signs", "_law_many", "_law_found", "_law_turn", "_law_most", "_law_word", "_law_sign"] "_law_words" (defScope (top 59)) f cdv A outer s H E) (defBody (top 59)) (tS ⟨C, vs, [0, 1, 2]⟩ W m__law_words) :=
  (rs_cons (rs_set g.toSt0 3 (show (3 : Nat) ∉ [0, 1, 2] by decide) rfl (by first | exact .inl rfl | exact .inr rfl) (r_lst r_nil))
  (rs_cons (rs_for g (.nm 4) (show (4 : Nat) ∉ [0, 1, 2] by decide) (ri_rng1 g.toSt0 T.n_range rfl (r_cons (r_varA 2 rfl (by first | exact .inl rfl | exact .inr (.inl rfl) | exact .inr (.inr rfl))) r_nil)) (rg_nm g.toSt0 4 rfl (by first | exact .inl rfl | exact .inr rfl)) (rs_cons (rs_set g.toSt0 5 (show (5 : Nat) ∉ [0, 1, 2] by decide) rfl (by first | exact .inl rfl | exact .inr rfl) (r_bin g.toSt0 rfl (r_frz r_int) (r_frz (r_bin g.toSt0 rfl (r_frz r_int) (r_frz (r_cty g.toSt0 (call_intD) T.n_int (by rfl) rfl (r_cons (r_frz (r_cmp g.toSt0 rfl (r_frz (r_call g F__law_draw (by decide) rfl (r_cons (r_varA 0 rfl (by first | exact .inl rfl | exact .inr (.inl rfl) | exact .inr (.inr rfl))) (r_cons (r_frz r_int) r_nil)))) (r_frz r_int))) r_nil)))))))
  (rs_cons (rs_set g.toSt0 6 (show (6 : Nat) ∉ [0, 1, 2] by decide) rfl (by first | exact .inl rfl | exact .inr rfl) (r_join g.toSt0 (r_frz (r_lc g [("_law_sign", 7)] (.nm 7) (show (7 : Nat) ∉ [0, 1, 2] by decide) (show ∀ i ∈ [0, 1, 2], i ∉ [7] by decide) (show (7 : Nat) ∈ [7] by decide) (ri_rng1 g.toSt0 T.n_range rfl (r_cons (r_frz (r_bin g.toSt0 rfl (r_frz r_int) (r_frz (r_call g F__law_draw (by decide) rfl (r_cons (r_varA 0 rfl (by first | exact .inl rfl | exact .inr (.inl rfl) | exact .inr (.inr rfl))) (r_cons (r_varA 5 rfl (by first | exact .inl rfl | exact .inr (.inl rfl) | exact .inr (.inr rfl))) r_nil)))))) r_nil)) (blkOk_by (N := ["_law_feed_here", "_law_signs", "_law_many", "_law_found", "_law_turn", "_law_most", "_law_word", "_law_sign"]) (sc := defScope (top 59)) (by decide +kernel)) (fun _ _ _ _ _ => (rg_nm (g.blk ..).toSt0 7 rfl (by first | exact .inl rfl | exact .inr rfl))) (fun _ _ _ _ _ g => rts_nil) (fun _ _ _ _ _ g => (r_ix g.toSt0 (r_varA 1 rfl (by first | exact .inl rfl | exact .inr (.inl rfl) | exact .inr (.inr rfl))) (r_frz (r_call g F__law_draw (by decide) rfl (r_cons (r_varA 0 rfl (by first | exact .inl rfl | exact .inr (.inl rfl) | exact .inr (.inr rfl))) (r_cons (r_frz r_int) r_nil))))))))))
  (rs_one (rs_if (rt_cmp g.toSt0 rfl (r_varA 6 rfl (by first | exact .inl rfl | exact .inr (.inl rfl) | exact .inr (.inr rfl))) (r_varA 3 rfl (by first | exact .inl rfl | exact .inr (.inl rfl) | exact .inr (.inr rfl)))) (rs_one (rs_expr (r_append g.toSt0 3 rfl (by first | exact .inl rfl | exact .inr (.inl rfl) | exact .inr (.inr rfl)) (r_cons (r_frz (r_varE 6 rfl (by first | exact .inl rfl | exact .inr (.inl rfl) | exact .inr (.inr rfl)))) r_nil)))) rs_nil)))))
  (rs_one (rs_ret (r_cty g.toSt0 (call_tupleD g.k.symm) T.n_tuple (by rfl) rfl (r_cons (r_frz (r_cb g.toSt0 (call_sortX g.k.symm) T.n_sorted (by rfl) rfl (r_cons (r_varA 3 rfl (by first | exact .inl rfl | exact .inr (.inl rfl) | exact .inr (.inr rfl))) r_nil))) r_nil))))))
theorem sc__law_people : FnScope ["_law_feed_here", "_law_many"] ["_law_feed_here", "_law_many"] (defScope (top 60)) := ⟨rfl, rfl, rfl, by decide +kernel, rfl, by decide +kernel, by decide +kernel⟩
theorem b__law_people {C : KM} {xNoPlace : Addr} (T : Txt C xNoPlace) (F__law_words : Fn C 2 "_law_words" g__law_words) (base : Heap) (f : Addr) (cdv : Value) (A : Around) (outer : List Env) (s : Shared) (H : Hp) (E : XK) (vs : List V) (W : WX) (g : Go (CxD C base ["_law_feed_here", "_law_many"] "_law_people" (defScope (top 60)) f cdv A outer s H E) ⟨C, vs, [0, 1]⟩ W 2) : PSs (CxD C base ["_law_feed_here", "_law_many"] "_law_people" (defScope (top 60)) f cdv A outer s H E) (defBody (top 60)) (tS ⟨C, vs, [0, 1]⟩ W m__law_people) :=
  (rs_one (rs_ret (r_call g F__law_words (by decide) rfl (r_cons (r_varA 0 rfl (by first | exact .inl rfl | exact .inr (.inl rfl) | exact .inr (.inr rfl))) (r_cons (r_frz r_str) (r_cons (r_varA 1 rfl (by first | exact .inl rfl | exact .inr (.inl rfl) | exact .inr (.inr rfl))) r_nil))))))
theorem sc__law_ranks : FnScope ["_law_row", "_law_found", "_law_one", "_law_other"] ["_law_row"] (defScope (top 62)) := ⟨rfl, rfl, rfl, by decide +kernel, rfl, by decide +kernel, by decide +kernel⟩
theorem b__law_ranks {C : KM} {xNoPlace : Addr} (T : Txt C xNoPlace)  (base : Heap) (f : Addr) (cdv : Value) (A : Around) (outer : List Env) (s : Shared) (H : Hp) (E : XK) (vs : List V) (W : WX) (g : Go (CxD C base ["_law_row", "_law_found", "_law_one", "_law_other"] "_law_ranks" (defScope (top 62)) f cdv A outer s H E) ⟨C, vs, [0]⟩ W 0) : PSs (CxD C base ["_law_row", "_law_found", "_law_one", "_law_other"] "_law_ranks" (defScope (top 62)) f cdv A outer s H E) (defBody (top 62)) (tS ⟨C, vs, [0]⟩ W m__law_ranks) :=
  (rs_cons (rs_set g.toSt0 1 (show (1 : Nat) ∉ [0] by decide) rfl (by first | exact .inl rfl | exact .inr rfl) (r_lst r_nil))
  (rs_cons (rs_for g (.nm 2) (show (2 : Nat) ∉ [0] by decide) (ri_val g.toSt0 (r_frz (r_varE 0 rfl (by first | exact .inl rfl | exact .inr (.inl rfl) | exact .inr (.inr rfl))))) (rg_nm g.toSt0 2 rfl (by first | exact .inl rfl | exact .inr rfl)) (rs_one (rs_if (rt_cmp g.toSt0 rfl (r_varA 2 rfl (by first | exact .inl rfl | exact .inr (.inl rfl) | exact .inr (.inr rfl))) (r_frz r_str)) (rs_one (rs_expr (r_append g.toSt0 1 rfl (by first | exact .inl rfl | exact .inr (.inl rfl) | exact .inr (.inr rfl)) (r_cons (r_frz (r_cty g.toSt0 (call_strD) T.n_str (by rfl) rfl (r_cons (r_frz (r_cb g.toSt0 (call_lenDD g.k.symm) T.n_len (by rfl) rfl (r_cons (r_frz (r_lc g [("_law_other", 3)] (.nm 3) (show (3 : Nat) ∉ [0] by decide) (show ∀ i ∈ [0], i ∉ [3] by decide) (show (3 : Nat) ∈ [3] by decide) (ri_val g.toSt0 (r_frz (r_varE 0 rfl (by first | exact .inl rfl | exact .inr (.inl rfl) | exact .inr (.inr rfl))))) (blkOk_by (N := ["_law_row", "_law_found", "_law_one", "_law_other"]) (sc := defScope (top 62)) (by decide +kernel)) (fun _ _ _ _ _ => (rg_nm (g.blk ..).toSt0 3 rfl (by first | exact .inl rfl | exact .inr rfl))) (fun _ _ _ _ _ g => (rts_one (PW.pt (rt_and (rt_cmp g.toSt0 rfl (r_varA 3 rfl (by first | exact .inl rfl | exact .inr (.inl rfl) | exact .inr (.inr rfl))) (r_frz r_str)) (rt_and1 (rt_cmp g.toSt0 rfl (r_varA 3 rfl (by first | exact .inl rfl | exact .inr (.inl rfl) | exact .inr (.inr rfl))) (r_varA 2 rfl (by first | exact .inl rfl | exact .inr (.inl rfl) | exact .inr (.inr rfl))))))))) (fun _ _ _ _ _ g => (r_varE 3 rfl (by first | exact .inl rfl | exact .inr (.inl rfl) | exact .inr (.inr rfl)))))) r_nil))) r_nil))) r_nil)))) (rs_one (rs_expr (r_append g.toSt0 1 rfl (by first | exact .inl rfl | exact .inr (.inl rfl) | exact .inr (.inr rfl)) (r_cons (r_frz (r_varE 2 rfl (by first | exact .inl rfl | exact .inr (.inl rfl) | exact .inr (.inr rfl)))) r_nil)))))))
  (rs_one (rs_ret (r_cty g.toSt0 (call_tupleD g.k.symm) T.n_tuple (by rfl) rfl (r_cons (r_varA 1 rfl (by first | exact .inl rfl | exact .inr (.inl rfl) | exact .inr (.inr rfl))) r_nil))))))
theorem sc_is_world : FnScope ["thing"] ["thing"] (defScope (top 26)) := ⟨rfl, rfl, rfl, by decide +kernel, rfl, by decide +kernel, by decide +kernel⟩
theorem b_is_world {C : KM} {xNoPlace : Addr} (T : Txt C xNoPlace) (F_is_within : Fn C 2 "is_within" g_is_within) (base : Heap) (f : Addr) (cdv : Value) (A : Around) (outer : List Env) (s : Shared) (H : Hp) (E : XK) (vs : List V) (W : WX) (g : Go (CxD C base ["thing"] "is_world" (defScope (top 26)) f cdv A outer s H E) ⟨C, vs, [0]⟩ W 2) : PSs (CxD C base ["thing"] "is_world" (defScope (top 26)) f cdv A outer s H E) (defBody (top 26)) (tS ⟨C, vs, [0]⟩ W m_is_world) :=
  (rs_one (rs_ret (r_call g F_is_within (by decide) rfl (r_cons (r_varA 0 rfl (by first | exact .inl rfl | exact .inr (.inl rfl) | exact .inr (.inr rfl))) (r_cons (r_frz (r_gInt g.toSt0 T.c_WHOLE rfl)) (r_cons (r_frz (r_gInt g.toSt0 T.c_MOST_HOURS rfl)) r_nil))))))
theorem sc_is_table : FnScope ["thing"] ["thing"] (defScope (top 36)) := ⟨rfl, rfl, rfl, by decide +kernel, rfl, by decide +kernel, by decide +kernel⟩
theorem b_is_table {C : KM} {xNoPlace : Addr} (T : Txt C xNoPlace) (F_is_pair : Fn C 1 "is_pair" g_is_pair) (F_is_label : Fn C 2 "is_label" g_is_label) (F_is_within : Fn C 2 "is_within" g_is_within) (base : Heap) (f : Addr) (cdv : Value) (A : Around) (outer : List Env) (s : Shared) (H : Hp) (E : XK) (vs : List V) (W : WX) (g : Go (CxD C base ["thing"] "is_table" (defScope (top 36)) f cdv A outer s H E) ⟨C, vs, [0]⟩ W 2) : PSs (CxD C base ["thing"] "is_table" (defScope (top 36)) f cdv A outer s H E) (defBody (top 36)) (tS ⟨C, vs, [0]⟩ W m_is_table) :=
  (rs_one (rs_ret (r_and (r_call g F_is_pair (by decide) rfl (r_cons (r_varA 0 rfl (by first | exact .inl rfl | exact .inr (.inl rfl) | exact .inr (.inr rfl))) r_nil)) (r_and (r_call g F_is_label (by decide) rfl (r_cons (r_frz (r_ix g.toSt0 (r_varA 0 rfl (by first | exact .inl rfl | exact .inr (.inl rfl) | exact .inr (.inr rfl))) (r_frz r_int))) r_nil)) (r_one (r_call g F_is_within (by decide) rfl (r_cons (r_frz (r_ix g.toSt0 (r_varA 0 rfl (by first | exact .inl rfl | exact .inr (.inl rfl) | exact .inr (.inr rfl))) (r_frz r_int))) (r_cons (r_frz r_int) (r_cons (r_frz (r_gInt g.toSt0 T.c_MOST_SIZE_books rfl)) r_nil)))))))))
theorem sc_are_tables : FnScope ["thing", "one", "labels"] ["thing"] (defScope (top 37)) := ⟨rfl, rfl, rfl, by decide +kernel, rfl, by decide +kernel, by decide +kernel⟩
theorem b_are_tables {C : KM} {xNoPlace : Addr} (T : Txt C xNoPlace) (F_is_table : Fn C 3 "is_table" g_is_table) (F_are_unlike : Fn C 1 "are_unlike" g_are_unlike) (base : Heap) (f : Addr) (cdv : Value) (A : Around) (outer : List Env) (s : Shared) (H : Hp) (E : XK) (vs : List V) (W : WX) (g : Go (CxD C base ["thing", "one", "labels"] "are_tables" (defScope (top 37)) f cdv A outer s H E) ⟨C, vs, [0]⟩ W 3) : PSs (CxD C base ["thing", "one", "labels"] "are_tables" (defScope (top 37)) f cdv A outer s H E) (defBody (top 37)) (tS ⟨C, vs, [0]⟩ W m_are_tables) :=
  (rs_cons (rs_if (PW.pt (rt_or (rt_not (rt_bl (r_isi g.toSt0 .tTup (r_varA 0 rfl (by first | exact .inl rfl | exact .inr (.inl rfl) | exact .inr (.inr rfl))) T.n_isinstance T.n_tuple rfl rfl (by rfl) (by rfl)))) (rt_or (rt_not (rt_chain g.toSt0 rfl rfl (r_frz r_int) (r_frz (r_cb g.toSt0 (call_lenDD g.k.symm) T.n_len (by rfl) rfl (r_cons (r_varA 0 rfl (by first | exact .inl rfl | exact .inr (.inl rfl) | exact .inr (.inr rfl))) r_nil))) (r_frz (r_gInt g.toSt0 T.c_MOST_TABLES rfl)))) (rt_or1 (rt_not (rt_bl (r_cb g.toSt0 (call_allD g.cm) T.n_all (by rfl) rfl (r_cons (r_frz (r_lc g [("one", 1)] (.nm 1) (show (1 : Nat) ∉ [0] by decide) (show ∀ i ∈ [0], i ∉ [1] by decide) (show (1 : Nat) ∈ [1] by decide) (ri_val g.toSt0 (r_frz (r_varE 0 rfl (by first | exact .inl rfl | exact .inr (.inl rfl) | exact .inr (.inr rfl))))) (blkOk_by (N := ["thing", "one", "labels"]) (sc := defScope (top 37)) (by decide +kernel)) (fun _ _ _ _ _ => (rg_nm (g.blk ..).toSt0 1 rfl (by first | exact .inl rfl | exact .inr rfl))) (fun _ _ _ _ _ g => rts_nil) (fun _ _ _ _ _ g => (r_call g F_is_table (by decide) rfl (r_cons (r_varA 1 rfl (by first | exact .inl rfl | exact .inr (.inl rfl) | exact .inr (.inr rfl))) r_nil))))) r_nil)))))))) (rs_one (rs_ret r_bl)) rs_nil)
  (rs_cons (rs_lc g 2 [("one", 1)] (.nm 1) (show (2 : Nat) ∉ [0] by decide) (show (1 : Nat) ∉ [0] by decide) (show ∀ i ∈ [0], i ∉ [1] by decide) (show (1 : Nat) ∈ [1] by decide) rfl rfl (sw_true rfl rfl rfl (by decide +kernel)) (ri_val g.toSt0 (r_frz (r_varE 0 rfl (by first | exact .inl rfl | exact .inr (.inl rfl) | exact .inr (.inr rfl))))) (blkOk_by (N := ["thing", "one", "labels"]) (sc := defScope (top 37)) (by decide +kernel)) (fun _ _ _ _ _ => (rg_nm (g.blk ..).toSt0 1 rfl (by first | exact .inl rfl | exact .inr rfl))) (fun _ _ _ _ _ g => rts_nil) (fun _ _ _ _ _ g => (r_ix g.toSt0 (r_varA 1 rfl (by first | exact .inl rfl | exact .inr (.inl rfl) | exact .inr (.inr rfl))) (r_frz r_int))))
  (rs_cons (rs_if (PW.pt (rt_or (rt_cmp g.toSt0 rfl (r_varA 2 rfl (by first | exact .inl rfl | exact .inr (.inl rfl) | exact .inr (.inr rfl))) (r_frz (r_cb g.toSt0 (call_sortX g.k.symm) T.n_sorted (by rfl) rfl (r_cons (r_varA 2 rfl (by first | exact .inl rfl | exact .inr (.inl rfl) | exact .inr (.inr rfl))) r_nil)))) (rt_or1 (rt_not (rt_bl (r_call g F_are_unlike (by decide) rfl (r_cons (r_varA 2 rfl (by first | exact .inl rfl | exact .inr (.inl rfl) | exact .inr (.inr rfl))) r_nil))))))) (rs_one (rs_ret r_bl)) rs_nil)
  (rs_one (rs_ret (r_cmp g.toSt0 rfl (r_frz (r_cb g.toSt0 (call_lenDD g.k.symm) T.n_len (by rfl) rfl (r_cons (r_frz (r_lc g [("one", 1)] (.nm 1) (show (1 : Nat) ∉ [0] by decide) (show ∀ i ∈ [0], i ∉ [1] by decide) (show (1 : Nat) ∈ [1] by decide) (ri_val g.toSt0 (r_frz (r_varE 0 rfl (by first | exact .inl rfl | exact .inr (.inl rfl) | exact .inr (.inr rfl))))) (blkOk_by (N := ["thing", "one", "labels"]) (sc := defScope (top 37)) (by decide +kernel)) (fun _ _ _ _ _ => (rg_nm (g.blk ..).toSt0 1 rfl (by first | exact .inl rfl | exact .inr rfl))) (fun _ _ _ _ _ g => (rts_one (rt_cmp g.toSt0 rfl (r_frz (r_ix g.toSt0 (r_varA 1 rfl (by first | exact .inl rfl | exact .inr (.inl rfl) | exact .inr (.inr rfl))) (r_frz r_int))) (r_frz (r_gInt g.toSt0 T.c_MOST_SIZE_books rfl))))) (fun _ _ _ _ _ g => (r_varE 1 rfl (by first | exact .inl rfl | exact .inr (.inl rfl) | exact .inr (.inr rfl)))))) r_nil))) (r_frz r_int)))))))
theorem sc_is_term : FnScope ["known", "thing", "letter"] ["known", "thing"] (defScope (top 38)) := ⟨rfl, rfl, rfl, by decide +kernel, rfl, by decide +kernel, by decide +kernel⟩
theorem b_is_term {C : KM} {xNoPlace : Addr} (T : Txt C xNoPlace) (F_is_within : Fn C 2 "is_within" g_is_within) (F_are_unlike : Fn C 1 "are_unlike" g_are_unlike) (base : Heap) (f : Addr) (cdv : Value) (A : Around) (outer : List Env) (s : Shared) (H : Hp) (E : XK) (vs : List V) (W : WX) (g : Go (CxD C base ["known", "thing", "letter"] "is_term" (defScope (top 38)) f cdv A outer s H E) ⟨C, vs, [0, 1]⟩ W 2) : PSs (CxD C base ["known", "thing", "letter"] "is_term" (defScope (top 38)) f cdv A outer s H E) (defBody (top 38)) (tS ⟨C, vs, [0, 1]⟩ W m_is_term) :=
  (rs_cons (rs_if (PW.pt (rt_or (rt_not (rt_bl (r_isi g.toSt0 .tTup (r_varA 1 rfl (by first | exact .inl rfl | exact .inr (.inl rfl) | exact .inr (.inr rfl))) T.n_isinstance T.n_tuple rfl rfl (by rfl) (by rfl)))) (rt_or (rt_cmp g.toSt0 rfl (r_frz (r_cb g.toSt0 (call_lenDD g.k.symm) T.n_len (by rfl) rfl (r_cons (r_varA 1 rfl (by first | exact .inl rfl | exact .inr (.inl rfl) | exact .inr (.inr rfl))) r_nil))) (r_frz r_int)) (rt_or1 (rt_not (rt_bl (r_call g F_is_within (by decide) rfl (r_cons (r_frz (r_ix g.toSt0 (r_varA 1 rfl (by first | exact .inl rfl | exact .inr (.inl rfl) | exact .inr (.inr rfl))) (r_frz r_int))) (r_cons (r_frz (r_neg (r_frz (r_gInt g.toSt0 T.c_MOST_FACTOR rfl)))) (r_cons (r_frz (r_gInt g.toSt0 T.c_MOST_FACTOR rfl)) r_nil)))))))))) (rs_one (rs_ret r_bl)) rs_nil)
  (rs_cons (rs_if (PW.pt (rt_or (rt_cmp g.toSt0 rfl (r_frz (r_ix g.toSt0 (r_varA 1 rfl (by first | exact .inl rfl | exact .inr (.inl rfl) | exact .inr (.inr rfl))) (r_frz r_int))) (r_frz r_int)) (rt_or (rt_not (rt_bl (r_isi g.toSt0 .tStr (r_frz (r_ix g.toSt0 (r_varA 1 rfl (by first | exact .inl rfl | exact .inr (.inl rfl) | exact .inr (.inr rfl))) (r_frz r_int))) T.n_isinstance T.n_str rfl rfl (by rfl) (by rfl)))) (rt_or (rt_cmp g.toSt0 rfl (r_frz (r_ix g.toSt0 (r_varA 1 rfl (by first | exact .inl rfl | exact .inr (.inl rfl) | exact .inr (.inr rfl))) (r_frz r_int))) (r_varA 0 rfl (by first | exact .inl rfl | exact .inr (.inl rfl) | exact .inr (.inr rfl)))) (rt_or1 (rt_not (rt_bl (r_isi g.toSt0 .tStr (r_frz (r_ix g.toSt0 (r_varA 1 rfl (by first | exact .inl rfl | exact .inr (.inl rfl) | exact .inr (.inr rfl))) (r_frz r_int))) T.n_isinstance T.n_str rfl rfl (by rfl) (by rfl))))))))) (rs_one (rs_ret r_bl)) rs_nil)
  (rs_cons (rs_if (PW.pt (rt_or (rt_cmp g.toSt0 rfl (r_frz (r_cb g.toSt0 (call_lenDD g.k.symm) T.n_len (by rfl) rfl (r_cons (r_frz (r_ix g.toSt0 (r_varA 1 rfl (by first | exact .inl rfl | exact .inr (.inl rfl) | exact .inr (.inr rfl))) (r_frz r_int))) r_nil))) (r_frz (r_ix g.toSt0 (r_varA 0 rfl (by first | exact .inl rfl | exact .inr (.inl rfl) | exact .inr (.inr rfl))) (r_frz (r_ix g.toSt0 (r_varA 1 rfl (by first | exact .inl rfl | exact .inr (.inl rfl) | exact .inr (.inr rfl))) (r_frz r_int)))))) (rt_or1 (rt_not (rt_bl (r_call g F_are_unlike (by decide) rfl (r_cons (r_frz (r_ix g.toSt0 (r_varA 1 rfl (by first | exact .inl rfl | exact .inr (.inl rfl) | exact .inr (.inr rfl))) (r_frz r_int))) r_nil))))))) (rs_one (rs_ret r_bl)) rs_nil)
  (rs_one (rs_ret (r_cb g.toSt0 (call_allD g.cm) T.n_all (by rfl) rfl (r_cons (r_frz (r_lc g [("letter", 2)] (.nm 2) (show (2 : Nat) ∉ [0, 1] by decide) (show ∀ i ∈ [0, 1], i ∉ [2] by decide) (show (2 : Nat) ∈ [2] by decide) (ri_val g.toSt0 (r_frz (r_ix g.toSt0 (r_varA 1 rfl (by first | exact .inl rfl | exact .inr (.inl rfl) | exact .inr (.inr rfl))) (r_frz r_int)))) (blkOk_by (N := ["known", "thing", "letter"]) (sc := defScope (top 38)) (by decide +kernel)) (fun _ _ _ _ _ => (rg_nm (g.blk ..).toSt0 2 rfl (by first | exact .inl rfl | exact .inr rfl))) (fun _ _ _ _ _ g => rts_nil) (fun _ _ _ _ _ g => (r_cmp g.toSt0 rfl (r_varA 2 rfl (by first | exact .inl rfl | exact .inr (.inl rfl) | exact .inr (.inr rfl))) (r_frz (r_gStr g.toSt0 T.c_LETTERS rfl)))))) r_nil)))))))
theorem sc_is_demand : FnScope ["known", "thing", "term"] ["known", "thing"] (defScope (top 39)) := ⟨rfl, rfl, rfl, by decide +kernel, rfl, by decide +kernel, by decide +kernel⟩
theorem b_is_demand {C : KM} {xNoPlace : Addr} (T : Txt C xNoPlace) (F_is_pair : Fn C 1 "is_pair" g_is_pair) (F_is_term : Fn C 3 "is_term" g_is_term) (F_is_within : Fn C 2 "is_within" g_is_within) (base : Heap) (f : Addr) (cdv : Value) (A : Around) (outer : List Env) (s : Shared) (H : Hp) (E : XK) (vs : List V) (W : WX) (g : Go (CxD C base ["known", "thing", "term"] "is_demand" (defScope (top 39)) f cdv A outer s H E) ⟨C, vs, [0, 1]⟩ W 3) : PSs (CxD C base ["known", "thing", "term"] "is_demand" (defScope (top 39)) f cdv A outer s H E) (defBody (top 39)) (tS ⟨C, vs, [0, 1]⟩ W m_is_demand) :=
  (rs_cons (rs_if (PW.pt (rt_or (rt_not (rt_bl (r_call g F_is_pair (by decide) rfl (r_cons (r_varA 1 rfl (by first | exact .inl rfl | exact .inr (.inl rfl) | exact .inr (.inr rfl))) r_nil)))) (rt_or (rt_not (rt_bl (r_isi g.toSt0 .tTup (r_frz (r_ix g.toSt0 (r_varA 1 rfl (by first | exact .inl rfl | exact .inr (.inl rfl) | exact .inr (.inr rfl))) (r_frz r_int))) T.n_isinstance T.n_tuple rfl rfl (by rfl) (by rfl)))) (rt_or1 (rt_not (rt_chain g.toSt0 rfl rfl (r_frz r_int) (r_frz (r_cb g.toSt0 (call_lenDD g.k.symm) T.n_len (by rfl) rfl (r_cons (r_frz (r_ix g.toSt0 (r_varA 1 rfl (by first | exact .inl rfl | exact .inr (.inl rfl) | exact .inr (.inr rfl))) (r_frz r_int))) r_nil))) (r_frz (r_gInt g.toSt0 T.c_MOST_TERMS rfl)))))))) (rs_one (rs_ret r_bl)) rs_nil)
  (rs_one (rs_ret (r_and (r_cb g.toSt0 (call_allD g.cm) T.n_all (by rfl) rfl (r_cons (r_frz (r_lc g [("term", 2)] (.nm 2) (show (2 : Nat) ∉ [0, 1] by decide) (show ∀ i ∈ [0, 1], i ∉ [2] by decide) (show (2 : Nat) ∈ [2] by decide) (ri_val g.toSt0 (r_frz (r_ix g.toSt0 (r_varA 1 rfl (by first | exact .inl rfl | exact .inr (.inl rfl) | exact .inr (.inr rfl))) (r_frz r_int)))) (blkOk_by (N := ["known", "thing", "term"]) (sc := defScope (top 39)) (by decide +kernel)) (fun _ _ _ _ _ => (rg_nm (g.blk ..).toSt0 2 rfl (by first | exact .inl rfl | exact .inr rfl))) (fun _ _ _ _ _ g => rts_nil) (fun _ _ _ _ _ g => (r_call g F_is_term (by decide) rfl (r_cons (r_varA 0 rfl (by first | exact .inl rfl | exact .inr (.inl rfl) | exact .inr (.inr rfl))) (r_cons (r_varA 2 rfl (by first | exact .inl rfl | exact .inr (.inl rfl) | exact .inr (.inr rfl))) r_nil)))))) r_nil)) (r_one (r_call g F_is_within (by decide) rfl (r_cons (r_frz (r_ix g.toSt0 (r_varA 1 rfl (by first | exact .inl rfl | exact .inr (.inl rfl) | exact .inr (.inr rfl))) (r_frz r_int))) (r_cons (r_frz (r_neg (r_frz (r_gInt g.toSt0 T.c_MOST_RIGHT rfl)))) (r_cons (r_frz (r_gInt g.toSt0 T.c_MOST_RIGHT rfl)) r_nil)))))))))
theorem sc_Book__init : FnScope ["self", "world", "tables", "demands", "demand"] ["self", "world", "tables", "demands"] (defScope (inClass (top 40) 0)) := ⟨rfl, rfl, rfl, by decide +kernel, rfl, by decide +kernel, by decide +kernel⟩
theorem b_Book__init {C : KM} {xNoPlace : Addr} (T : Txt C xNoPlace) (F_is_world : Fn C 3 "is_world" g_is_world) (F_are_tables : Fn C 4 "are_tables" g_are_tables) (F_is_demand : Fn C 4 "is_demand" g_is_demand) (base : Heap) (f : Addr) (cdv : Value) (A : Around) (outer : List Env) (s : Shared) (H : Hp) (E : XK) (vs : List V) (W : WX) (g : Go (CxD C base ["self", "world", "tables", "demands", "demand"] "Book.__init__" (defScope (inClass (top 40) 0)) f cdv A outer s H E) ⟨C, vs, [0, 1, 2, 3]⟩ W 4) : PSs (CxD C base ["self", "world", "tables", "demands", "demand"] "Book.__init__" (defScope (inClass (top 40) 0)) f cdv A outer s H E) (defBody (inClass (top 40) 0)) (tS ⟨C, vs, [0, 1, 2, 3]⟩ W m_Book__init) :=
  (rs_cons (rs_if (rt_not (rt_bl (r_call g F_is_world (by decide) rfl (r_cons (r_varA 1 rfl (by first | exact .inl rfl | exact .inr (.inl rfl) | exact .inr (.inr rfl))) r_nil)))) (rs_one rs_bad) rs_nil)
  (rs_cons (rs_if (rt_not (rt_bl (r_call g F_are_tables (by decide) rfl (r_cons (r_varA 2 rfl (by first | exact .inl rfl | exact .inr (.inl rfl) | exact .inr (.inr rfl))) r_nil)))) (rs_one rs_bad) rs_nil)
  (rs_cons (rs_if (PW.pt (rt_or (rt_not (rt_bl (r_isi g.toSt0 .tTup (r_varA 3 rfl (by first | exact .inl rfl | exact .inr (.inl rfl) | exact .inr (.inr rfl))) T.n_isinstance T.n_tuple rfl rfl (by rfl) (by rfl)))) (rt_or1 (rt_cmp g.toSt0 rfl (r_frz (r_cb g.toSt0 (call_lenDD g.k.symm) T.n_len (by rfl) rfl (r_cons (r_varA 3 rfl (by first | exact .inl rfl | exact .inr (.inl rfl) | exact .inr (.inr rfl))) r_nil))) (r_frz (r_gInt g.toSt0 T.c_MOST_DEMANDS rfl)))))) (rs_one rs_bad) rs_nil)
  (rs_cons (rs_if (rt_not (rt_bl (r_cb g.toSt0 (call_allD g.cm) T.n_all (by rfl) rfl (r_cons (r_frz (r_lc g [("demand", 4)] (.nm 4) (show (4 : Nat) ∉ [0, 1, 2, 3] by decide) (show ∀ i ∈ [0, 1, 2, 3], i ∉ [4] by decide) (show (4 : Nat) ∈ [4] by decide) (ri_val g.toSt0 (r_frz (r_varE 3 rfl (by first | exact .inl rfl | exact .inr (.inl rfl) | exact .inr (.inr rfl))))) (blkOk_by (N := ["self", "world", "tables", "demands", "demand"]) (sc := defScope (inClass (top 40) 0)) (by decide +kernel)) (fun _ _ _ _ _ => (rg_nm (g.blk ..).toSt0 4 rfl (by first | exact .inl rfl | exact .inr rfl))) (fun _ _ _ _ _ g => rts_nil) (fun _ _ _ _ _ g => (r_call g F_is_demand (by decide) rfl (r_cons (r_frz (r_cty g.toSt0 (call_dictDD g.k.symm g.cm) T.n_dict (by rfl) rfl (r_cons (r_varA 2 rfl (by first | exact .inl rfl | exact .inr (.inl rfl) | exact .inr (.inr rfl))) r_nil))) (r_cons (r_varA 4 rfl (by first | exact .inl rfl | exact .inr (.inl rfl) | exact .inr (.inr rfl))) r_nil)))))) r_nil)))) (rs_one rs_bad) rs_nil)
  (rs_cons (rs_fld g.toSt0 0 cs_world T.f_world rfl (by first | exact .inl rfl | exact .inr (.inl rfl) | exact .inr (.inr rfl)) (r_varE 1 rfl (by first | exact .inl rfl | exact .inr (.inl rfl) | exact .inr (.inr rfl))))
  (rs_cons (rs_fld g.toSt0 0 cs_tables T.f_tables rfl (by first | exact .inl rfl | exact .inr (.inl rfl) | exact .inr (.inr rfl)) (r_varE 2 rfl (by first | exact .inl rfl | exact .inr (.inl rfl) | exact .inr (.inr rfl))))
  (rs_one (rs_fld g.toSt0 0 cs_demands T.f_demands rfl (by first | exact .inl rfl | exact .inr (.inl rfl) | exact .inr (.inr rfl)) (r_varE 3 rfl (by first | exact .inl rfl | exact .inr (.inl rfl) | exact .inr (.inr rfl)))))))))))
theorem sc_arrangements : FnScope ["folk", "many", "found", "turn", "row", "one"] ["folk", "many"] (defScope (top 41)) := ⟨rfl, rfl, rfl, by decide +kernel, rfl, by decide +kernel, by decide +kernel⟩
theorem b_arrangements {C : KM} {xNoPlace : Addr} (T : Txt C xNoPlace)  (base : Heap) (f : Addr) (cdv : Value) (A : Around) (outer : List Env) (s : Shared) (H : Hp) (E : XK) (vs : List V) (W : WX) (g : Go (CxD C base ["folk", "many", "found", "turn", "row", "one"] "arrangements" (defScope (top 41)) f cdv A outer s H E) ⟨C, vs, [0, 1]⟩ W 0) : PSs (CxD C base ["folk", "many", "found", "turn", "row", "one"] "arrangements" (defScope (top 41)) f cdv A outer s H E) (defBody (top 41)) (tS ⟨C, vs, [0, 1]⟩ W m_arrangements) :=
  (rs_cons (rs_set g.toSt0 2 (show (2 : Nat) ∉ [0, 1] by decide) rfl (by first | exact .inl rfl | exact .inr rfl) (r_lst (r_cons (r_frz (r_tup r_nil)) r_nil)))
  (rs_cons (rs_for g (.nm 3) (show (3 : Nat) ∉ [0, 1] by decide) (ri_rng1 g.toSt0 T.n_range rfl (r_cons (r_varA 1 rfl (by first | exact .inl rfl | exact .inr (.inl rfl) | exact .inr (.inr rfl))) r_nil)) (rg_nm g.toSt0 3 rfl (by first | exact .inl rfl | exact .inr rfl)) (rs_one (rs_lc2 g 2 [("row", 4), ("one", 5)] [5] (.nm 4) (.nm 5) (show (2 : Nat) ∉ [0, 1] by decide) (show (4 : Nat) ∉ [0, 1] by decide) (show (5 : Nat) ∉ [0, 1] by decide) (show ∀ i ∈ [0, 1], i ∉ [4, 5] by decide) (show (4 : Nat) ∈ [4, 5] by decide) (show (5 : Nat) ∈ [5] by decide) (show ∀ i ∈ ([5] : List Nat), i ∈ ([4, 5] : List Nat) by decide) rfl rfl (sw_true rfl rfl rfl (by decide +kernel)) (ri_val g.toSt0 (r_frz (r_varE 2 rfl (by first | exact .inl rfl | exact .inr (.inl rfl) | exact .inr (.inr rfl))))) (blkOk_by (N := ["folk", "many", "found", "turn", "row", "one"]) (sc := defScope (top 41)) (by decide +kernel)) (fun _ _ _ _ _ => (rg_nm (g.blk ..).toSt0 4 rfl (by first | exact .inl rfl | exact .inr rfl))) (fun _ _ _ _ _ g => rts_nil) (fun _ _ _ _ _ g => (r_frz (r_varE 0 rfl (by first | exact .inl rfl | exact .inr (.inl rfl) | exact .inr (.inr rfl))))) (fun _ _ _ _ _ => (rg_nm (g.blk ..).toSt0 5 rfl (by first | exact .inl rfl | exact .inr rfl))) (fun _ _ _ _ _ g => (rts_one (rt_cmp g.toSt0 rfl (r_varA 5 rfl (by first | exact .inl rfl | exact .inr (.inl rfl) | exact .inr (.inr rfl))) (r_varA 4 rfl (by first | exact .inl rfl | exact .inr (.inl rfl) | exact .inr (.inr rfl)))))) (fun _ _ _ _ _ g => (r_bin g.toSt0 rfl (r_varA 4 rfl (by first | exact .inl rfl | exact .inr (.inl rfl) | exact .inr (.inr rfl))) (r_frz (r_tup (r_cons (r_frz (r_varE 5 rfl (by first | exact .inl rfl | exact .inr (.inl rfl) | exact .inr (.inr rfl)))) r_nil))))))))
  (rs_one (rs_ret (r_varM 2 2 rfl (by first | exact .inl rfl | exact .inr (.inl rfl) | exact .inr (.inr rfl)))))))
theorem sc_comers : FnScope ["many"] ["many"] (defScope (top 48)) := ⟨rfl, rfl, rfl, by decide +kernel, rfl, by decide +kernel, by decide +kernel⟩
theorem b_comers {C : KM} {xNoPlace : Addr} (T : Txt C xNoPlace)  (base : Heap) (f : Addr) (cdv : Value) (A : Around) (outer : List Env) (s : Shared) (H : Hp) (E : XK) (vs : List V) (W : WX) (g : Go (CxD C base ["many"] "comers" (defScope (top 48)) f cdv A outer s H E) ⟨C, vs, [0]⟩ W 0) : PSs (CxD C base ["many"] "comers" (defScope (top 48)) f cdv A outer s H E) (defBody (top 48)) (tS ⟨C, vs, [0]⟩ W m_comers) :=
  (rs_one (rs_ret (r_cty g.toSt0 (call_listY g.k.symm g.cm) T.n_list (by rfl) rfl (r_cons (r_frz (r_sl g.toSt0 (r_frz (r_gStr g.toSt0 T.c_FIGURES rfl)) r_noP (r_part (r_varE 0 rfl (by first | exact .inl rfl | exact .inr (.inl rfl) | exact .inr (.inr rfl)))))) r_nil))))
theorem sc_forms_of : FnScope ["book", "names", "found", "label", "size", "row"] ["book", "names"] (defScope (top 53)) := ⟨rfl, rfl, rfl, by decide +kernel, rfl, by decide +kernel, by decide +kernel⟩
theorem b_forms_of {C : KM} {xNoPlace : Addr} (T : Txt C xNoPlace) (F_arrangements : Fn C 1 "arrangements" g_arrangements) (F_comers : Fn C 1 "comers" g_comers) (F_ranked : Fn C 2 "ranked" g_ranked) (base : Heap) (f : Addr) (cdv : Value) (A : Around) (outer : List Env) (s : Shared) (H : Hp) (E : XK) (vs : List V) (W : WX) (g : Go (CxD C base ["book", "names", "found", "label", "size", "row"] "forms_of" (defScope (top 53)) f cdv A outer s H E) ⟨C, vs, [0, 1]⟩ W 2) : PSs (CxD C base ["book", "names", "found", "label", "size", "row"] "forms_of" (defScope (top 53)) f cdv A outer s H E) (defBody (top 53)) (tS ⟨C, vs, [0, 1]⟩ W m_forms_of) :=
  (rs_cons (rs_set g.toSt0 2 (show (2 : Nat) ∉ [0, 1] by decide) rfl (by first | exact .inl rfl | exact .inr rfl) (r_lst r_nil))
  (rs_cons (rs_for g (.tp [(.nm 3), (.nm 4)]) ⟨(show (3 : Nat) ∉ [0, 1] by decide), ⟨(show (4 : Nat) ∉ [0, 1] by decide), trivial⟩⟩ (ri_val g.toSt0 (r_frz (r_fld g.toSt0 cs_tables T.f_tables (r_varA 0 rfl (by first | exact .inl rfl | exact .inr (.inl rfl) | exact .inr (.inr rfl)))))) (rg_tup g.toSt0 g.cm (rg_cons (rg_nm g.toSt0 3 rfl (by first | exact .inl rfl | exact .inr rfl)) (rg_cons (rg_nm g.toSt0 4 rfl (by first | exact .inl rfl | exact .inr rfl)) rg_nil))) (rs_one (rs_for g (.nm 5) (show (5 : Nat) ∉ [0, 1] by decide) (ri_val g.toSt0 (r_frz (r_call g F_arrangements (by decide) rfl (r_cons (r_frz (r_bin g.toSt0 rfl (r_frz (r_call g F_comers (by decide) rfl (r_cons (r_frz (r_gInt g.toSt0 T.c_MOST_SIZE_rules rfl)) r_nil))) (r_frz (r_cty g.toSt0 (call_listY g.k.symm g.cm) T.n_list (by rfl) rfl (r_cons (r_varA 1 rfl (by first | exact .inl rfl | exact .inr (.inl rfl) | exact .inr (.inr rfl))) r_nil))))) (r_cons (r_varA 4 rfl (by first | exact .inl rfl | exact .inr (.inl rfl) | exact .inr (.inr rfl))) r_nil))))) (rg_nm g.toSt0 5 rfl (by first | exact .inl rfl | exact .inr rfl)) (rs_one (rs_if (rt_cmp g.toSt0 rfl (r_frz (r_call g F_ranked (by decide) rfl (r_cons (r_varA 5 rfl (by first | exact .inl rfl | exact .inr (.inl rfl) | exact .inr (.inr rfl))) r_nil))) (r_varA 5 rfl (by first | exact .inl rfl | exact .inr (.inl rfl) | exact .inr (.inr rfl)))) (rs_one (rs_expr (r_append g.toSt0 2 rfl (by first | exact .inl rfl | exact .inr (.inl rfl) | exact .inr (.inr rfl)) (r_cons (r_frz (r_tup (r_cons (r_frz (r_varE 3 rfl (by first | exact .inl rfl | exact .inr (.inl rfl) | exact .inr (.inr rfl)))) (r_cons (r_frz (r_varE 5 rfl (by first | exact .inl rfl | exact .inr (.inl rfl) | exact .inr (.inr rfl)))) r_nil)))) r_nil)))) rs_nil)))))
  (rs_one (rs_ret (r_varM 2 2 rfl (by first | exact .inl rfl | exact .inr (.inl rfl) | exact .inr (.inr rfl)))))))
theorem sc_forms : FnScope ["party"] ["party"] (defScope (top 54)) := ⟨rfl, rfl, rfl, by decide +kernel, rfl, by decide +kernel, by decide +kernel⟩
theorem b_forms {C : KM} {xNoPlace : Addr} (T : Txt C xNoPlace) (F_forms_of : Fn C 3 "forms_of" g_forms_of) (base : Heap) (f : Addr) (cdv : Value) (A : Around) (outer : List Env) (s : Shared) (H : Hp) (E : XK) (vs : List V) (W : WX) (g : Go (CxD C base ["party"] "forms" (defScope (top 54)) f cdv A outer s H E) ⟨C, vs, [0]⟩ W 3) : PSs (CxD C base ["party"] "forms" (defScope (top 54)) f cdv A outer s H E) (defBody (top 54)) (tS ⟨C, vs, [0]⟩ W m_forms) :=
  (rs_one (rs_ret (r_call g F_forms_of (by decide) rfl (r_cons (r_frz (r_fld g.toSt0 cs_book T.f_book (r_varA 0 rfl (by first | exact .inl rfl | exact .inr (.inl rfl) | exact .inr (.inr rfl))))) (r_cons (r_frz (r_fld g.toSt0 cs_names T.f_names (r_varA 0 rfl (by first | exact .inl rfl | exact .inr (.inl rfl) | exact .inr (.inr rfl))))) r_nil)))))
theorem sc_law : FnScope ["_law_script", "_law_feed_here", "_law_label", "_law_row", "_law_later", "_law_here", "_law_one", "_law_shifted", "_law_turned", "_law_due", "_law_told", "_law_known", "_law_party"] ["_law_script"] (defScope (top 64)) := ⟨rfl, rfl, rfl, by decide +kernel, rfl, by decide +kernel, by decide +kernel⟩
theorem b_law {C : KM} {xNoPlace : Addr} (T : Txt C xNoPlace) (F__law_feed : Fn C 1 "_law_feed" g__law_feed) (F__law_words : Fn C 2 "_law_words" g__law_words) (F__law_folk : Fn C 3 "_law_folk" g__law_folk) (F__law_people : Fn C 3 "_law_people" g__law_people) (F__law_pick : Fn C 2 "_law_pick" g__law_pick) (F__law_ranks : Fn C 1 "_law_ranks" g__law_ranks) (F_form_of : Fn C 5 "form_of" g_form_of) (M_Party : MkOk C 5 "Party" g_Party__init) (M_Book : MkOk C 5 "Book" g_Book__init) (F_forms : Fn C 4 "forms" g_forms) (base : Heap) (f : Addr) (cdv : Value) (A : Around) (outer : List Env) (s : Shared) (H : Hp) (E : XK) (vs : List V) (W : WX) (g : Go (CxD C base ["_law_script", "_law_feed_here", "_law_label", "_law_row", "_law_later", "_law_here", "_law_one", "_law_shifted", "_law_turned", "_law_due", "_law_told", "_law_known", "_law_party"] "law" (defScope (top 64)) f cdv A outer s H E) ⟨C, vs, [0]⟩ W 6) : PSs (CxD C base ["_law_script", "_law_feed_here", "_law_label", "_law_row", "_law_later", "_law_here", "_law_one", "_law_shifted", "_law_turned", "_law_due", "_law_told", "_law_known", "_law_party"] "law" (defScope (top 64)) f cdv A outer s H E) (defBody (top 64)) (tS ⟨C, vs, [0]⟩ W m_law) :=
  (rs_cons (rs_set g.toSt0 1 (show (1 : Nat) ∉ [0] by decide) rfl (by first | exact .inl rfl | exact .inr rfl) (r_call g F__law_feed (by decide) rfl (r_cons (r_varA 0 rfl (by first | exact .inl rfl | exact .inr (.inl rfl) | exact .inr (.inr rfl))) r_nil)))
  (rs_cons (rs_set g.toSt0 2 (show (2 : Nat) ∉ [0] by decide) rfl (by first | exact .inl rfl | exact .inr rfl) (r_ix g.toSt0 (r_frz (r_call g F__law_words (by decide) rfl (r_cons (r_varA 1 rfl (by first | exact .inl rfl | exact .inr (.inl rfl) | exact .inr (.inr rfl))) (r_cons (r_frz r_str) (r_cons (r_frz r_int) r_nil))))) (r_frz r_int)))
  (rs_cons (rs_set g.toSt0 3 (show (3 : Nat) ∉ [0] by decide) rfl (by first | exact .inl rfl | exact .inr rfl) (r_call g F__law_folk (by decide) rfl (r_cons (r_varA 1 rfl (by first | exact .inl rfl | exact .inr (.inl rfl) | exact .inr (.inr rfl))) (r_cons (r_frz (r_call g F__law_people (by decide) rfl (r_cons (r_varA 1 rfl (by first | exact .inl rfl | exact .inr (.inl rfl) | exact .inr (.inr rfl))) (r_cons (r_frz r_int) r_nil)))) r_nil))))
  (rs_cons (rs_set g.toSt0 4 (show (4 : Nat) ∉ [0] by decide) rfl (by first | exact .inl rfl | exact .inr rfl) (r_cb g.toSt0 (call_sortX g.k.symm) T.n_sorted (by rfl) rfl (r_cons (r_frz (r_call g F__law_pick (by decide) rfl (r_cons (r_varA 1 rfl (by first | exact .inl rfl | exact .inr (.inl rfl) | exact .inr (.inr rfl))) (r_cons (r_frz r_str) (r_cons (r_frz r_int) r_nil))))) r_nil)))
  (rs_cons (rs_set g.toSt0 5 (show (5 : Nat) ∉ [0] by decide) rfl (by first | exact .inl rfl | exact .inr rfl) (r_cb g.toSt0 (call_sortX g.k.symm) T.n_sorted (by rfl) rfl (r_cons (r_frz (r_lc g [("_law_one", 6)] (.nm 6) (show (6 : Nat) ∉ [0] by decide) (show ∀ i ∈ [0], i ∉ [6] by decide) (show (6 : Nat) ∈ [6] by decide) (ri_val g.toSt0 (r_frz (r_varE 3 rfl (by first | exact .inl rfl | exact .inr (.inl rfl) | exact .inr (.inr rfl))))) (blkOk_by (N := ["_law_script", "_law_feed_here", "_law_label", "_law_row", "_law_later", "_law_here", "_law_one", "_law_shifted", "_law_turned", "_law_due", "_law_told", "_law_known", "_law_party"]) (sc := defScope (top 64)) (by decide +kernel)) (fun _ _ _ _ _ => (rg_nm (g.blk ..).toSt0 6 rfl (by first | exact .inl rfl | exact .inr rfl))) (fun _ _ _ _ _ g => (rts_one (rt_cmp g.toSt0 rfl (r_varA 6 rfl (by first | exact .inl rfl | exact .inr (.inl rfl) | exact .inr (.inr rfl))) (r_frz r_str)))) (fun _ _ _ _ _ g => (r_varE 6 rfl (by first | exact .inl rfl | exact .inr (.inl rfl) | exact .inr (.inr rfl)))))) r_nil)))
  (rs_cons (rs_set g.toSt0 7 (show (7 : Nat) ∉ [0] by decide) rfl (by first | exact .inl rfl | exact .inr rfl) (r_cty g.toSt0 (call_tupleD g.k.symm) T.n_tuple (by rfl) rfl (r_cons (r_frz (r_lc g [("_law_one", 6)] (.nm 6) (show (6 : Nat) ∉ [0] by decide) (show ∀ i ∈ [0], i ∉ [6] by decide) (show (6 : Nat) ∈ [6] by decide) (ri_val g.toSt0 (r_frz (r_varE 3 rfl (by first | exact .inl rfl | exact .inr (.inl rfl) | exact .inr (.inr rfl))))) (blkOk_by (N := ["_law_script", "_law_feed_here", "_law_label", "_law_row", "_law_later", "_law_here", "_law_one", "_law_shifted", "_law_turned", "_law_due", "_law_told", "_law_known", "_law_party"]) (sc := defScope (top 64)) (by decide +kernel)) (fun _ _ _ _ _ => (rg_nm (g.blk ..).toSt0 6 rfl (by first | exact .inl rfl | exact .inr rfl))) (fun _ _ _ _ _ g => rts_nil) (fun _ _ _ _ _ g => (r_ifE (rt_cmp g.toSt0 rfl (r_varA 6 rfl (by first | exact .inl rfl | exact .inr (.inl rfl) | exact .inr (.inr rfl))) (r_varA 5 rfl (by first | exact .inl rfl | exact .inr (.inl rfl) | exact .inr (.inr rfl)))) (r_ix g.toSt0 (r_varA 4 rfl (by first | exact .inl rfl | exact .inr (.inl rfl) | exact .inr (.inr rfl))) (r_frz (r_index g.toSt0 5 rfl (by first | exact .inl rfl | exact .inr (.inl rfl) | exact .inr (.inr rfl)) (r_cons (r_frz (r_varE 6 rfl (by first | exact .inl rfl | exact .inr (.inl rfl) | exact .inr (.inr rfl)))) r_nil)))) (r_varE 6 rfl (by first | exact .inl rfl | exact .inr (.inl rfl) | exact .inr (.inr rfl))))))) r_nil)))
  (rs_cons (rs_set g.toSt0 8 (show (8 : Nat) ∉ [0] by decide) rfl (by first | exact .inl rfl | exact .inr rfl) (r_cty g.toSt0 (call_tupleD g.k.symm) T.n_tuple (by rfl) rfl (r_cons (r_frz (r_lc g [("_law_one", 6)] (.nm 6) (show (6 : Nat) ∉ [0] by decide) (show ∀ i ∈ [0], i ∉ [6] by decide) (show (6 : Nat) ∈ [6] by decide) (ri_val g.toSt0 (r_frz (r_varE 3 rfl (by first | exact .inl rfl | exact .inr (.inl rfl) | exact .inr (.inr rfl))))) (blkOk_by (N := ["_law_script", "_law_feed_here", "_law_label", "_law_row", "_law_later", "_law_here", "_law_one", "_law_shifted", "_law_turned", "_law_due", "_law_told", "_law_known", "_law_party"]) (sc := defScope (top 64)) (by decide +kernel)) (fun _ _ _ _ _ => (rg_nm (g.blk ..).toSt0 6 rfl (by first | exact .inl rfl | exact .inr rfl))) (fun _ _ _ _ _ g => rts_nil) (fun _ _ _ _ _ g => (r_ifE (rt_cmp g.toSt0 rfl (r_varA 6 rfl (by first | exact .inl rfl | exact .inr (.inl rfl) | exact .inr (.inr rfl))) (r_varA 5 rfl (by first | exact .inl rfl | exact .inr (.inl rfl) | exact .inr (.inr rfl)))) (r_ix g.toSt0 (r_varA 5 rfl (by first | exact .inl rfl | exact .inr (.inl rfl) | exact .inr (.inr rfl))) (r_frz (r_bin g.toSt0 rfl (r_frz (r_bin g.toSt0 rfl (r_frz (r_cb g.toSt0 (call_lenDD g.k.symm) T.n_len (by rfl) rfl (r_cons (r_varA 5 rfl (by first | exact .inl rfl | exact .inr (.inl rfl) | exact .inr (.inr rfl))) r_nil))) (r_frz r_int))) (r_frz (r_index g.toSt0 5 rfl (by first | exact .inl rfl | exact .inr (.inl rfl) | exact .inr (.inr rfl)) (r_cons (r_frz (r_varE 6 rfl (by first | exact .inl rfl | exact .inr (.inl rfl) | exact .inr (.inr rfl)))) r_nil)))))) (r_varE 6 rfl (by first | exact .inl rfl | exact .inr (.inl rfl) | exact .inr (.inr rfl))))))) r_nil)))
  (rs_cons (rs_set g.toSt0 9 (show (9 : Nat) ∉ [0] by decide) rfl (by first | exact .inl rfl | exact .inr rfl) (r_tup (r_cons (r_frz (r_varE 2 rfl (by first | exact .inl rfl | exact .inr (.inl rfl) | exact .inr (.inr rfl)))) (r_cons (r_frz (r_call g F__law_ranks (by decide) rfl (r_cons (r_varA 3 rfl (by first | exact .inl rfl | exact .inr (.inl rfl) | exact .inr (.inr rfl))) r_nil))) r_nil))))
  (rs_cons (rs_if (PW.pt (rt_or (rt_cmp g.toSt0 rfl (r_frz (r_call g F_form_of (by decide) rfl (r_cons (r_frz (r_tup (r_cons (r_frz (r_varE 2 rfl (by first | exact .inl rfl | exact .inr (.inl rfl) | exact .inr (.inr rfl)))) (r_cons (r_frz (r_varE 3 rfl (by first | exact .inl rfl | exact .inr (.inl rfl) | exact .inr (.inr rfl)))) r_nil)))) r_nil))) (r_varA 9 rfl (by first | exact .inl rfl | exact .inr (.inl rfl) | exact .inr (.inr rfl)))) (rt_or (rt_cmp g.toSt0 rfl (r_frz (r_call g F_form_of (by decide) rfl (r_cons (r_frz (r_tup (r_cons (r_frz (r_varE 2 rfl (by first | exact .inl rfl | exact .inr (.inl rfl) | exact .inr (.inr rfl)))) (r_cons (r_frz (r_varE 7 rfl (by first | exact .inl rfl | exact .inr (.inl rfl) | exact .inr (.inr rfl)))) r_nil)))) r_nil))) (r_varA 9 rfl (by first | exact .inl rfl | exact .inr (.inl rfl) | exact .inr (.inr rfl)))) (rt_or1 (rt_cmp g.toSt0 rfl (r_frz (r_call g F_form_of (by decide) rfl (r_cons (r_varA 9 rfl (by first | exact .inl rfl | exact .inr (.inl rfl) | exact .inr (.inr rfl))) r_nil))) (r_varA 9 rfl (by first | exact .inl rfl | exact .inr (.inl rfl) | exact .inr (.inr rfl)))))))) (rs_one (rs_ret r_bl)) rs_nil)
  (rs_cons (rs_set g.toSt0 10 (show (10 : Nat) ∉ [0] by decide) rfl (by first | exact .inl rfl | exact .inr rfl) (r_call g F_form_of (by decide) rfl (r_cons (r_frz (r_tup (r_cons (r_frz (r_varE 2 rfl (by first | exact .inl rfl | exact .inr (.inl rfl) | exact .inr (.inr rfl)))) (r_cons (r_frz (r_varE 8 rfl (by first | exact .inl rfl | exact .inr (.inl rfl) | exact .inr (.inr rfl)))) r_nil)))) r_nil)))
  (rs_cons (rs_if (PW.pt (rt_or (rt_cmp g.toSt0 rfl (r_varA 10 rfl (by first | exact .inl rfl | exact .inr (.inl rfl) | exact .inr (.inr rfl))) (r_frz (r_tup (r_cons (r_frz (r_varE 2 rfl (by first | exact .inl rfl | exact .inr (.inl rfl) | exact .inr (.inr rfl)))) (r_cons (r_frz (r_call g F__law_ranks (by decide) rfl (r_cons (r_varA 8 rfl (by first | exact .inl rfl | exact .inr (.inl rfl) | exact .inr (.inr rfl))) r_nil))) r_nil))))) (rt_or1 (rt_cmp g.toSt0 rfl (r_frz (r_cmp g.toSt0 rfl (r_varA 10 rfl (by first | exact .inl rfl | exact .inr (.inl rfl) | exact .inr (.inr rfl))) (r_varA 9 rfl (by first | exact .inl rfl | exact .inr (.inl rfl) | exact .inr (.inr rfl))))) (r_frz (r_cmp g.toSt0 rfl (r_frz (r_cb g.toSt0 (call_lenDD g.k.symm) T.n_len (by rfl) rfl (r_cons (r_varA 5 rfl (by first | exact .inl rfl | exact .inr (.inl rfl) | exact .inr (.inr rfl))) r_nil))) (r_frz r_int))))))) (rs_one (rs_ret r_bl)) rs_nil)
  (rs_cons (rs_set g.toSt0 11 (show (11 : Nat) ∉ [0] by decide) rfl (by first | exact .inl rfl | exact .inr rfl) (r_cty g.toSt0 (call_tupleD g.k.symm) T.n_tuple (by rfl) rfl (r_cons (r_frz (r_cb g.toSt0 (call_sortX g.k.symm) T.n_sorted (by rfl) rfl (r_cons (r_frz (r_lc g [("_law_one", 6)] (.nm 6) (show (6 : Nat) ∉ [0] by decide) (show ∀ i ∈ [0], i ∉ [6] by decide) (show (6 : Nat) ∈ [6] by decide) (ri_val g.toSt0 (r_frz (r_varE 3 rfl (by first | exact .inl rfl | exact .inr (.inl rfl) | exact .inr (.inr rfl))))) (blkOk_by (N := ["_law_script", "_law_feed_here", "_law_label", "_law_row", "_law_later", "_law_here", "_law_one", "_law_shifted", "_law_turned", "_law_due", "_law_told", "_law_known", "_law_party"]) (sc := defScope (top 64)) (by decide +kernel)) (fun _ _ _ _ _ => (rg_nm (g.blk ..).toSt0 6 rfl (by first | exact .inl rfl | exact .inr rfl))) (fun _ _ _ _ _ g => (rts_one (rt_cmp g.toSt0 rfl (r_varA 6 rfl (by first | exact .inl rfl | exact .inr (.inl rfl) | exact .inr (.inr rfl))) (r_varA 5 rfl (by first | exact .inl rfl | exact .inr (.inl rfl) | exact .inr (.inr rfl)))))) (fun _ _ _ _ _ g => (r_varE 6 rfl (by first | exact .inl rfl | exact .inr (.inl rfl) | exact .inr (.inr rfl)))))) r_nil))) r_nil)))
  (rs_cons (rs_set g.toSt0 12 (show (12 : Nat) ∉ [0] by decide) rfl (by first | exact .inl rfl | exact .inr rfl) (r_make g M_Party (by decide) rfl (r_cons (r_frz (r_make g M_Book (by decide) rfl (r_cons (r_frz r_int) (r_cons (r_frz (r_tup (r_cons (r_frz (r_tup (r_cons (r_frz (r_varE 2 rfl (by first | exact .inl rfl | exact .inr (.inl rfl) | exact .inr (.inr rfl)))) (r_cons (r_frz (r_cb g.toSt0 (call_lenDD g.k.symm) T.n_len (by rfl) rfl (r_cons (r_varA 3 rfl (by first | exact .inl rfl | exact .inr (.inl rfl) | exact .inr (.inr rfl))) r_nil))) r_nil)))) r_nil))) (r_cons (r_frz (r_tup r_nil)) r_nil))))) (r_cons (r_varA 11 rfl (by first | exact .inl rfl | exact .inr (.inl rfl) | exact .inr (.inr rfl))) (r_cons (r_frz r_dic0) r_nil)))))
  (rs_one (rs_ret (r_inX g.toSt0 (by have := g.rm.un; omega) (r_varA 9 rfl (by first | exact .inl rfl | exact .inr (.inl rfl) | exact .inr (.inr rfl))) (r_frz (r_call g F_forms (by decide) rfl (r_cons (r_varA 12 rfl (by first | exact .inl rfl | exact .inr (.inl rfl) | exact .inr (.inr rfl))) r_nil)))))))))))))))))))
theorem all_mk {P : Program} {w : World} {K : PySem.W.Frag} {h : Heap} {mg : Str → Option Value} {fa : Addr} (X : K.In h) (G : h.Ns mainGlobals mg) (hfa : mg "law" = some (.ref fa))
    {tFIGURES : Tok} {tFRACTIONS : Tok} {tGREAT : Tok} {tLETTERS : Tok} {tMOST_DEMANDS : Tok} {tMOST_FACTOR : Tok} {tMOST_HOURS : Tok} {tMOST_NAMES : Tok} {tMOST_RIGHT : Tok} {tMOST_SIGNS : Tok} {tMOST_SIZE_books : Tok} {tMOST_SIZE_rules : Tok} {tMOST_TABLES : Tok} {tMOST_TERMS : Tok} {tSMALL : Tok} {tWHOLE : Tok} {xNoPlace : Addr} {yBook : Addr} {yParty : Addr} {f0 : Addr} {od0 an0 : Option Addr} {sl0 : Array (Option Value)} {oc0 kV0 dc0 pm0 cd0 ct0 : Value} {f1 : Addr} {od1 an1 : Option Addr} {sl1 : Array (Option Value)} {oc1 kV1 dc1 pm1 cd1 ct1 : Value} {f2 : Addr} {od2 an2 : Option Addr} {sl2 : Array (Option Value)} {oc2 kV2 dc2 pm2 cd2 ct2 : Value} {f3 : Addr} {od3 an3 : Option Addr} {sl3 : Array (Option Value)} {oc3 kV3 dc3 pm3 cd3 ct3 : Value} {f4 : Addr} {od4 an4 : Option Addr} {sl4 : Array (Option Value)} {oc4 kV4 dc4 pm4 cd4 ct4 : Value} {f5 : Addr} {od5 an5 : Option Addr} {sl5 : Array (Option Value)} {oc5 kV5 dc5 pm5 cd5 ct5 : Value} {f6 : Addr} {od6 an6 : Option Addr} {sl6 : Array (Option Value)} {oc6 kV6 dc6 pm6 cd6 ct6 : Value} {f7 : Addr} {od7 an7 : Option Addr} {sl7 : Array (Option Value)} {oc7 kV7 dc7 pm7 cd7 ct7 : Value} {f8 : Addr} {od8 an8 : Option Addr} {sl8 : Array (Option Value)} {oc8 kV8 dc8 pm8 cd8 ct8 : Value} {f9 : Addr} {od9 an9 : Option Addr} {sl9 : Array (Option Value)} {oc9 kV9 dc9 pm9 cd9 ct9 : Value} {f10 : Addr} {od10 an10 : Option Addr} {sl10 : Array (Option Value)} {oc10 kV10 dc10 pm10 cd10 ct10 : Value} {f11 : Addr} {od11 an11 : Option Addr} {sl11 : Array (Option Value)} {oc11 kV11 dc11 pm11 cd11 ct11 : Value} {f12 : Addr} {od12 an12 : Option Addr} {sl12 : Array (Option Value)} {oc12 kV12 dc12 pm12 cd12 ct12 : Value} {f13 : Addr} {od13 an13 : Option Addr} {sl13 : Array (Option Value)} {oc13 kV13 dc13 pm13 cd13 ct13 : Value} {f14 : Addr} {od14 an14 : Option Addr} {sl14 : Array (Option Value)} {oc14 kV14 dc14 pm14 cd14 ct14 : Value} {f15 : Addr} {od15 an15 : Option Addr} {sl15 : Array (Option Value)} {oc15 kV15 dc15 pm15 cd15 ct15 : Value} {f16 : Addr} {od16 an16 : Option Addr} {sl16 : Array (Option Value)} {oc16 kV16 dc16 pm16 cd16 ct16 : Value} {f17 : Addr} {od17 an17 : Option Addr} {sl17 : Array (Option Value)} {oc17 kV17 dc17 pm17 cd17 ct17 : Value} {f18 : Addr} {od18 an18 : Option Addr} {sl18 : Array (Option Value)} {oc18 kV18 dc18 pm18 cd18 ct18 : Value} {f19 : Addr} {od19 an19 : Option Addr} {sl19 : Array (Option Value)} {oc19 kV19 dc19 pm19 cd19 ct19 : Value} {f20 : Addr} {od20 an20 : Option Addr} {sl20 : Array (Option Value)} {oc20 kV20 dc20 pm20 cd20 ct20 : Value} {f21 : Addr} {od21 an21 : Option Addr} {sl21 : Array (Option Value)} {oc21 kV21 dc21 pm21 cd21 ct21 : Value} {f22 : Addr} {od22 an22 : Option Addr} {sl22 : Array (Option Value)} {oc22 kV22 dc22 pm22 cd22 ct22 : Value} {f23 : Addr} {od23 an23 : Option Addr} {sl23 : Array (Option Value)} {oc23 kV23 dc23 pm23 cd23 ct23 : Value} {f24 : Addr} {od24 an24 : Option Addr} {sl24 : Array (Option Value)} {oc24 kV24 dc24 pm24 cd24 ct24 : Value} {f25 : Addr} {od25 an25 : Option Addr} {sl25 : Array (Option Value)} {oc25 kV25 dc25 pm25 cd25 ct25 : Value} {f26 : Addr} {od26 an26 : Option Addr} {sl26 : Array (Option Value)} {oc26 kV26 dc26 pm26 cd26 ct26 : Value} {f27 : Addr} {od27 an27 : Option Addr} {sl27 : Array (Option Value)} {oc27 kV27 dc27 pm27 cd27 ct27 : Value} {f28 : Addr} {od28 an28 : Option Addr} {sl28 : Array (Option Value)} {oc28 kV28 dc28 pm28 cd28 ct28 : Value} {f29 : Addr} {od29 an29 : Option Addr} {sl29 : Array (Option Value)} {oc29 kV29 dc29 pm29 cd29 ct29 : Value} {f30 : Addr} {od30 an30 : Option Addr} {sl30 : Array (Option Value)} {oc30 kV30 dc30 pm30 cd30 ct30 : Value} {f31 : Addr} {od31 an31 : Option Addr} {sl31 : Array (Option Value)} {oc31 kV31 dc31 pm31 cd31 ct31 : Value} {f32 : Addr} {od32 an32 : Option Addr} {sl32 : Array (Option Value)} {oc32 kV32 dc32 pm32 cd32 ct32 : Value} {f33 : Addr} {od33 an33 : Option Addr} {sl33 : Array (Option Value)} {oc33 kV33 dc33 pm33 cd33 ct33 : Value} {f34 : Addr} {od34 an34 : Option Addr} {sl34 : Array (Option Value)} {oc34 kV34 dc34 pm34 cd34 ct34 : Value} {f35 : Addr} {od35 an35 : Option Addr} {sl35 : Array (Option Value)} {oc35 kV35 dc35 pm35 cd35 ct35 : Value} {f36 : Addr} {od36 an36 : Option Addr} {sl36 : Array (Option Value)} {oc36 kV36 dc36 pm36 cd36 ct36 : Value} {f37 : Addr} {od37 an37 : Option Addr} {sl37 : Array (Option Value)} {oc37 kV37 dc37 pm37 cd37 ct37 : Value}
    (n_abs : PySem.W.nsIn K mainGlobals "abs" = some none)
    (n_all : PySem.W.nsIn K mainGlobals "all" = some none)
    (n_bool : PySem.W.nsIn K mainGlobals "bool" = some none)
    (n_dict : PySem.W.nsIn K mainGlobals "dict" = some none)
    (n_int : PySem.W.nsIn K mainGlobals "int" = some none)
    (n_isinstance : PySem.W.nsIn K mainGlobals "isinstance" = some none)
    (n_len : PySem.W.nsIn K mainGlobals "len" = some none)
    (n_list : PySem.W.nsIn K mainGlobals "list" = some none)
    (n_range : PySem.W.nsIn K mainGlobals "range" = some none)
    (n_sorted : PySem.W.nsIn K mainGlobals "sorted" = some none)
    (n_str : PySem.W.nsIn K mainGlobals "str" = some none)
    (n_tuple : PySem.W.nsIn K mainGlobals "tuple" = some none)
    (c_FIGURES : PySem.W.nsIn K mainGlobals "FIGURES" = some (some (.str "0123456789" tFIGURES)))
    (c_FRACTIONS : PySem.W.nsIn K mainGlobals "FRACTIONS" = some (some (.int 1 tFRACTIONS)))
    (c_GREAT : PySem.W.nsIn K mainGlobals "GREAT" = some (some (.str "ABCDEFGHIJKLMNOPQRSTUVWXYZ" tGREAT)))
    (c_LETTERS : PySem.W.nsIn K mainGlobals "LETTERS" = some (some (.str "abcd" tLETTERS)))
    (c_MOST_DEMANDS : PySem.W.nsIn K mainGlobals "MOST_DEMANDS" = some (some (.int 6 tMOST_DEMANDS)))
    (c_MOST_FACTOR : PySem.W.nsIn K mainGlobals "MOST_FACTOR" = some (some (.int 99 tMOST_FACTOR)))
    (c_MOST_HOURS : PySem.W.nsIn K mainGlobals "MOST_HOURS" = some (some (.int 1000 tMOST_HOURS)))
    (c_MOST_NAMES : PySem.W.nsIn K mainGlobals "MOST_NAMES" = some (some (.int 3 tMOST_NAMES)))
    (c_MOST_RIGHT : PySem.W.nsIn K mainGlobals "MOST_RIGHT" = some (some (.int 999 tMOST_RIGHT)))
    (c_MOST_SIGNS : PySem.W.nsIn K mainGlobals "MOST_SIGNS" = some (some (.int 8 tMOST_SIGNS)))
    (c_MOST_SIZE_books : PySem.W.nsIn K mainGlobals "MOST_SIZE_books" = some (some (.int 3 tMOST_SIZE_books)))
    (c_MOST_SIZE_rules : PySem.W.nsIn K mainGlobals "MOST_SIZE_rules" = some (some (.int 3 tMOST_SIZE_rules)))
    (c_MOST_TABLES : PySem.W.nsIn K mainGlobals "MOST_TABLES" = some (some (.int 4 tMOST_TABLES)))
    (c_MOST_TERMS : PySem.W.nsIn K mainGlobals "MOST_TERMS" = some (some (.int 8 tMOST_TERMS)))
    (c_SMALL : PySem.W.nsIn K mainGlobals "SMALL" = some (some (.str "abcdefghijklmnopqrstuvwxyz" tSMALL)))
    (c_WHOLE : PySem.W.nsIn K mainGlobals "WHOLE" = some (some (.int 0 tWHOLE)))
    (gNoPlace : PySem.W.nsIn K mainGlobals "NoPlace" = some (some (.ref xNoPlace)))
    (qNoPlace : PySem.W.excIn K xNoPlace [.type "ValueError", .type "Exception", .type "BaseException", .type "object"] "ValueError.__new__" = true)
    (kNoPlace : PySem.W.keepIn K (.ref xNoPlace) = true)
    (bNoPlace : PySem.W.subIn K (.ref xNoPlace) (.type "BaseException") = some true)
    (tNoPlace : PySem.W.typeIn K (.ref xNoPlace) = some (.type "type"))
    (aBook : PySem.W.nsIn K mainGlobals "Book" = some (some (.ref yBook)))
    (pgBook : PySem.W.plainGet K yBook Str.empty = true)
    (hdBook : PySem.W.hasDictIn K yBook = true)
    (poBook : PySem.W.plainOver K yBook = true)
    (saBook : PySem.W.findIn K (.ref yBook) "__setattr__" = some (some (.builtin "object.__setattr__")))
    (naBook_demands : PySem.W.findIn K (.ref yBook) "demands" = some none)
    (naBook_tables : PySem.W.findIn K (.ref yBook) "tables" = some none)
    (naBook_world : PySem.W.findIn K (.ref yBook) "world" = some none)
    (aParty : PySem.W.nsIn K mainGlobals "Party" = some (some (.ref yParty)))
    (pgParty : PySem.W.plainGet K yParty Str.empty = true)
    (hdParty : PySem.W.hasDictIn K yParty = true)
    (poParty : PySem.W.plainOver K yParty = true)
    (saParty : PySem.W.findIn K (.ref yParty) "__setattr__" = some (some (.builtin "object.__setattr__")))
    (naParty_book : PySem.W.findIn K (.ref yParty) "book" = some none)
    (naParty_kept : PySem.W.findIn K (.ref yParty) "kept" = some none)
    (naParty_names : PySem.W.findIn K (.ref yParty) "names" = some none)
    (a0 : PySem.W.nsIn K mainGlobals "_law_feed" = some (some (.ref f0)))
    (l0 : K.lookup f0 = some ⟨oc0, od0, .func (PySem.W.fnOf "_law_feed" "_law_feed" (defArgs (top 57)) (defBody (top 57)) (defScope (top 57)) .none kV0 dc0 pm0 an0 cd0 ct0), sl0⟩)
    (c0 : PySem.W.codeIn K cd0 "_law_feed" = true)
    (k0 : PySem.W.keepIn K (.ref f0) = true)
    (a1 : PySem.W.nsIn K mainGlobals "_law_draw" = some (some (.ref f1)))
    (l1 : K.lookup f1 = some ⟨oc1, od1, .func (PySem.W.fnOf "_law_draw" "_law_draw" (defArgs (top 58)) (defBody (top 58)) (defScope (top 58)) .none kV1 dc1 pm1 an1 cd1 ct1), sl1⟩)
    (c1 : PySem.W.codeIn K cd1 "_law_draw" = true)
    (k1 : PySem.W.keepIn K (.ref f1) = true)
    (a2 : PySem.W.nsIn K mainGlobals "_law_pick" = some (some (.ref f2)))
    (l2 : K.lookup f2 = some ⟨oc2, od2, .func (PySem.W.fnOf "_law_pick" "_law_pick" (defArgs (top 61)) (defBody (top 61)) (defScope (top 61)) .none kV2 dc2 pm2 an2 cd2 ct2), sl2⟩)
    (c2 : PySem.W.codeIn K cd2 "_law_pick" = true)
    (k2 : PySem.W.keepIn K (.ref f2) = true)
    (a3 : PySem.W.nsIn K mainGlobals "_law_folk" = some (some (.ref f3)))
    (l3 : K.lookup f3 = some ⟨oc3, od3, .func (PySem.W.fnOf "_law_folk" "_law_folk" (defArgs (top 63)) (defBody (top 63)) (defScope (top 63)) .none kV3 dc3 pm3 an3 cd3 ct3), sl3⟩)
    (c3 : PySem.W.codeIn K cd3 "_law_folk" = true)
    (k3 : PySem.W.keepIn K (.ref f3) = true)
    (a4 : PySem.W.nsIn K mainGlobals "is_comer" = some (some (.ref f4)))
    (l4 : K.lookup f4 = some ⟨oc4, od4, .func (PySem.W.fnOf "is_comer" "is_comer" (defArgs (top 16)) (defBody (top 16)) (defScope (top 16)) .none kV4 dc4 pm4 an4 cd4 ct4), sl4⟩)
    (c4 : PySem.W.codeIn K cd4 "is_comer" = true)
    (k4 : PySem.W.keepIn K (.ref f4) = true)
    (a5 : PySem.W.nsIn K mainGlobals "ranked" = some (some (.ref f5)))
    (l5 : K.lookup f5 = some ⟨oc5, od5, .func (PySem.W.fnOf "ranked" "ranked" (defArgs (top 51)) (defBody (top 51)) (defScope (top 51)) .none kV5 dc5 pm5 an5 cd5 ct5), sl5⟩)
    (c5 : PySem.W.codeIn K cd5 "ranked" = true)
    (k5 : PySem.W.keepIn K (.ref f5) = true)
    (a6 : PySem.W.nsIn K mainGlobals "place_form" = some (some (.ref f6)))
    (l6 : K.lookup f6 = some ⟨oc6, od6, .func (PySem.W.fnOf "place_form" "place_form" (defArgs (top 52)) (defBody (top 52)) (defScope (top 52)) .none kV6 dc6 pm6 an6 cd6 ct6), sl6⟩)
    (c6 : PySem.W.codeIn K cd6 "place_form" = true)
    (k6 : PySem.W.keepIn K (.ref f6) = true)
    (a7 : PySem.W.nsIn K mainGlobals "is_pair" = some (some (.ref f7)))
    (l7 : K.lookup f7 = some ⟨oc7, od7, .func (PySem.W.fnOf "is_pair" "is_pair" (defArgs (top 12)) (defBody (top 12)) (defScope (top 12)) .none kV7 dc7 pm7 an7 cd7 ct7), sl7⟩)
    (c7 : PySem.W.codeIn K cd7 "is_pair" = true)
    (k7 : PySem.W.keepIn K (.ref f7) = true)
    (a8 : PySem.W.nsIn K mainGlobals "is_of" = some (some (.ref f8)))
    (l8 : K.lookup f8 = some ⟨oc8, od8, .func (PySem.W.fnOf "is_of" "is_of" (defArgs (top 13)) (defBody (top 13)) (defScope (top 13)) .none kV8 dc8 pm8 an8 cd8 ct8), sl8⟩)
    (c8 : PySem.W.codeIn K cd8 "is_of" = true)
    (k8 : PySem.W.keepIn K (.ref f8) = true)
    (a9 : PySem.W.nsIn K mainGlobals "is_label" = some (some (.ref f9)))
    (l9 : K.lookup f9 = some ⟨oc9, od9, .func (PySem.W.fnOf "is_label" "is_label" (defArgs (top 14)) (defBody (top 14)) (defScope (top 14)) .none kV9 dc9 pm9 an9 cd9 ct9), sl9⟩)
    (c9 : PySem.W.codeIn K cd9 "is_label" = true)
    (k9 : PySem.W.keepIn K (.ref f9) = true)
    (a10 : PySem.W.nsIn K mainGlobals "are_unlike" = some (some (.ref f10)))
    (l10 : K.lookup f10 = some ⟨oc10, od10, .func (PySem.W.fnOf "are_unlike" "are_unlike" (defArgs (top 18)) (defBody (top 18)) (defScope (top 18)) .none kV10 dc10 pm10 an10 cd10 ct10), sl10⟩)
    (c10 : PySem.W.codeIn K cd10 "are_unlike" = true)
    (k10 : PySem.W.keepIn K (.ref f10) = true)
    (a11 : PySem.W.nsIn K mainGlobals "is_name" = some (some (.ref f11)))
    (l11 : K.lookup f11 = some ⟨oc11, od11, .func (PySem.W.fnOf "is_name" "is_name" (defArgs (top 15)) (defBody (top 15)) (defScope (top 15)) .none kV11 dc11 pm11 an11 cd11 ct11), sl11⟩)
    (c11 : PySem.W.codeIn K cd11 "is_name" = true)
    (k11 : PySem.W.keepIn K (.ref f11) = true)
    (a12 : PySem.W.nsIn K mainGlobals "is_folk" = some (some (.ref f12)))
    (l12 : K.lookup f12 = some ⟨oc12, od12, .func (PySem.W.fnOf "is_folk" "is_folk" (defArgs (top 17)) (defBody (top 17)) (defScope (top 17)) .none kV12 dc12 pm12 an12 cd12 ct12), sl12⟩)
    (c12 : PySem.W.codeIn K cd12 "is_folk" = true)
    (k12 : PySem.W.keepIn K (.ref f12) = true)
    (a13 : PySem.W.nsIn K mainGlobals "are_unlike_folk" = some (some (.ref f13)))
    (l13 : K.lookup f13 = some ⟨oc13, od13, .func (PySem.W.fnOf "are_unlike_folk" "are_unlike_folk" (defArgs (top 19)) (defBody (top 19)) (defScope (top 19)) .none kV13 dc13 pm13 an13 cd13 ct13), sl13⟩)
    (c13 : PySem.W.codeIn K cd13 "are_unlike_folk" = true)
    (k13 : PySem.W.keepIn K (.ref f13) = true)
    (a14 : PySem.W.nsIn K mainGlobals "form_of" = some (some (.ref f14)))
    (l14 : K.lookup f14 = some ⟨oc14, od14, .func (PySem.W.fnOf "form_of" "form_of" (defArgs (top 55)) (defBody (top 55)) (defScope (top 55)) .none kV14 dc14 pm14 an14 cd14 ct14), sl14⟩)
    (c14 : PySem.W.codeIn K cd14 "form_of" = true)
    (k14 : PySem.W.keepIn K (.ref f14) = true)
    (a15 : PySem.W.nsIn K mainGlobals "are_names" = some (some (.ref f15)))
    (l15 : K.lookup f15 = some ⟨oc15, od15, .func (PySem.W.fnOf "are_names" "are_names" (defArgs (top 44)) (defBody (top 44)) (defScope (top 44)) .none kV15 dc15 pm15 an15 cd15 ct15), sl15⟩)
    (c15 : PySem.W.codeIn K cd15 "are_names" = true)
    (k15 : PySem.W.keepIn K (.ref f15) = true)
    (a16 : PySem.W.nsIn K mainGlobals "is_place_of" = some (some (.ref f16)))
    (l16 : K.lookup f16 = some ⟨oc16, od16, .func (PySem.W.fnOf "is_place_of" "is_place_of" (defArgs (top 45)) (defBody (top 45)) (defScope (top 45)) .none kV16 dc16 pm16 an16 cd16 ct16), sl16⟩)
    (c16 : PySem.W.codeIn K cd16 "is_place_of" = true)
    (k16 : PySem.W.keepIn K (.ref f16) = true)
    (a17 : PySem.W.nsIn K mainGlobals "is_integer" = some (some (.ref f17)))
    (l17 : K.lookup f17 = some ⟨oc17, od17, .func (PySem.W.fnOf "is_integer" "is_integer" (defArgs (top 10)) (defBody (top 10)) (defScope (top 10)) .none kV17 dc17 pm17 an17 cd17 ct17), sl17⟩)
    (c17 : PySem.W.codeIn K cd17 "is_integer" = true)
    (k17 : PySem.W.keepIn K (.ref f17) = true)
    (a18 : PySem.W.nsIn K mainGlobals "is_within" = some (some (.ref f18)))
    (l18 : K.lookup f18 = some ⟨oc18, od18, .func (PySem.W.fnOf "is_within" "is_within" (defArgs (top 11)) (defBody (top 11)) (defScope (top 11)) .none kV18 dc18 pm18 an18 cd18 ct18), sl18⟩)
    (c18 : PySem.W.codeIn K cd18 "is_within" = true)
    (k18 : PySem.W.keepIn K (.ref f18) = true)
    (a19 : PySem.W.nsIn K mainGlobals "common_divisor" = some (some (.ref f19)))
    (l19 : K.lookup f19 = some ⟨oc19, od19, .func (PySem.W.fnOf "common_divisor" "common_divisor" (defArgs (top 20)) (defBody (top 20)) (defScope (top 20)) .none kV19 dc19 pm19 an19 cd19 ct19), sl19⟩)
    (c19 : PySem.W.codeIn K cd19 "common_divisor" = true)
    (k19 : PySem.W.keepIn K (.ref f19) = true)
    (a20 : PySem.W.nsIn K mainGlobals "is_fraction" = some (some (.ref f20)))
    (l20 : K.lookup f20 = some ⟨oc20, od20, .func (PySem.W.fnOf "is_fraction" "is_fraction" (defArgs (top 21)) (defBody (top 21)) (defScope (top 21)) .none kV20 dc20 pm20 an20 cd20 ct20), sl20⟩)
    (c20 : PySem.W.codeIn K cd20 "is_fraction" = true)
    (k20 : PySem.W.keepIn K (.ref f20) = true)
    (a21 : PySem.W.nsIn K mainGlobals "is_number_of" = some (some (.ref f21)))
    (l21 : K.lookup f21 = some ⟨oc21, od21, .func (PySem.W.fnOf "is_number_of" "is_number_of" (defArgs (top 27)) (defBody (top 27)) (defScope (top 27)) .none kV21 dc21 pm21 an21 cd21 ct21), sl21⟩)
    (c21 : PySem.W.codeIn K cd21 "is_number_of" = true)
    (k21 : PySem.W.keepIn K (.ref f21) = true)
    (a22 : PySem.W.nsIn K mainGlobals "are_numbers" = some (some (.ref f22)))
    (l22 : K.lookup f22 = some ⟨oc22, od22, .func (PySem.W.fnOf "are_numbers" "are_numbers" (defArgs (top 46)) (defBody (top 46)) (defScope (top 46)) .none kV22 dc22 pm22 an22 cd22 ct22), sl22⟩)
    (c22 : PySem.W.codeIn K cd22 "are_numbers" = true)
    (k22 : PySem.W.keepIn K (.ref f22) = true)
    (a23 : PySem.W.findIn K (.ref yParty) "__init__" = some (some (.ref f23)))
    (i23 : PySem.W.isFn K (.ref f23) = true)
    (mkParty : PySem.W.makesIn K yParty = true)
    (kcParty : PySem.W.keepIn K (.ref yParty) = true)
    (l23 : K.lookup f23 = some ⟨oc23, od23, .func (PySem.W.fnOf "__init__" "Party.__init__" (defArgs (inClass (top 47) 0)) (defBody (inClass (top 47) 0)) (defScope (inClass (top 47) 0)) .none kV23 dc23 pm23 an23 cd23 ct23), sl23⟩)
    (c23 : PySem.W.codeIn K cd23 "Party.__init__" = true)
    (k23 : PySem.W.keepIn K (.ref f23) = true)
    (a24 : PySem.W.nsIn K mainGlobals "_law_words" = some (some (.ref f24)))
    (l24 : K.lookup f24 = some ⟨oc24, od24, .func (PySem.W.fnOf "_law_words" "_law_words" (defArgs (top 59)) (defBody (top 59)) (defScope (top 59)) .none kV24 dc24 pm24 an24 cd24 ct24), sl24⟩)
    (c24 : PySem.W.codeIn K cd24 "_law_words" = true)
    (k24 : PySem.W.keepIn K (.ref f24) = true)
    (a25 : PySem.W.nsIn K mainGlobals "_law_people" = some (some (.ref f25)))
    (l25 : K.lookup f25 = some ⟨oc25, od25, .func (PySem.W.fnOf "_law_people" "_law_people" (defArgs (top 60)) (defBody (top 60)) (defScope (top 60)) .none kV25 dc25 pm25 an25 cd25 ct25), sl25⟩)
    (c25 : PySem.W.codeIn K cd25 "_law_people" = true)
    (k25 : PySem.W.keepIn K (.ref f25) = true)
    (a26 : PySem.W.nsIn K mainGlobals "_law_ranks" = some (some (.ref f26)))
    (l26 : K.lookup f26 = some ⟨oc26, od26, .func (PySem.W.fnOf "_law_ranks" "_law_ranks" (defArgs (top 62)) (defBody (top 62)) (defScope (top 62)) .none kV26 dc26 pm26 an26 cd26 ct26), sl26⟩)
    (c26 : PySem.W.codeIn K cd26 "_law_ranks" = true)
    (k26 : PySem.W.keepIn K (.ref f26) = true)
    (a27 : PySem.W.nsIn K mainGlobals "is_world" = some (some (.ref f27)))
    (l27 : K.lookup f27 = some ⟨oc27, od27, .func (PySem.W.fnOf "is_world" "is_world" (defArgs (top 26)) (defBody (top 26)) (defScope (top 26)) .none kV27 dc27 pm27 an27 cd27 ct27), sl27⟩)
    (c27 : PySem.W.codeIn K cd27 "is_world" = true)
    (k27 : PySem.W.keepIn K (.ref f27) = true)
    (a28 : PySem.W.nsIn K mainGlobals "is_table" = some (some (.ref f28)))
    (l28 : K.lookup f28 = some ⟨oc28, od28, .func (PySem.W.fnOf "is_table" "is_table" (defArgs (top 36)) (defBody (top 36)) (defScope (top 36)) .none kV28 dc28 pm28 an28 cd28 ct28), sl28⟩)
    (c28 : PySem.W.codeIn K cd28 "is_table" = true)
    (k28 : PySem.W.keepIn K (.ref f28) = true)
    (a29 : PySem.W.nsIn K mainGlobals "are_tables" = some (some (.ref f29)))
    (l29 : K.lookup f29 = some ⟨oc29, od29, .func (PySem.W.fnOf "are_tables" "are_tables" (defArgs (top 37)) (defBody (top 37)) (defScope (top 37)) .none kV29 dc29 pm29 an29 cd29 ct29), sl29⟩)
    (c29 : PySem.W.codeIn K cd29 "are_tables" = true)
    (k29 : PySem.W.keepIn K (.ref f29) = true)
    (a30 : PySem.W.nsIn K mainGlobals "is_term" = some (some (.ref f30)))
    (l30 : K.lookup f30 = some ⟨oc30, od30, .func (PySem.W.fnOf "is_term" "is_term" (defArgs (top 38)) (defBody (top 38)) (defScope (top 38)) .none kV30 dc30 pm30 an30 cd30 ct30), sl30⟩)
    (c30 : PySem.W.codeIn K cd30 "is_term" = true)
    (k30 : PySem.W.keepIn K (.ref f30) = true)
    (a31 : PySem.W.nsIn K mainGlobals "is_demand" = some (some (.ref f31)))
    (l31 : K.lookup f31 = some ⟨oc31, od31, .func (PySem.W.fnOf "is_demand" "is_demand" (defArgs (top 39)) (defBody (top 39)) (defScope (top 39)) .none kV31 dc31 pm31 an31 cd31 ct31), sl31⟩)
    (c31 : PySem.W.codeIn K cd31 "is_demand" = true)
    (k31 : PySem.W.keepIn K (.ref f31) = true)
    (a32 : PySem.W.findIn K (.ref yBook) "__init__" = some (some (.ref f32)))
    (i32 : PySem.W.isFn K (.ref f32) = true)
    (mkBook : PySem.W.makesIn K yBook = true)
    (kcBook : PySem.W.keepIn K (.ref yBook) = true)
    (l32 : K.lookup f32 = some ⟨oc32, od32, .func (PySem.W.fnOf "__init__" "Book.__init__" (defArgs (inClass (top 40) 0)) (defBody (inClass (top 40) 0)) (defScope (inClass (top 40) 0)) .none kV32 dc32 pm32 an32 cd32 ct32), sl32⟩)
    (c32 : PySem.W.codeIn K cd32 "Book.__init__" = true)
    (k32 : PySem.W.keepIn K (.ref f32) = true)
    (a33 : PySem.W.nsIn K mainGlobals "arrangements" = some (some (.ref f33)))
    (l33 : K.lookup f33 = some ⟨oc33, od33, .func (PySem.W.fnOf "arrangements" "arrangements" (defArgs (top 41)) (defBody (top 41)) (defScope (top 41)) .none kV33 dc33 pm33 an33 cd33 ct33), sl33⟩)
    (c33 : PySem.W.codeIn K cd33 "arrangements" = true)
    (k33 : PySem.W.keepIn K (.ref f33) = true)
    (a34 : PySem.W.nsIn K mainGlobals "comers" = some (some (.ref f34)))
    (l34 : K.lookup f34 = some ⟨oc34, od34, .func (PySem.W.fnOf "comers" "comers" (defArgs (top 48)) (defBody (top 48)) (defScope (top 48)) .none kV34 dc34 pm34 an34 cd34 ct34), sl34⟩)
    (c34 : PySem.W.codeIn K cd34 "comers" = true)
    (k34 : PySem.W.keepIn K (.ref f34) = true)
    (a35 : PySem.W.nsIn K mainGlobals "forms_of" = some (some (.ref f35)))
    (l35 : K.lookup f35 = some ⟨oc35, od35, .func (PySem.W.fnOf "forms_of" "forms_of" (defArgs (top 53)) (defBody (top 53)) (defScope (top 53)) .none kV35 dc35 pm35 an35 cd35 ct35), sl35⟩)
    (c35 : PySem.W.codeIn K cd35 "forms_of" = true)
    (k35 : PySem.W.keepIn K (.ref f35) = true)
    (a36 : PySem.W.nsIn K mainGlobals "forms" = some (some (.ref f36)))
    (l36 : K.lookup f36 = some ⟨oc36, od36, .func (PySem.W.fnOf "forms" "forms" (defArgs (top 54)) (defBody (top 54)) (defScope (top 54)) .none kV36 dc36 pm36 an36 cd36 ct36), sl36⟩)
    (c36 : PySem.W.codeIn K cd36 "forms" = true)
    (k36 : PySem.W.keepIn K (.ref f36) = true)
    (a37 : PySem.W.nsIn K mainGlobals "law" = some (some (.ref f37)))
    (l37 : K.lookup f37 = some ⟨oc37, od37, .func (PySem.W.fnOf "law" "law" (defArgs (top 64)) (defBody (top 64)) (defScope (top 64)) .none kV37 dc37 pm37 an37 cd37 ct37), sl37⟩)
    (c37 : PySem.W.codeIn K cd37 "law" = true)
    (k37 : PySem.W.keepIn K (.ref f37) = true) :
    ∃ fd : FuncData, (∀ (s : Shared) (v : Value), BindsTo s fd ⟨[v], []⟩ [("_law_script", v)]) ∧ ∀ base : Heap, K.In base → base.Ns mainGlobals mg → FnOk P w K mg base (L2.CX P w) 7 fa fd ["_law_script"] (spD ⟨P, w, K, mg⟩ g_law) := by
  have e := hfa.symm.trans (PySem.W.mg_of X G a37)
  cases e
  have T : Txt ⟨P, w, K, mg⟩ xNoPlace := ⟨PySem.W.mg_none_of X G n_abs, PySem.W.mg_none_of X G n_all, PySem.W.mg_none_of X G n_bool, PySem.W.mg_none_of X G n_dict, PySem.W.mg_none_of X G n_int, PySem.W.mg_none_of X G n_isinstance, PySem.W.mg_none_of X G n_len, PySem.W.mg_none_of X G n_list, PySem.W.mg_none_of X G n_range, PySem.W.mg_none_of X G n_sorted, PySem.W.mg_none_of X G n_str, PySem.W.mg_none_of X G n_tuple, ⟨_, PySem.W.mg_of X G c_FIGURES⟩, ⟨_, PySem.W.mg_of X G c_FRACTIONS⟩, ⟨_, PySem.W.mg_of X G c_GREAT⟩, ⟨_, PySem.W.mg_of X G c_LETTERS⟩, ⟨_, PySem.W.mg_of X G c_MOST_DEMANDS⟩, ⟨_, PySem.W.mg_of X G c_MOST_FACTOR⟩, ⟨_, PySem.W.mg_of X G c_MOST_HOURS⟩, ⟨_, PySem.W.mg_of X G c_MOST_NAMES⟩, ⟨_, PySem.W.mg_of X G c_MOST_RIGHT⟩, ⟨_, PySem.W.mg_of X G c_MOST_SIGNS⟩, ⟨_, PySem.W.mg_of X G c_MOST_SIZE_books⟩, ⟨_, PySem.W.mg_of X G c_MOST_SIZE_rules⟩, ⟨_, PySem.W.mg_of X G c_MOST_TABLES⟩, ⟨_, PySem.W.mg_of X G c_MOST_TERMS⟩, ⟨_, PySem.W.mg_of X G c_SMALL⟩, ⟨_, PySem.W.mg_of X G c_WHOLE⟩, ⟨_, PySem.W.mg_of X G gNoPlace, qNoPlace, kNoPlace, bNoPlace, tNoPlace⟩, PySem.W.mg_of X G gNoPlace, (fun n hn => by
    simp only [cs_book, List.mem_cons, List.not_mem_nil, or_false] at hn
    rcases hn with rfl
    · exact ⟨yParty, PySem.W.mg_of X G aParty, ⟨pgParty, hdParty, poParty, saParty⟩, naParty_book⟩), (fun n hn => by
    simp only [cs_demands, List.mem_cons, List.not_mem_nil, or_false] at hn
    rcases hn with rfl
    · exact ⟨yBook, PySem.W.mg_of X G aBook, ⟨pgBook, hdBook, poBook, saBook⟩, naBook_demands⟩), (fun n hn => by
    simp only [cs_kept, List.mem_cons, List.not_mem_nil, or_false] at hn
    rcases hn with rfl
    · exact ⟨yParty, PySem.W.mg_of X G aParty, ⟨pgParty, hdParty, poParty, saParty⟩, naParty_kept⟩), (fun n hn => by
    simp only [cs_names, List.mem_cons, List.not_mem_nil, or_false] at hn
    rcases hn with rfl
    · exact ⟨yParty, PySem.W.mg_of X G aParty, ⟨pgParty, hdParty, poParty, saParty⟩, naParty_names⟩), (fun n hn => by
    simp only [cs_tables, List.mem_cons, List.not_mem_nil, or_false] at hn
    rcases hn with rfl
    · exact ⟨yBook, PySem.W.mg_of X G aBook, ⟨pgBook, hdBook, poBook, saBook⟩, naBook_tables⟩), (fun n hn => by
    simp only [cs_world, List.mem_cons, List.not_mem_nil, or_false] at hn
    rcases hn with rfl
    · exact ⟨yBook, PySem.W.mg_of X G aBook, ⟨pgBook, hdBook, poBook, saBook⟩, naBook_world⟩)⟩
  have H0 := fun_mk (st := top 57) l0 c0 k0
  have B0 := H0.binds (ps := ["_law_script"]) fun _ _ _ _ _ _ us hl => match us, hl with | [_], _ => rfl
  have F__law_feed : Fn ⟨P, w, K, mg⟩ 1 "_law_feed" g__law_feed := fn_def [0] m__law_feed H0 sc__law_feed B0 (PySem.W.mg_of X G a0) (fun base cdv A outer s H E vs W g => b__law_feed T  base _ cdv A outer s H E vs W g)
  have H1 := fun_mk (st := top 58) l1 c1 k1
  have B1 := H1.binds (ps := ["_law_feed_here", "_law_many"]) fun _ _ _ _ _ _ us hl => match us, hl with | [_, _], _ => rfl
  have F__law_draw : Fn ⟨P, w, K, mg⟩ 1 "_law_draw" g__law_draw := fn_def [0, 1] m__law_draw H1 sc__law_draw B1 (PySem.W.mg_of X G a1) (fun base cdv A outer s H E vs W g => b__law_draw T  base _ cdv A outer s H E vs W g)
  have H2 := fun_mk (st := top 61) l2 c2 k2
  have B2 := H2.binds (ps := ["_law_feed_here", "_law_things", "_law_many"]) fun _ _ _ _ _ _ us hl => match us, hl with | [_, _, _], _ => rfl
  have F__law_pick : Fn ⟨P, w, K, mg⟩ 2 "_law_pick" g__law_pick := fn_def [0, 1, 2] m__law_pick H2 sc__law_pick B2 (PySem.W.mg_of X G a2) (fun base cdv A outer s H E vs W g => b__law_pick T F__law_draw base _ cdv A outer s H E vs W g)
  have H3 := fun_mk (st := top 63) l3 c3 k3
  have B3 := H3.binds (ps := ["_law_feed_here", "_law_people_here"]) fun _ _ _ _ _ _ us hl => match us, hl with | [_, _], _ => rfl
  have F__law_folk : Fn ⟨P, w, K, mg⟩ 3 "_law_folk" g__law_folk := fn_def [0, 1] m__law_folk H3 sc__law_folk B3 (PySem.W.mg_of X G a3) (fun base cdv A outer s H E vs W g => b__law_folk T F__law_pick F__law_draw base _ cdv A outer s H E vs W g)
  have H4 := fun_mk (st := top 16) l4 c4 k4
  have B4 := H4.binds (ps := ["thing"]) fun _ _ _ _ _ _ us hl => match us, hl with | [_], _ => rfl
  have F_is_comer : Fn ⟨P, w, K, mg⟩ 1 "is_comer" g_is_comer := fn_def [0] m_is_comer H4 sc_is_comer B4 (PySem.W.mg_of X G a4) (fun base cdv A outer s H E vs W g => b_is_comer T  base _ cdv A outer s H E vs W g)
  have H5 := fun_mk (st := top 51) l5 c5 k5
  have B5 := H5.binds (ps := ["folk"]) fun _ _ _ _ _ _ us hl => match us, hl with | [_], _ => rfl
  have F_ranked : Fn ⟨P, w, K, mg⟩ 2 "ranked" g_ranked := fn_def [0] m_ranked H5 sc_ranked B5 (PySem.W.mg_of X G a5) (fun base cdv A outer s H E vs W g => b_ranked T F_is_comer base _ cdv A outer s H E vs W g)
  have H6 := fun_mk (st := top 52) l6 c6 k6
  have B6 := H6.binds (ps := ["place"]) fun _ _ _ _ _ _ us hl => match us, hl with | [_], _ => rfl
  have F_place_form : Fn ⟨P, w, K, mg⟩ 3 "place_form" g_place_form := fn_def [0] m_place_form H6 sc_place_form B6 (PySem.W.mg_of X G a6) (fun base cdv A outer s H E vs W g => b_place_form T F_ranked base _ cdv A outer s H E vs W g)
  have H7 := fun_mk (st := top 12) l7 c7 k7
  have B7 := H7.binds (ps := ["thing"]) fun _ _ _ _ _ _ us hl => match us, hl with | [_], _ => rfl
  have F_is_pair : Fn ⟨P, w, K, mg⟩ 1 "is_pair" g_is_pair := fn_def [0] m_is_pair H7 sc_is_pair B7 (PySem.W.mg_of X G a7) (fun base cdv A outer s H E vs W g => b_is_pair T  base _ cdv A outer s H E vs W g)
  have H8 := fun_mk (st := top 13) l8 c8 k8
  have B8 := H8.binds (ps := ["thing", "signs"]) fun _ _ _ _ _ _ us hl => match us, hl with | [_, _], _ => rfl
  have F_is_of : Fn ⟨P, w, K, mg⟩ 1 "is_of" g_is_of := fn_def [0, 1] m_is_of H8 sc_is_of B8 (PySem.W.mg_of X G a8) (fun base cdv A outer s H E vs W g => b_is_of T  base _ cdv A outer s H E vs W g)
  have H9 := fun_mk (st := top 14) l9 c9 k9
  have B9 := H9.binds (ps := ["thing"]) fun _ _ _ _ _ _ us hl => match us, hl with | [_], _ => rfl
  have F_is_label : Fn ⟨P, w, K, mg⟩ 2 "is_label" g_is_label := fn_def [0] m_is_label H9 sc_is_label B9 (PySem.W.mg_of X G a9) (fun base cdv A outer s H E vs W g => b_is_label T F_is_of base _ cdv A outer s H E vs W g)
  have H10 := fun_mk (st := top 18) l10 c10 k10
  have B10 := H10.binds (ps := ["things"]) fun _ _ _ _ _ _ us hl => match us, hl with | [_], _ => rfl
  have F_are_unlike : Fn ⟨P, w, K, mg⟩ 1 "are_unlike" g_are_unlike := fn_def [0] m_are_unlike H10 sc_are_unlike B10 (PySem.W.mg_of X G a10) (fun base cdv A outer s H E vs W g => b_are_unlike T  base _ cdv A outer s H E vs W g)
  have H11 := fun_mk (st := top 15) l11 c11 k11
  have B11 := H11.binds (ps := ["thing"]) fun _ _ _ _ _ _ us hl => match us, hl with | [_], _ => rfl
  have F_is_name : Fn ⟨P, w, K, mg⟩ 2 "is_name" g_is_name := fn_def [0] m_is_name H11 sc_is_name B11 (PySem.W.mg_of X G a11) (fun base cdv A outer s H E vs W g => b_is_name T F_is_of base _ cdv A outer s H E vs W g)
  have H12 := fun_mk (st := top 17) l12 c12 k12
  have B12 := H12.binds (ps := ["thing"]) fun _ _ _ _ _ _ us hl => match us, hl with | [_], _ => rfl
  have F_is_folk : Fn ⟨P, w, K, mg⟩ 3 "is_folk" g_is_folk := fn_def [0] m_is_folk H12 sc_is_folk B12 (PySem.W.mg_of X G a12) (fun base cdv A outer s H E vs W g => b_is_folk T F_is_name F_is_comer base _ cdv A outer s H E vs W g)
  have H13 := fun_mk (st := top 19) l13 c13 k13
  have B13 := H13.binds (ps := ["thing"]) fun _ _ _ _ _ _ us hl => match us, hl with | [_], _ => rfl
  have F_are_unlike_folk : Fn ⟨P, w, K, mg⟩ 4 "are_unlike_folk" g_are_unlike_folk := fn_def [0] m_are_unlike_folk H13 sc_are_unlike_folk B13 (PySem.W.mg_of X G a13) (fun base cdv A outer s H E vs W g => b_are_unlike_folk T F_is_folk F_are_unlike base _ cdv A outer s H E vs W g)
  have H14 := fun_mk (st := top 55) l14 c14 k14
  have B14 := H14.binds (ps := ["place"]) fun _ _ _ _ _ _ us hl => match us, hl with | [_], _ => rfl
  have F_form_of : Fn ⟨P, w, K, mg⟩ 5 "form_of" g_form_of := fn_def [0] m_form_of H14 sc_form_of B14 (PySem.W.mg_of X G a14) (fun base cdv A outer s H E vs W g => b_form_of T F_is_pair F_is_label F_are_unlike_folk F_place_form base _ cdv A outer s H E vs W g)
  have H15 := fun_mk (st := top 44) l15 c15 k15
  have B15 := H15.binds (ps := ["thing"]) fun _ _ _ _ _ _ us hl => match us, hl with | [_], _ => rfl
  have F_are_names : Fn ⟨P, w, K, mg⟩ 3 "are_names" g_are_names := fn_def [0] m_are_names H15 sc_are_names B15 (PySem.W.mg_of X G a15) (fun base cdv A outer s H E vs W g => b_are_names T F_is_name F_are_unlike base _ cdv A outer s H E vs W g)
  have H16 := fun_mk (st := top 45) l16 c16 k16
  have B16 := H16.binds (ps := ["book", "folk", "thing"]) fun _ _ _ _ _ _ us hl => match us, hl with | [_, _, _], _ => rfl
  have F_is_place_of : Fn ⟨P, w, K, mg⟩ 2 "is_place_of" g_is_place_of := fn_def [0, 1, 2] m_is_place_of H16 sc_is_place_of B16 (PySem.W.mg_of X G a16) (fun base cdv A outer s H E vs W g => b_is_place_of T F_is_pair F_are_unlike base _ cdv A outer s H E vs W g)
  have H17 := fun_mk (st := top 10) l17 c17 k17
  have B17 := H17.binds (ps := ["thing"]) fun _ _ _ _ _ _ us hl => match us, hl with | [_], _ => rfl
  have F_is_integer : Fn ⟨P, w, K, mg⟩ 1 "is_integer" g_is_integer := fn_def [0] m_is_integer H17 sc_is_integer B17 (PySem.W.mg_of X G a17) (fun base cdv A outer s H E vs W g => b_is_integer T  base _ cdv A outer s H E vs W g)
  have H18 := fun_mk (st := top 11) l18 c18 k18
  have B18 := H18.binds (ps := ["thing", "least", "most"]) fun _ _ _ _ _ _ us hl => match us, hl with | [_, _, _], _ => rfl
  have F_is_within : Fn ⟨P, w, K, mg⟩ 2 "is_within" g_is_within := fn_def [0, 1, 2] m_is_within H18 sc_is_within B18 (PySem.W.mg_of X G a18) (fun base cdv A outer s H E vs W g => b_is_within T F_is_integer base _ cdv A outer s H E vs W g)
  have H19 := fun_mk (st := top 20) l19 c19 k19
  have B19 := H19.binds (ps := ["one", "other"]) fun _ _ _ _ _ _ us hl => match us, hl with | [_, _], _ => rfl
  have F_common_divisor : Fn ⟨P, w, K, mg⟩ 1 "common_divisor" g_common_divisor := fn_def ([] : List Nat) m_common_divisor H19 sc_common_divisor B19 (PySem.W.mg_of X G a19) (fun base cdv A outer s H E vs W g => b_common_divisor T  base _ cdv A outer s H E vs W g)
  have H20 := fun_mk (st := top 21) l20 c20 k20
  have B20 := H20.binds (ps := ["thing"]) fun _ _ _ _ _ _ us hl => match us, hl with | [_], _ => rfl
  have F_is_fraction : Fn ⟨P, w, K, mg⟩ 2 "is_fraction" g_is_fraction := fn_def [0] m_is_fraction H20 sc_is_fraction B20 (PySem.W.mg_of X G a20) (fun base cdv A outer s H E vs W g => b_is_fraction T F_is_pair F_is_integer F_common_divisor base _ cdv A outer s H E vs W g)
  have H21 := fun_mk (st := top 27) l21 c21 k21
  have B21 := H21.binds (ps := ["world", "thing"]) fun _ _ _ _ _ _ us hl => match us, hl with | [_, _], _ => rfl
  have F_is_number_of : Fn ⟨P, w, K, mg⟩ 3 "is_number_of" g_is_number_of := fn_def [0, 1] m_is_number_of H21 sc_is_number_of B21 (PySem.W.mg_of X G a21) (fun base cdv A outer s H E vs W g => b_is_number_of T F_is_integer F_is_fraction F_is_within base _ cdv A outer s H E vs W g)
  have H22 := fun_mk (st := top 46) l22 c22 k22
  have B22 := H22.binds (ps := ["book", "names", "thing"]) fun _ _ _ _ _ _ us hl => match us, hl with | [_, _, _], _ => rfl
  have F_are_numbers : Fn ⟨P, w, K, mg⟩ 4 "are_numbers" g_are_numbers := fn_def [0, 1, 2] m_are_numbers H22 sc_are_numbers B22 (PySem.W.mg_of X G a22) (fun base cdv A outer s H E vs W g => b_are_numbers T F_is_place_of F_is_number_of base _ cdv A outer s H E vs W g)
  have H23 := fun_mk (st := inClass (top 47) 0) l23 c23 k23
  have B23 := H23.binds (ps := ["self", "book", "names", "numbers"]) fun _ _ _ _ _ _ us hl => match us, hl with | [_, _, _, _], _ => rfl
  have M_Party : MkOk ⟨P, w, K, mg⟩ 5 "Party" g_Party__init := mk_def [0, 1, 2, 3] m_Party__init H23 sc_Party__init B23 (PySem.W.mg_of X G aParty) ⟨mkParty, a23, i23, kcParty⟩ (fun base cdv A outer s H E vs W g => b_Party__init T F_are_names F_are_numbers base _ cdv A outer s H E vs W g)
  have H24 := fun_mk (st := top 59) l24 c24 k24
  have B24 := H24.binds (ps := ["_law_feed_here", "_law_signs", "_law_many"]) fun _ _ _ _ _ _ us hl => match us, hl with | [_, _, _], _ => rfl
  have F__law_words : Fn ⟨P, w, K, mg⟩ 2 "_law_words" g__law_words := fn_def [0, 1, 2] m__law_words H24 sc__law_words B24 (PySem.W.mg_of X G a24) (fun base cdv A outer s H E vs W g => b__law_words T F__law_draw base _ cdv A outer s H E vs W g)
  have H25 := fun_mk (st := top 60) l25 c25 k25
  have B25 := H25.binds (ps := ["_law_feed_here", "_law_many"]) fun _ _ _ _ _ _ us hl => match us, hl with | [_, _], _ => rfl
  have F__law_people : Fn ⟨P, w, K, mg⟩ 3 "_law_people" g__law_people := fn_def [0, 1] m__law_people H25 sc__law_people B25 (PySem.W.mg_of X G a25) (fun base cdv A outer s H E vs W g => b__law_people T F__law_words base _ cdv A outer s H E vs W g)
  have H26 := fun_mk (st := top 62) l26 c26 k26
  have B26 := H26.binds (ps := ["_law_row"]) fun _ _ _ _ _ _ us hl => match us, hl with | [_], _ => rfl
  have F__law_ranks : Fn ⟨P, w, K, mg⟩ 1 "_law_ranks" g__law_ranks := fn_def [0] m__law_ranks H26 sc__law_ranks B26 (PySem.W.mg_of X G a26) (fun base cdv A outer s H E vs W g => b__law_ranks T  base _ cdv A outer s H E vs W g)
  have H27 := fun_mk (st := top 26) l27 c27 k27
  have B27 := H27.binds (ps := ["thing"]) fun _ _ _ _ _ _ us hl => match us, hl with | [_], _ => rfl
  have F_is_world : Fn ⟨P, w, K, mg⟩ 3 "is_world" g_is_world := fn_def [0] m_is_world H27 sc_is_world B27 (PySem.W.mg_of X G a27) (fun base cdv A outer s H E vs W g => b_is_world T F_is_within base _ cdv A outer s H E vs W g)
  have H28 := fun_mk (st := top 36) l28 c28 k28
  have B28 := H28.binds (ps := ["thing"]) fun _ _ _ _ _ _ us hl => match us, hl with | [_], _ => rfl
  have F_is_table : Fn ⟨P, w, K, mg⟩ 3 "is_table" g_is_table := fn_def [0] m_is_table H28 sc_is_table B28 (PySem.W.mg_of X G a28) (fun base cdv A outer s H E vs W g => b_is_table T F_is_pair F_is_label F_is_within base _ cdv A outer s H E vs W g)
  have H29 := fun_mk (st := top 37) l29 c29 k29
  have B29 := H29.binds (ps := ["thing"]) fun _ _ _ _ _ _ us hl => match us, hl with | [_], _ => rfl
  have F_are_tables : Fn ⟨P, w, K, mg⟩ 4 "are_tables" g_are_tables := fn_def [0] m_are_tables H29 sc_are_tables B29 (PySem.W.mg_of X G a29) (fun base cdv A outer s H E vs W g => b_are_tables T F_is_table F_are_unlike base _ cdv A outer s H E vs W g)
  have H30 := fun_mk (st := top 38) l30 c30 k30
  have B30 := H30.binds (ps := ["known", "thing"]) fun _ _ _ _ _ _ us hl => match us, hl with | [_, _], _ => rfl
  have F_is_term : Fn ⟨P, w, K, mg⟩ 3 "is_term" g_is_term := fn_def [0, 1] m_is_term H30 sc_is_term B30 (PySem.W.mg_of X G a30) (fun base cdv A outer s H E vs W g => b_is_term T F_is_within F_are_unlike base _ cdv A outer s H E vs W g)
  have H31 := fun_mk (st := top 39) l31 c31 k31
  have B31 := H31.binds (ps := ["known", "thing"]) fun _ _ _ _ _ _ us hl => match us, hl with | [_, _], _ => rfl
  have F_is_demand : Fn ⟨P, w, K, mg⟩ 4 "is_demand" g_is_demand := fn_def [0, 1] m_is_demand H31 sc_is_demand B31 (PySem.W.mg_of X G a31) (fun base cdv A outer s H E vs W g => b_is_demand T F_is_pair F_is_term F_is_within base _ cdv A outer s H E vs W g)
  have H32 := fun_mk (st := inClass (top 40) 0) l32 c32 k32
  have B32 := H32.binds (ps := ["self", "world", "tables", "demands"]) fun _ _ _ _ _ _ us hl => match us, hl with | [_, _, _, _], _ => rfl
  have M_Book : MkOk ⟨P, w, K, mg⟩ 5 "Book" g_Book__init := mk_def [0, 1, 2, 3] m_Book__init H32 sc_Book__init B32 (PySem.W.mg_of X G aBook) ⟨mkBook, a32, i32, kcBook⟩ (fun base cdv A outer s H E vs W g => b_Book__init T F_is_world F_are_tables F_is_demand base _ cdv A outer s H E vs W g)
  have H33 := fun_mk (st := top 41) l33 c33 k33
  have B33 := H33.binds (ps := ["folk", "many"]) fun _ _ _ _ _ _ us hl => match us, hl with | [_, _], _ => rfl
  have F_arrangements : Fn ⟨P, w, K, mg⟩ 1 "arrangements" g_arrangements := fn_def [0, 1] m_arrangements H33 sc_arrangements B33 (PySem.W.mg_of X G a33) (fun base cdv A outer s H E vs W g => b_arrangements T  base _ cdv A outer s H E vs W g)
  have H34 := fun_mk (st := top 48) l34 c34 k34
  have B34 := H34.binds (ps := ["many"]) fun _ _ _ _ _ _ us hl => match us, hl with | [_], _ => rfl
  have F_comers : Fn ⟨P, w, K, mg⟩ 1 "comers" g_comers := fn_def [0] m_comers H34 sc_comers B34 (PySem.W.mg_of X G a34) (fun base cdv A outer s H E vs W g => b_comers T  base _ cdv A outer s H E vs W g)
  have H35 := fun_mk (st := top 53) l35 c35 k35
  have B35 := H35.binds (ps := ["book", "names"]) fun _ _ _ _ _ _ us hl => match us, hl with | [_, _], _ => rfl
  have F_forms_of : Fn ⟨P, w, K, mg⟩ 3 "forms_of" g_forms_of := fn_def [0, 1] m_forms_of H35 sc_forms_of B35 (PySem.W.mg_of X G a35) (fun base cdv A outer s H E vs W g => b_forms_of T F_arrangements F_comers F_ranked base _ cdv A outer s H E vs W g)
  have H36 := fun_mk (st := top 54) l36 c36 k36
  have B36 := H36.binds (ps := ["party"]) fun _ _ _ _ _ _ us hl => match us, hl with | [_], _ => rfl
  have F_forms : Fn ⟨P, w, K, mg⟩ 4 "forms" g_forms := fn_def [0] m_forms H36 sc_forms B36 (PySem.W.mg_of X G a36) (fun base cdv A outer s H E vs W g => b_forms T F_forms_of base _ cdv A outer s H E vs W g)
  have H37 := fun_mk (st := top 64) l37 c37 k37
  exact ⟨_, fun s v => .of_eq rfl, fun base _ _ => fn_ok [0] m_law H37 sc_law base (fun base cdv A outer s H E vs W g => b_law T F__law_feed F__law_words F__law_folk F__law_people F__law_pick F__law_ranks F_form_of M_Party M_Book F_forms base _ cdv A outer s H E vs W g)⟩
end Mi
open PySem PySem.W PyProof.Rows
set_option maxRecDepth 100000 in
set_option maxHeartbeats 0 in
theorem PySem.Challenge.cw_elderalike_k31_whole_form_of_holds : PySem.Challenge.rw_elderalike_k31_whole_form_of.Holds := by
  w_on; o_law; k_head; (case hw => w_witness2)
  k_fill
  refine Mi.law_walk (l := PySem.Challenge.rw_elderalike_k31_whole_form_of) (k := 7) (g := Mi.g_law) rfl rfl ⟨rfl, by decide, by decide⟩ (fun w h Y => PySem.W.kIn_of Y) ?F Mi.law_true
  case F =>
    intro w mg fa h KX G hmg
    refine' Mi.all_mk KX G hmg ?n_abs ?n_all ?n_bool ?n_dict ?n_int ?n_isinstance ?n_len ?n_list ?n_range ?n_sorted ?n_str ?n_tuple ?c_FIGURES ?c_FRACTIONS ?c_GREAT ?c_LETTERS ?c_MOST_DEMANDS ?c_MOST_FACTOR ?c_MOST_HOURS ?c_MOST_NAMES ?c_MOST_RIGHT ?c_MOST_SIGNS ?c_MOST_SIZE_books ?c_MOST_SIZE_rules ?c_MOST_TABLES ?c_MOST_TERMS ?c_SMALL ?c_WHOLE ?gNoPlace ?qNoPlace ?kNoPlace ?bNoPlace ?tNoPlace ?aBook ?pgBook ?hdBook ?poBook ?saBook ?naBook_demands ?naBook_tables ?naBook_world ?aParty ?pgParty ?hdParty ?poParty ?saParty ?naParty_book ?naParty_kept ?naParty_names ?a0 ?l0 ?c0 ?k0 ?a1 ?l1 ?c1 ?k1 ?a2 ?l2 ?c2 ?k2 ?a3 ?l3 ?c3 ?k3 ?a4 ?l4 ?c4 ?k4 ?a5 ?l5 ?c5 ?k5 ?a6 ?l6 ?c6 ?k6 ?a7 ?l7 ?c7 ?k7 ?a8 ?l8 ?c8 ?k8 ?a9 ?l9 ?c9 ?k9 ?a10 ?l10 ?c10 ?k10 ?a11 ?l11 ?c11 ?k11 ?a12 ?l12 ?c12 ?k12 ?a13 ?l13 ?c13 ?k13 ?a14 ?l14 ?c14 ?k14 ?a15 ?l15 ?c15 ?k15 ?a16 ?l16 ?c16 ?k16 ?a17 ?l17 ?c17 ?k17 ?a18 ?l18 ?c18 ?k18 ?a19 ?l19 ?c19 ?k19 ?a20 ?l20 ?c20 ?k20 ?a21 ?l21 ?c21 ?k21 ?a22 ?l22 ?c22 ?k22 ?a23 ?i23 ?mkParty ?kcParty ?l23 ?c23 ?k23 ?a24 ?l24 ?c24 ?k24 ?a25 ?l25 ?c25 ?k25 ?a26 ?l26 ?c26 ?k26 ?a27 ?l27 ?c27 ?k27 ?a28 ?l28 ?c28 ?k28 ?a29 ?l29 ?c29 ?k29 ?a30 ?l30 ?c30 ?k30 ?a31 ?l31 ?c31 ?k31 ?a32 ?i32 ?mkBook ?kcBook ?l32 ?c32 ?k32 ?a33 ?l33 ?c33 ?k33 ?a34 ?l34 ?c34 ?k34 ?a35 ?l35 ?c35 ?k35 ?a36 ?l36 ?c36 ?k36 ?a37 ?l37 ?c37 ?k37
    (case n_abs => k_is); (case n_all => k_is); (case n_bool => k_is); (case n_dict => k_is); (case n_int => k_is); (case n_isinstance => k_is); (case n_len => k_is); (case n_list => k_is); (case n_range => k_is); (case n_sorted => k_is); (case n_str => k_is); (case n_tuple => k_is); (case c_FIGURES => k_is); (case c_FRACTIONS => k_is); (case c_GREAT => k_is); (case c_LETTERS => k_is); (case c_MOST_DEMANDS => k_is); (case c_MOST_FACTOR => k_is); (case c_MOST_HOURS => k_is); (case c_MOST_NAMES => k_is); (case c_MOST_RIGHT => k_is); (case c_MOST_SIGNS => k_is); (case c_MOST_SIZE_books => k_is); (case c_MOST_SIZE_rules => k_is); (case c_MOST_TABLES => k_is); (case c_MOST_TERMS => k_is); (case c_SMALL => k_is); (case c_WHOLE => k_is); (case gNoPlace => k_is); (case qNoPlace => k_exc); (case kNoPlace => k_is); (case bNoPlace => k_is); (case tNoPlace => k_is); (case aBook => k_is); (case pgBook => k_is); (case hdBook => k_is); (case poBook => k_is); (case saBook => k_is); (case naBook_demands => k_is); (case naBook_tables => k_is); (case naBook_world => k_is); (case aParty => k_is); (case pgParty => k_is); (case hdParty => k_is); (case poParty => k_is); (case saParty => k_is); (case naParty_book => k_is); (case naParty_kept => k_is); (case naParty_names => k_is); (case a0 => k_is); (case l0 => k_is); (case c0 => k_is); (case k0 => k_is); (case a1 => k_is); (case l1 => k_is); (case c1 => k_is); (case k1 => k_is); (case a2 => k_is); (case l2 => k_is); (case c2 => k_is); (case k2 => k_is); (case a3 => k_is); (case l3 => k_is); (case c3 => k_is); (case k3 => k_is); (case a4 => k_is); (case l4 => k_is); (case c4 => k_is); (case k4 => k_is); (case a5 => k_is); (case l5 => k_is); (case c5 => k_is); (case k5 => k_is); (case a6 => k_is); (case l6 => k_is); (case c6 => k_is); (case k6 => k_is); (case a7 => k_is); (case l7 => k_is); (case c7 => k_is); (case k7 => k_is); (case a8 => k_is); (case l8 => k_is); (case c8 => k_is); (case k8 => k_is); (case a9 => k_is); (case l9 => k_is); (case c9 => k_is); (case k9 => k_is); (case a10 => k_is); (case l10 => k_is); (case c10 => k_is); (case k10 => k_is); (case a11 => k_is); (case l11 => k_is); (case c11 => k_is); (case k11 => k_is); (case a12 => k_is); (case l12 => k_is); (case c12 => k_is); (case k12 => k_is); (case a13 => k_is); (case l13 => k_is); (case c13 => k_is); (case k13 => k_is); (case a14 => k_is); (case l14 => k_is); (case c14 => k_is); (case k14 => k_is); (case a15 => k_is); (case l15 => k_is); (case c15 => k_is); (case k15 => k_is); (case a16 => k_is); (case l16 => k_is); (case c16 => k_is); (case k16 => k_is); (case a17 => k_is); (case l17 => k_is); (case c17 => k_is); (case k17 => k_is); (case a18 => k_is); (case l18 => k_is); (case c18 => k_is); (case k18 => k_is); (case a19 => k_is); (case l19 => k_is); (case c19 => k_is); (case k19 => k_is); (case a20 => k_is); (case l20 => k_is); (case c20 => k_is); (case k20 => k_is); (case a21 => k_is); (case l21 => k_is); (case c21 => k_is); (case k21 => k_is); (case a22 => k_is); (case l22 => k_is); (case c22 => k_is); (case k22 => k_is); (case a23 => k_is); (case i23 => k_is); (case mkParty => k_is); (case kcParty => k_is); (case l23 => k_is); (case c23 => k_is); (case k23 => k_is); (case a24 => k_is); (case l24 => k_is); (case c24 => k_is); (case k24 => k_is); (case a25 => k_is); (case l25 => k_is); (case c25 => k_is); (case k25 => k_is); (case a26 => k_is); (case l26 => k_is); (case c26 => k_is); (case k26 => k_is); (case a27 => k_is); (case l27 => k_is); (case c27 => k_is); (case k27 => k_is); (case a28 => k_is); (case l28 => k_is); (case c28 => k_is); (case k28 => k_is); (case a29 => k_is); (case l29 => k_is); (case c29 => k_is); (case k29 => k_is); (case a30 => k_is); (case l30 => k_is); (case c30 => k_is); (case k30 => k_is); (case a31 => k_is); (case l31 => k_is); (case c31 => k_is); (case k31 => k_is); (case a32 => k_is); (case i32 => k_is); (case mkBook => k_is); (case kcBook => k_is); (case l32 => k_is); (case c32 => k_is); (case k32 => k_is); (case a33 => k_is); (case l33 => k_is); (case c33 => k_is); (case k33 => k_is); (case a34 => k_is); (case l34 => k_is); (case c34 => k_is); (case k34 => k_is); (case a35 => k_is); (case l35 => k_is); (case c35 => k_is); (case k35 => k_is); (case a36 => k_is); (case l36 => k_is); (case c36 => k_is); (case k36 => k_is); (case a37 => k_is); (case l37 => k_is); (case c37 => k_is); (case k37 => k_is)
