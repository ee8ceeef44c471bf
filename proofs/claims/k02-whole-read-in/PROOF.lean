import PyProof.Rows.All
import Wide.All
import OpenK.AllK
import Wide.FinOn
import HandS.ForMost
import HandS.ForExc
import HandS.Wide
import HandS.IsInst
import HandS.CallSlots
import HandS.ExcInit
import HandS.TryOnly
import HandS.TupAny
import HandS.Style
import HandS.SortInts
import HandS.Comp
import HandS.Small
import HandS.WordsExc
import HandS.EndBits
import HandS.TryMany
import PySem.Challenge.RW_elderalike_k02_whole_read_in
set_option Elab.async false
set_option linter.all false
set_option maxRecDepth 100000
set_option maxHeartbeats 4000000
namespace Mi
open PySem PySem.Spec PyProof.Rows L2

/- data; the flag at a list, a dict, an instance: nothing else holds it -/
inductive D where
  | non | bl (b : Bool) | int (i : Int) | str (s : Str) | ty (n : String) | fn (x : Str) | scr (l : List Int)
  | tup (l : List D)
  | lst (o : Bool) (l : List D)
  | dic (o : Bool) (ks ws : List D)
  | ins (o : Bool) (c : Str) (ns : List Str) (ws : List D)
  deriving Inhabited

mutual
def fz : D → Bool
  | .tup l => fzL l
  | .lst o l => !o && fzL l
  | .dic o ks ws => !o && (fzL ks && fzL ws)
  | .ins o _ _ ws => !o && fzL ws
  | _ => true
def fzL : List D → Bool
  | [] => true
  | d :: r => fz d && fzL r
end
mutual
def frz : D → D
  | .tup l => .tup (frzL l)
  | .lst _ l => .lst false (frzL l)
  | .dic _ ks ws => .dic false ks (frzL ws)
  | .ins _ c ns ws => .ins false c ns (frzL ws)
  | .non => .non | .bl b => .bl b | .int i => .int i | .str s => .str s | .ty n => .ty n | .fn x => .fn x | .scr l => .scr l
def frzL : List D → List D
  | [] => []
  | d :: r => frz d :: frzL r
end
abbrev Tag := Nat × List Nat
structure Wd where
  F : Hp
  H : Hp
  t : Addr → Option Tag
structure KM where
  P : Program
  w : World
  K : PySem.W.Frag
  mg : Str → Option Value

/- a dict's object: its keys and values -/
inductive DCell : HO → List V → List V → Prop where
  | dk (kvs : List (Key × V)) : DCell (.dK kvs) (kvs.map fun p => kV p.1) (kvs.map (·.2))

mutual
def Rep (C : KM) (a : Wd) (r : Nat) (p : List Nat) (v : V) : D → Prop
  | .non => v = .non
  | .bl b => v = .bl b
  | .int i => v = .int i
  | .str s => v = .str s
  | .ty n => v = .ty n
  | .fn x => ∃ u, C.mg x = some (.ref u) ∧ v = .ref u
  | .scr l => ∃ x, v = .ref x ∧ SqL C.K a.F x (l.map V.int)
  | .tup l => ∃ x vs, v = .ref x ∧ SqT C.K a.F x vs ∧ RepL C a r p 0 vs l
  | .lst o l => ∃ x vs, v = .ref x ∧ (if o = true then a.t x = some (r, p) ∧ a.H x = some (.lst vs) else a.F x = some (.lst vs) ∧ fzL l = true) ∧ RepL C a r p 0 vs l
  | .dic o ks ws => ∃ x h kv vs, v = .ref x ∧ (if o = true then a.t x = some (r, p) ∧ a.H x = some h else a.F x = some h ∧ fzL ws = true) ∧ DCell h kv vs ∧ fzL ks = true ∧ RepL C a r p 0 kv ks ∧ RepL C a r p 0 vs ws
  | .ins o c ns ws => ∃ x u dx vs, v = .ref x ∧ C.mg c = some (.ref u) ∧ vs.length = ns.length ∧
      (if o = true then a.t x = some (r, p) ∧ a.H x = some (.ins u dx (ns.zip vs)) else a.F x = some (.ins u dx (ns.zip vs)) ∧ fzL ws = true) ∧ RepL C a r p 0 vs ws
def RepL (C : KM) (a : Wd) (r : Nat) (p : List Nat) (n : Nat) (vs : List V) : List D → Prop
  | [] => vs = []
  | d :: ds => ∃ v us, vs = v :: us ∧ Rep C a r (n :: p) v d ∧ RepL C a r p (n + 1) us ds
end

structure Ok (a : Wd) : Prop where
  sub : ∀ x o, a.F x = some o → a.H x = some o
  own : ∀ x t, a.t x = some t → a.F x = none ∧ ∃ o, a.H x = some o
/- nothing is changed, things may be new -/
structure Grow (a b : Wd) : Prop where
  h : ∀ x o, a.H x = some o → b.H x = some o ∧ b.t x = a.t x ∧ b.F x = a.F x
/- what is not owned stays -/
def Step (a b : Wd) : Prop := ∀ x o, a.H x = some o → a.t x = none → b.H x = some o ∧ b.t x = none ∧ b.F x = a.F x
theorem Grow.refl (a : Wd) : Grow a a := ⟨fun _ _ h => ⟨h, rfl, rfl⟩⟩
theorem Grow.trans {a b c : Wd} (x : Grow a b) (y : Grow b c) : Grow a c := ⟨fun z o h => by
  obtain ⟨h1, h2, h3⟩ := x.h z o h
  obtain ⟨g1, g2, g3⟩ := y.h z o h1
  exact ⟨g1, g2.trans h2, g3.trans h3⟩⟩
theorem Step.refl (a : Wd) : Step a a := fun _ _ h t => ⟨h, t, rfl⟩
theorem Step.trans {a b c : Wd} (x : Step a b) (y : Step b c) : Step a c := fun z o h t => by
  obtain ⟨h1, h2, h3⟩ := x z o h t
  obtain ⟨g1, g2, g3⟩ := y z o h1 h2
  exact ⟨g1, g2, g3.trans h3⟩
theorem Grow.step {a b : Wd} (x : Grow a b) : Step a b := fun z o h t => by
  obtain ⟨h1, h2, h3⟩ := x.h z o h
  exact ⟨h1, h2.trans t, h3⟩
theorem Ok.tn {a : Wd} (k : Ok a) {x : Addr} {o : HO} (h : a.F x = some o) : a.t x = none := by
  cases e : a.t x with
  | none => rfl
  | some t => have := (k.own x t e).1; rw [h] at this; cases this
theorem Step.f {a b : Wd} (s : Step a b) (k : Ok a) {x : Addr} {o : HO} (h : a.F x = some o) : b.F x = some o := by
  rw [(s x o (k.sub x o h) (k.tn h)).2.2]; exact h
theorem Grow.f {a b : Wd} (s : Grow a b) (k : Ok a) {x : Addr} {o : HO} (h : a.F x = some o) : b.F x = some o := by
  rw [(s.h x o (k.sub x o h)).2.2]; exact h

theorem sql_mono {K : PySem.W.Frag} {F G : Hp} (h : ∀ x o, F x = some o → G x = some o) {x : Addr} {vs : List V} (q : SqL K F x vs) : SqL K G x vs := by
  rcases q with (q | ⟨o, q⟩) | q
  · exact .inl (.inl (h _ _ q))
  · exact .inl (.inr ⟨o, h _ _ q⟩)
  · exact .inr q
theorem sqt_mono {K : PySem.W.Frag} {F G : Hp} (h : ∀ x o, F x = some o → G x = some o) {x : Addr} {vs : List V} (q : SqT K F x vs) : SqT K G x vs := by
  rcases q with (q | ⟨o, q⟩) | q
  · exact .inl (.inl (h _ _ q))
  · exact .inl (.inr ⟨o, h _ _ q⟩)
  · exact .inr q

/-! the general transport: F grows, owned nodes of the tree keep their cell and get the new tag -/
mutual
theorem Rep.to {C : KM} {a b : Wd} {r s : Nat} {p q : List Nat} (hf : ∀ x o, a.F x = some o → b.F x = some o)
    (ho : ∀ x z o, a.t x = some (r, z ++ p) → a.H x = some o → b.t x = some (s, z ++ q) ∧ b.H x = some o) :
    ∀ (d : D) (z : List Nat) (v : V), Rep C a r (z ++ p) v d → Rep C b s (z ++ q) v d
  | .non, z, v, h => h
  | .bl _, z, v, h => h
  | .int _, z, v, h => h
  | .str _, z, v, h => h
  | .ty _, z, v, h => h
  | .fn _, z, v, h => h
  | .scr _, z, v, ⟨x, e, h⟩ => ⟨x, e, sql_mono hf h⟩
  | .tup l, z, v, ⟨x, vs, e, h, k⟩ => ⟨x, vs, e, sqt_mono hf h, RepL.to hf ho l z 0 vs k⟩
  | .lst true l, z, v, ⟨x, vs, e, h, k⟩ => ⟨x, vs, e, by rw [if_pos rfl] at h ⊢; exact ho x z _ h.1 h.2, RepL.to hf ho l z 0 vs k⟩
  | .lst false l, z, v, ⟨x, vs, e, h, k⟩ => ⟨x, vs, e, by rw [if_neg Bool.false_ne_true] at h ⊢; exact ⟨hf _ _ h.1, h.2⟩, RepL.to hf ho l z 0 vs k⟩
  | .dic true ks ws, z, v, ⟨x, u, kv, vs, e, h, c, f, k1, k2⟩ => ⟨x, u, kv, vs, e, by rw [if_pos rfl] at h ⊢; exact ho x z _ h.1 h.2, c, f, RepL.to hf ho ks z 0 kv k1, RepL.to hf ho ws z 0 vs k2⟩
  | .dic false ks ws, z, v, ⟨x, u, kv, vs, e, h, c, f, k1, k2⟩ => ⟨x, u, kv, vs, e, by rw [if_neg Bool.false_ne_true] at h ⊢; exact ⟨hf _ _ h.1, h.2⟩, c, f, RepL.to hf ho ks z 0 kv k1, RepL.to hf ho ws z 0 vs k2⟩
  | .ins true c ns ws, z, v, ⟨x, u, dx, vs, e, m, l, h, k⟩ => ⟨x, u, dx, vs, e, m, l, by rw [if_pos rfl] at h ⊢; exact ho x z _ h.1 h.2, RepL.to hf ho ws z 0 vs k⟩
  | .ins false c ns ws, z, v, ⟨x, u, dx, vs, e, m, l, h, k⟩ => ⟨x, u, dx, vs, e, m, l, by rw [if_neg Bool.false_ne_true] at h ⊢; exact ⟨hf _ _ h.1, h.2⟩, RepL.to hf ho ws z 0 vs k⟩
theorem RepL.to {C : KM} {a b : Wd} {r s : Nat} {p q : List Nat} (hf : ∀ x o, a.F x = some o → b.F x = some o)
    (ho : ∀ x z o, a.t x = some (r, z ++ p) → a.H x = some o → b.t x = some (s, z ++ q) ∧ b.H x = some o) :
    ∀ (l : List D) (z : List Nat) (n : Nat) (vs : List V), RepL C a r (z ++ p) n vs l → RepL C b s (z ++ q) n vs l
  | [], z, n, vs, h => h
  | d :: l, z, n, vs, ⟨v, us, e, h1, h2⟩ => ⟨v, us, e, Rep.to hf ho d (n :: z) v h1, RepL.to hf ho l z (n + 1) us h2⟩
end
/-! frozen data stands at any tag -/
mutual
theorem Rep.fz {C : KM} {a b : Wd} {r s : Nat} (hf : ∀ x o, a.F x = some o → b.F x = some o) :
    ∀ (d : D) (p q : List Nat) (v : V), fz d = true → Rep C a r p v d → Rep C b s q v d
  | .non, p, q, v, _, h => h
  | .bl _, p, q, v, _, h => h
  | .int _, p, q, v, _, h => h
  | .str _, p, q, v, _, h => h
  | .ty _, p, q, v, _, h => h
  | .fn _, p, q, v, _, h => h
  | .scr _, p, q, v, _, ⟨x, e, h⟩ => ⟨x, e, sql_mono hf h⟩
  | .tup l, p, q, v, z, ⟨x, vs, e, h, k⟩ => ⟨x, vs, e, sqt_mono hf h, RepL.fz hf l p q 0 vs z k⟩
  | .lst true l, p, q, v, z, _ => by simp [Mi.fz] at z
  | .lst false l, p, q, v, z, ⟨x, vs, e, h, k⟩ => by
    have z : fzL l = true := by simpa [Mi.fz] using z
    exact ⟨x, vs, e, by rw [if_neg Bool.false_ne_true] at h ⊢; exact ⟨hf _ _ h.1, h.2⟩, RepL.fz hf l p q 0 vs z k⟩
  | .dic true ks ws, p, q, v, z, _ => by simp [Mi.fz] at z
  | .dic false ks ws, p, q, v, z, ⟨x, u, kv, vs, e, h, c, f, k1, k2⟩ => by
    have z : fzL ks = true ∧ fzL ws = true := by simpa [Mi.fz] using z
    exact ⟨x, u, kv, vs, e, by rw [if_neg Bool.false_ne_true] at h ⊢; exact ⟨hf _ _ h.1, h.2⟩, c, f, RepL.fz hf ks p q 0 kv z.1 k1, RepL.fz hf ws p q 0 vs z.2 k2⟩
  | .ins true c ns ws, p, q, v, z, _ => by simp [Mi.fz] at z
  | .ins false c ns ws, p, q, v, z, ⟨x, u, dx, vs, e, m, l, h, k⟩ => by
    have z : fzL ws = true := by simpa [Mi.fz] using z
    exact ⟨x, u, dx, vs, e, m, l, by rw [if_neg Bool.false_ne_true] at h ⊢; exact ⟨hf _ _ h.1, h.2⟩, RepL.fz hf ws p q 0 vs z k⟩
theorem RepL.fz {C : KM} {a b : Wd} {r s : Nat} (hf : ∀ x o, a.F x = some o → b.F x = some o) :
    ∀ (l : List D) (p q : List Nat) (n : Nat) {m : Nat} (vs : List V), fzL l = true → RepL C a r p n vs l → RepL C b s q m vs l
  | [], p, q, n, m, vs, _, h => h
  | d :: l, p, q, n, m, vs, z, ⟨v, us, e, h1, h2⟩ => by
    have z : Mi.fz d = true ∧ fzL l = true := by simpa [Mi.fzL] using z
    exact ⟨v, us, e, Rep.fz hf d (n :: p) (m :: q) v z.1 h1, RepL.fz hf l p q (n + 1) us z.2 h2⟩
end
/-! a tree is frozen: its nodes go into F -/
mutual
theorem Rep.frz {C : KM} {a b : Wd} {r s : Nat} (hf : ∀ x o, a.F x = some o → b.F x = some o) (ho : ∀ x z o, a.t x = some (r, z) → a.H x = some o → b.F x = some o) :
    ∀ (d : D) (p q : List Nat) (v : V), Rep C a r p v d → Mi.fz (Mi.frz d) = true ∧ Rep C b s q v (Mi.frz d)
  | .non, p, q, v, h => ⟨rfl, h⟩
  | .bl _, p, q, v, h => ⟨rfl, h⟩
  | .int _, p, q, v, h => ⟨rfl, h⟩
  | .str _, p, q, v, h => ⟨rfl, h⟩
  | .ty _, p, q, v, h => ⟨rfl, h⟩
  | .fn _, p, q, v, h => ⟨rfl, h⟩
  | .scr _, p, q, v, ⟨x, e, h⟩ => ⟨rfl, x, e, sql_mono hf h⟩
  | .tup l, p, q, v, ⟨x, vs, e, h, k⟩ => by
    obtain ⟨z, k'⟩ := RepL.frz (s := s) hf ho l p q 0 vs k
    exact ⟨by simpa [Mi.fz, Mi.frz] using z, x, vs, e, sqt_mono hf h, k'⟩
  | .lst o l, p, q, v, ⟨x, vs, e, h, k⟩ => by
    obtain ⟨z, k'⟩ := RepL.frz (s := s) hf ho l p q 0 vs k
    refine ⟨by simpa [Mi.fz, Mi.frz] using z, x, vs, e, ?_, k'⟩
    rw [if_neg Bool.false_ne_true]
    cases o with
    | true => rw [if_pos rfl] at h; exact ⟨ho x _ _ h.1 h.2, z⟩
    | false => rw [if_neg Bool.false_ne_true] at h; exact ⟨hf _ _ h.1, z⟩
  | .dic o ks ws, p, q, v, ⟨x, u, kv, vs, e, h, c, f, k1, k2⟩ => by
    obtain ⟨z, k'⟩ := RepL.frz (s := s) hf ho ws p q 0 vs k2
    refine ⟨by simp [Mi.fz, Mi.frz, z, f], x, u, kv, vs, e, ?_, c, f, RepL.fz hf ks p q 0 kv f k1, k'⟩
    rw [if_neg Bool.false_ne_true]
    cases o with
    | true => rw [if_pos rfl] at h; exact ⟨ho x _ _ h.1 h.2, z⟩
    | false => rw [if_neg Bool.false_ne_true] at h; exact ⟨hf _ _ h.1, z⟩
  | .ins o c ns ws, p, q, v, ⟨x, u, dx, vs, e, m, l, h, k⟩ => by
    obtain ⟨z, k'⟩ := RepL.frz (s := s) hf ho ws p q 0 vs k
    refine ⟨by simpa [Mi.fz, Mi.frz] using z, x, u, dx, vs, e, m, l, ?_, k'⟩
    rw [if_neg Bool.false_ne_true]
    cases o with
    | true => rw [if_pos rfl] at h; exact ⟨ho x _ _ h.1 h.2, z⟩
    | false => rw [if_neg Bool.false_ne_true] at h; exact ⟨hf _ _ h.1, z⟩
theorem RepL.frz {C : KM} {a b : Wd} {r s : Nat} (hf : ∀ x o, a.F x = some o → b.F x = some o) (ho : ∀ x z o, a.t x = some (r, z) → a.H x = some o → b.F x = some o) :
    ∀ (l : List D) (p q : List Nat) (n : Nat) {m : Nat} (vs : List V), RepL C a r p n vs l → fzL (frzL l) = true ∧ RepL C b s q m vs (frzL l)
  | [], p, q, n, m, vs, h => ⟨rfl, h⟩
  | d :: l, p, q, n, m, vs, ⟨v, us, e, h1, h2⟩ => by
    obtain ⟨z1, k1⟩ := Rep.frz (s := s) hf ho d (n :: p) (m :: q) v h1
    obtain ⟨z2, k2⟩ := RepL.frz (s := s) hf ho l p q (n + 1) (m := m + 1) us h2
    exact ⟨by simp [Mi.frzL, Mi.fzL, z1, z2], v, us, e, k1, k2⟩
end
end Mi
namespace Mi
open PySem PySem.Spec PyProof.Rows L2

mutual
theorem frz_fz : ∀ d : D, fz d = true → frz d = d
  | .non, _ => rfl
  | .bl _, _ => rfl
  | .int _, _ => rfl
  | .str _, _ => rfl
  | .ty _, _ => rfl
  | .fn _, _ => rfl
  | .scr _, _ => rfl
  | .tup l, h => by simp only [frz, frzL_fz l (by simpa [fz] using h)]
  | .lst o l, h => by
    have h : o = false ∧ fzL l = true := by simpa [fz] using h
    simp only [frz, frzL_fz l h.2, h.1]
  | .dic o ks ws, h => by
    have h : o = false ∧ fzL ks = true ∧ fzL ws = true := by simpa [fz] using h
    simp only [frz, frzL_fz ws h.2.2, h.1]
  | .ins o c ns ws, h => by
    have h : o = false ∧ fzL ws = true := by simpa [fz] using h
    simp only [frz, frzL_fz ws h.2, h.1]
theorem frzL_fz : ∀ l : List D, fzL l = true → frzL l = l
  | [], _ => rfl
  | d :: l, h => by
    have h : fz d = true ∧ fzL l = true := by simpa [fzL] using h
    simp only [frzL, frz_fz d h.1, frzL_fz l h.2]
end

/-! ### the worlds behind a freezing, a move -/
def frzW (a : Wd) (r : Nat) : Wd where
  F := fun x => match a.t x with | some (s, _) => if s = r then a.H x else a.F x | none => a.F x
  H := a.H
  t := fun x => match a.t x with | some (s, q) => if s = r then none else some (s, q) | none => none
def mvW (a : Wd) (r k : Nat) : Wd where
  F := a.F
  H := a.H
  t := fun x => match a.t x with | some (s, q) => if s = r then some (k, q) else some (s, q) | none => none
section
variable {a b : Wd} {C : KM} {r k s : Nat} {d : D} {v : V} {p q : List Nat}
theorem frzW_f (k : Ok a) : ∀ x o, a.F x = some o → (frzW a r).F x = some o := fun x o h => by
  show (match a.t x with | some (s, _) => if s = r then a.H x else a.F x | none => a.F x) = _
  rw [k.tn h]; exact h
theorem frzW_o (r : Nat) : ∀ x z o, a.t x = some (r, z) → a.H x = some o → (frzW a r).F x = some o := fun x z o h e => by
  show (match a.t x with | some (s, _) => if s = r then a.H x else a.F x | none => a.F x) = _
  rw [h]; simpa using e
theorem frzW_ok (k : Ok a) : Ok (frzW a r) := by
  refine ⟨fun x o h => ?_, fun x t h => ?_⟩
  · have h : (match a.t x with | some (s, _) => if s = r then a.H x else a.F x | none => a.F x) = some o := h
    show a.H x = some o
    split at h
    · split at h
      · exact h
      · exact k.sub x o h
    · exact k.sub x o h
  · have h : (match a.t x with | some (s, q) => if s = r then none else some (s, q) | none => none) = some t := h
    split at h
    · rename_i s q e
      split at h
      · cases h
      · rename_i ne
        obtain ⟨h1, h2⟩ := k.own x _ e
        refine ⟨?_, h2⟩
        show (match a.t x with | some (s, _) => if s = r then a.H x else a.F x | none => a.F x) = none
        rw [e]; simp [ne, h1]
    · cases h
theorem frzW_step : Step a (frzW a r) := fun x o h t => by
  refine ⟨h, ?_, ?_⟩
  · show (match a.t x with | some (s, q) => if s = r then none else some (s, q) | none => none) = none
    rw [t]
  · show (match a.t x with | some (s, _) => if s = r then a.H x else a.F x | none => a.F x) = a.F x
    rw [t]
theorem frzW_rep (k : Ok a) (h : Rep C a r p v d) : fz (frz d) = true ∧ Rep C (frzW a r) s q v (frz d) := Rep.frz (frzW_f k) (frzW_o r) d p q v h
theorem frzW_else (k : Ok a) (ne : s ≠ r) (h : Rep C a s p v d) : Rep C (frzW a r) s p v d := by
  have := Rep.to (C := C) (a := a) (b := frzW a r) (r := s) (s := s) (p := p) (q := p) (frzW_f k) (fun x z o h e => ⟨by
    show (match a.t x with | some (s, q) => if s = r then none else some (s, q) | none => none) = _
    rw [h]; simp [ne], e⟩) d [] v
  exact this h
theorem mvW_ok (k : Ok a) {r m : Nat} : Ok (mvW a r m) := by
  refine ⟨k.sub, fun x t h => ?_⟩
  have h : (match a.t x with | some (s, q) => if s = r then some (m, q) else some (s, q) | none => none) = some t := h
  split at h
  · rename_i s q e; exact k.own x _ e
  · cases h
theorem mvW_step {r m : Nat} : Step a (mvW a r m) := fun x o h t => by
  refine ⟨h, ?_, rfl⟩
  show (match a.t x with | some (s, q) => if s = r then some (m, q) else some (s, q) | none => none) = none
  rw [t]
theorem mvW_rep {m : Nat} (h : Rep C a r p v d) : Rep C (mvW a r m) m p v d := by
  have := Rep.to (C := C) (a := a) (b := mvW a r m) (r := r) (s := m) (p := p) (q := p) (fun _ _ h => h) (fun x z o h e => ⟨by
    show (match a.t x with | some (s, q) => if s = r then some (m, q) else some (s, q) | none => none) = _
    rw [h]; simp, e⟩) d [] v
  exact this h
theorem mvW_else {m : Nat} (ne : s ≠ r) (h : Rep C a s p v d) : Rep C (mvW a r m) s p v d := by
  have := Rep.to (C := C) (a := a) (b := mvW a r m) (r := s) (s := s) (p := p) (q := p) (fun _ _ h => h) (fun x z o h e => ⟨by
    show (match a.t x with | some (s, q) => if s = r then some (m, q) else some (s, q) | none => none) = _
    rw [h]; simp [ne], e⟩) d [] v
  exact this h
theorem Rep.grow (k : Ok a) (g : Grow a b) (h : Rep C a r p v d) : Rep C b r p v d := by
  have := Rep.to (C := C) (a := a) (b := b) (r := r) (s := r) (p := p) (q := p) (fun x o h => g.f k h) (fun x z o h e => ⟨((g.h x o e).2.1).trans h, (g.h x o e).1⟩) d [] v
  exact this h
theorem Rep.step (k : Ok a) (st : Step a b) (z : Mi.fz d = true) (h : Rep C a r p v d) : Rep C b s q v d := Rep.fz (fun x o h => st.f k h) d p q v z h
theorem Rep.stepL {l : List D} {vs : List V} {n m : Nat} (k : Ok a) (st : Step a b) (z : fzL l = true) (h : RepL C a r p n vs l) : RepL C b s q m vs l := RepL.fz (fun x o h => st.f k h) l p q n vs z h
/- a new thing, frozen, owned -/
theorem grow_f {o : HO} {x : Addr} (k : Ok a) (hx : a.H x = none) : Grow a ⟨upd a.F x o, upd a.H x o, a.t⟩ ∧ Ok ⟨upd a.F x o, upd a.H x o, a.t⟩ := by
  have tx : a.t x = none := by
    cases e : a.t x with
    | none => rfl
    | some t => obtain ⟨_, o, h⟩ := k.own x t e; rw [hx] at h; cases h
  refine ⟨⟨fun y u h => ?_⟩, ⟨fun y u h => ?_, fun y t h => ?_⟩⟩
  · have ne : y ≠ x := by rintro rfl; rw [hx] at h; cases h
    exact ⟨by show upd a.H x o y = _; rw [upd_ne ne]; exact h, rfl, by show upd a.F x o y = _; rw [upd_ne ne]⟩
  · by_cases e : y = x
    · subst e
      have h : upd a.F y o y = some u := h
      rw [upd_same] at h
      show upd a.H y o y = some u
      rw [upd_same]; exact h
    · have h : upd a.F x o y = some u := h
      rw [upd_ne e] at h
      show upd a.H x o y = some u
      rw [upd_ne e]; exact k.sub y u h
  · have ne : y ≠ x := by rintro rfl; have h : a.t y = some t := h; rw [tx] at h; cases h
    obtain ⟨h1, u, h2⟩ := k.own y t h
    exact ⟨by show upd a.F x o y = _; rw [upd_ne ne]; exact h1, u, by show upd a.H x o y = _; rw [upd_ne ne]; exact h2⟩
theorem grow_o {o : HO} {x : Addr} (T : Tag) (k : Ok a) (hx : a.H x = none) : Grow a ⟨a.F, upd a.H x o, fun y => if y = x then some T else a.t y⟩ ∧ Ok ⟨a.F, upd a.H x o, fun y => if y = x then some T else a.t y⟩ := by
  have fx : a.F x = none := by
    cases e : a.F x with
    | none => rfl
    | some u => have := k.sub x u e; rw [hx] at this; cases this
  refine ⟨⟨fun y u h => ?_⟩, ⟨fun y u h => ?_, fun y t h => ?_⟩⟩
  · have ne : y ≠ x := by rintro rfl; rw [hx] at h; cases h
    exact ⟨by show upd a.H x o y = _; rw [upd_ne ne]; exact h, if_neg ne, rfl⟩
  · have ne : y ≠ x := by rintro rfl; have h : a.F y = some u := h; rw [fx] at h; cases h
    show upd a.H x o y = _
    rw [upd_ne ne]; exact k.sub y u h
  · have h : (if y = x then some T else a.t y) = some t := h
    by_cases e : y = x
    · subst e
      exact ⟨fx, o, upd_same⟩
    · rw [if_neg e] at h
      obtain ⟨h1, u, h2⟩ := k.own y t h
      exact ⟨h1, u, by show upd a.H x o y = _; rw [upd_ne e]; exact h2⟩
end

/-! ### results, frames -/
abbrev EnvD := List (Option D)
structure Exc where
  cls : Str
  ns : List Str
  ws : List D
inductive Res (α : Type) where
  | ok (a : α) | exc (x : Exc) (e : EnvD) | bad
def Res.bind {α β : Type} (m : Res α) (k : α → Res β) : Res β := match m with
  | .ok a => k a
  | .exc x e => .exc x e
  | .bad => .bad
instance : Monad Res where
  pure := .ok
  bind := Res.bind
structure Gm where
  C : KM
  vs0 : List V
  io : List Nat
structure RelE (G : Gm) (a : Wd) (σ : L2.St) (env : EnvD) : Prop where
  ok : Ok a
  len : env.length = σ.length
  slot : ∀ i d, env[i]? = some (some d) → ∃ v, σ[i]? = some (some v) ∧ Rep G.C a (i + 1) [] v d
  prm : ∀ i ∈ G.io, ∀ v, G.vs0[i]? = some v → σ[i]? = some (some v)
def ExcRep (C : KM) (a : Wd) (x : Exc) (cls : Value) (dd : Option Addr) : Prop :=
  C.mg x.cls = some cls ∧ ((x.ns = [] ∧ x.ws = [] ∧ dd = none) ∨ ∃ u vs, dd = some u ∧ a.F u = some (.xd (x.ns.zip vs)) ∧ vs.length = x.ns.length ∧ fzL x.ws = true ∧ RepL C a 0 [] 0 vs x.ws)

section
variable {G : Gm} {W : WX} {σ : L2.St} {a b : Wd} {env : EnvD} {α β : Type}
theorem RelE.grow (r : RelE G a σ env) (g : Grow a b) (k : Ok b) : RelE G b σ env :=
  ⟨k, r.len, fun i d h => let ⟨v, e, q⟩ := r.slot i d h; ⟨v, e, q.grow r.ok g⟩, r.prm⟩
/- behind an expression -/
def PostR (G : Gm) (W : WX) (σ : L2.St) (a : Wd) (r : Res (α × EnvD)) (K : α → EnvD → Wd → Prop) : Prop :=
  match r with
  | .ok (x, e) => ∀ b, Step a b → RelE G b σ e → K x e b
  | .exc x e => ∀ b cls dd, Step a b → RelE G b σ e → ExcRep G.C b x cls dd → W cls dd σ b.H
  | .bad => False
theorem PostR.step {r : Res (α × EnvD)} {K : α → EnvD → Wd → Prop} (st : Step a b) (h : PostR G W σ a r K) : PostR G W σ b r K := by
  cases r with
  | ok x => exact fun c s k => h c (st.trans s) k
  | exc x e => exact fun c cls dd s k => h c cls dd (st.trans s) k
  | bad => exact h
theorem PostR.imp {r : Res (α × EnvD)} {K K' : α → EnvD → Wd → Prop} (h : PostR G W σ a r K) (f : ∀ x e b, Step a b → RelE G b σ e → K x e b → K' x e b) : PostR G W σ a r K' := by
  cases r with
  | ok x => exact fun c s k => f _ _ _ s k (h c s k)
  | exc x e => exact h
  | bad => exact h
theorem PostR.bind {m : Res (α × EnvD)} {k : α × EnvD → Res (β × EnvD)} {K : β → EnvD → Wd → Prop} (h : PostR G W σ a (m.bind k) K) :
    PostR G W σ a m (fun x e b => PostR G W σ b (k (x, e)) K) := by
  cases m with
  | ok x => exact fun c s _ => PostR.step s h
  | exc x e => exact h
  | bad => exact h
end

abbrev EM (α : Type) := EnvD → Res (α × EnvD)
/- an operand: a name's slot, or frozen data -/
inductive Arg where
  | var (i : Nat) | val (d : D)
def Arg.get (e : EnvD) : Arg → Option D
  | .val d => some d
  | .var i => match e[i]? with | some (some d) => some d | _ => none
def ArgRep (C : KM) (a : Wd) (σ : L2.St) (x : Arg) (v : V) : Prop := match x with
  | .val d => fz d = true ∧ Rep C a 0 [] v d
  | .var i => σ[i]? = some (some v)
theorem ArgRep.step {C : KM} {a b : Wd} {σ : L2.St} {x : Arg} {v : V} (k : Ok a) (s : Step a b) (h : ArgRep C a σ x v) : ArgRep C b σ x v := by
  cases x with
  | val d => exact ⟨h.1, h.2.step k s h.1⟩
  | var i => exact h
theorem ArgRep.rep {G : Gm} {a : Wd} {σ : L2.St} {env : EnvD} {x : Arg} {v : V} {d : D} (rel : RelE G a σ env) (h : ArgRep G.C a σ x v) (e : x.get env = some d) : ∃ r, Rep G.C a r [] v d := by
  cases x with
  | val d' => cases e; exact ⟨0, h.2⟩
  | var i =>
    have e : (match env[i]? with | some (some d) => some d | _ => none) = some d := e
    split at e
    · rename_i d' q
      cases e
      obtain ⟨v', h1, h2⟩ := rel.slot i d q
      have h : σ[i]? = some (some v) := h
      rw [h] at h1; cases h1
      exact ⟨_, h2⟩
    · cases e

/-! ### readings -/
section
variable (G : Gm) (W : WX)
def tE (m : EM D) : TE := fun σ H Q => ∃ a env, a.H = H ∧ RelE G a σ env ∧ PostR G W σ a (m env) fun d _ b => ∀ v, Rep G.C b 0 [] v d → Q v b.H
def tArg (m : EM Arg) : TE := fun σ H Q => ∃ a env, a.H = H ∧ RelE G a σ env ∧ PostR G W σ a (m env) fun x _ b => ∀ v, ArgRep G.C b σ x v → Q v b.H
def tArgs (m : EM (List Arg)) : TA := fun σ H Q => ∃ a env, a.H = H ∧ RelE G a σ env ∧ PostR G W σ a (m env) fun xs _ b => ∀ vs, Paired (ArgRep G.C b σ) xs vs → Q vs b.H
def tT (m : EM Bool) : TT := fun σ H Q => ∃ a env, a.H = H ∧ RelE G a σ env ∧ PostR G W σ a (m env) fun x _ b => Q x b.H
end
theorem PE.weak {X : Cx} {e : Expr} {t u : TE} (h : PE X e t) (w : ∀ σ H Q, u σ H Q → t σ H Q) : PE X e u := ⟨fun pins s σ H Q I q => h.run pins s σ H Q I (w σ H Q q)⟩
theorem PT.weak {X : Cx} {e : Expr} {t u : TT} (h : PT X e t) (w : ∀ σ H Q, u σ H Q → t σ H Q) : PT X e u := ⟨fun pins s σ H Q I q => h.run pins s σ H Q I (w σ H Q q)⟩
theorem PW.weak {X : Cx} {e : Expr} {t u : TT} (h : PW X e t) (w : ∀ σ H Q, u σ H Q → t σ H Q) : PW X e u := ⟨fun wh pins s σ H Q I q => h.run wh pins s σ H Q I (w σ H Q q)⟩
theorem PA.weak {X : Cx} {e : List Expr} {t u : TA} (h : PA X e t) (w : ∀ σ H Q, u σ H Q → t σ H Q) : PA X e u := ⟨fun p pins s σ H Q I q => h.run p pins s σ H Q I (w σ H Q q)⟩
theorem PS.weak {X : Cx} {e : Stmt} {t u : TS} (h : PS X e t) (w : ∀ D σ H, u D σ H → t D σ H) : PS X e u := ⟨fun pins s σ H D I q => h.run pins s σ H D I (w D σ H q)⟩
theorem PSs.weak {X : Cx} {e : List Stmt} {t u : TS} (h : PSs X e t) (w : ∀ D σ H, u D σ H → t D σ H) : PSs X e u := ⟨fun pins s σ H D I q => h.run pins s σ H D I (w D σ H q)⟩

section
variable {G : Gm} {W : WX} {σ : L2.St} {a : Wd} {env : EnvD} {β : Type} {K : β → EnvD → Wd → Prop}
theorem tArg_of {m : EM Arg} {k : Arg × EnvD → Res (β × EnvD)} {R : VK} (rel : RelE G a σ env) (h : PostR G W σ a ((m env).bind k) K)
    (hq : ∀ x e b v, Step a b → RelE G b σ e → ArgRep G.C b σ x v → PostR G W σ b (k (x, e)) K → R v b.H) : tArg G W m σ a.H R :=
  ⟨a, env, rfl, rel, h.bind.imp fun x e b s r p v q => hq x e b v s r q p⟩
theorem tE_of {m : EM D} {k : D × EnvD → Res (β × EnvD)} {R : VK} (rel : RelE G a σ env) (h : PostR G W σ a ((m env).bind k) K)
    (hq : ∀ x e b v, Step a b → RelE G b σ e → Rep G.C b 0 [] v x → PostR G W σ b (k (x, e)) K → R v b.H) : tE G W m σ a.H R :=
  ⟨a, env, rfl, rel, h.bind.imp fun x e b s r p v q => hq x e b v s r q p⟩
theorem tArgs_of {m : EM (List Arg)} {k : List Arg × EnvD → Res (β × EnvD)} {R : List V → Hp → Prop} (rel : RelE G a σ env) (h : PostR G W σ a ((m env).bind k) K)
    (hq : ∀ x e b v, Step a b → RelE G b σ e → Paired (ArgRep G.C b σ) x v → PostR G W σ b (k (x, e)) K → R v b.H) : tArgs G W m σ a.H R :=
  ⟨a, env, rfl, rel, h.bind.imp fun x e b s r p v q => hq x e b v s r q p⟩
theorem tT_of {m : EM Bool} {k : Bool × EnvD → Res (β × EnvD)} {R : Bool → Hp → Prop} (rel : RelE G a σ env) (h : PostR G W σ a ((m env).bind k) K)
    (hq : ∀ x e b, Step a b → RelE G b σ e → PostR G W σ b (k (x, e)) K → R x b.H) : tT G W m σ a.H R :=
  ⟨a, env, rfl, rel, h.bind.imp fun x e b s r p => hq x e b s r p⟩
/- what is handed on -/
theorem PostR.get {x : β} {e : EnvD} (h : PostR G W σ a (.ok (x, e)) K) (rel : RelE G a σ e) : K x e a := h a (Step.refl a) rel
end

/-! ### operations on values -/
/- a two-place operation that changes nothing, by data -/
def rD (C : KM) (g : D → D → Option D) : R2 := fun x y H Q => ∃ a d1 d2 r1 r2 d, a.H = H ∧ Ok a ∧ Rep C a r1 [] x d1 ∧ Rep C a r2 [] y d2 ∧ g d1 d2 = some d ∧ ∀ z b, Grow a b → Ok b → Rep C b 0 [] z d → Q z b.H
def uD (C : KM) (g : D → Option D) : V → Hp → VK → Prop := fun x H Q => ∃ a d1 r1 d, a.H = H ∧ Ok a ∧ Rep C a r1 [] x d1 ∧ g d1 = some d ∧ ∀ z b, Grow a b → Ok b → Rep C b 0 [] z d → Q z b.H
/- a call of a builtin on values -/
def cD (C : KM) (g : List D → Option D) : List V → Hp → VK → Prop := fun xs H Q => ∃ a ds d, a.H = H ∧ Ok a ∧ Paired (fun d v => ∃ r, Rep C a r [] v d) ds xs ∧ g ds = some d ∧ ∀ z b, Grow a b → Ok b → Rep C b 0 [] z d → Q z b.H

def mLift (o : Option D) (e : EnvD) : Res (D × EnvD) := match o with
  | some d => .ok (d, e)
  | none => .bad
def mBin (g : D → D → Option D) (ma mb : EM Arg) : EM D := fun env => (ma env).bind fun (x, e1) => (mb e1).bind fun (y, e2) =>
  match x.get e2, y.get e2 with
  | some d1, some d2 => mLift (g d1 d2) e2
  | _, _ => .bad
def mUn (g : D → Option D) (ma : EM Arg) : EM D := fun env => (ma env).bind fun (x, e1) =>
  match x.get e1 with
  | some d1 => mLift (g d1) e1
  | _ => .bad
def Arg.gets (e : EnvD) : List Arg → Option (List D)
  | [] => some []
  | x :: r => match x.get e, Arg.gets e r with
    | some d, some ds => some (d :: ds)
    | _, _ => none
def mCB (g : List D → Option D) (ma : EM (List Arg)) : EM D := fun env => (ma env).bind fun (xs, e1) =>
  match Arg.gets e1 xs with
  | some ds => mLift (g ds) e1
  | _ => .bad
section
variable {G : Gm} {W : WX} {σ : L2.St} {H : Hp} {Q : VK} {ma mb : EM Arg} {g : D → D → Option D}
theorem PostR.lift {a : Wd} {o : Option D} {e : EnvD} {K : D → EnvD → Wd → Prop} (h : PostR G W σ a (mLift o e) K) (rel : RelE G a σ e) : ∃ d, o = some d ∧ ∀ b, Grow a b → Ok b → K d e b := by
  cases o with
  | none => exact (show False from h).elim
  | some d => exact ⟨d, rfl, fun b g k => h b g.step (rel.grow g k)⟩
theorem bin_w (h : tE G W (mBin g ma mb) σ H Q) : tOp (rD G.C g) (tArg G W ma) (tArg G W mb) σ H Q := by
  obtain ⟨a, env, rfl, rel, post⟩ := h
  refine tArg_of rel post fun x e1 b v s1 rel1 ar1 post1 => ?_
  refine tArg_of rel1 post1 fun y e2 c u s2 rel2 ar2 post2 => ?_
  have ar1 := ar1.step rel1.ok s2
  cases hx : x.get e2 with
  | none => simp only [hx] at post2; exact (show False from post2).elim
  | some d1 =>
    cases hy : y.get e2 with
    | none => simp only [hx, hy] at post2; exact (show False from post2).elim
    | some d2 =>
      simp only [hx, hy] at post2
      obtain ⟨d, hd, k⟩ := post2.lift rel2
      obtain ⟨r1, p1⟩ := ar1.rep rel2 hx
      obtain ⟨r2, p2⟩ := ar2.rep rel2 hy
      exact ⟨c, d1, d2, r1, r2, d, rfl, rel2.ok, p1, p2, hd, fun z b' gr ok rp => k b' gr ok z rp⟩
theorem un_w {g : D → Option D} (h : tE G W (mUn g ma) σ H Q) : tUn (uD G.C g) (tArg G W ma) σ H Q := by
  obtain ⟨a, env, rfl, rel, post⟩ := h
  refine tArg_of rel post fun x e1 b v s1 rel1 ar1 post1 => ?_
  cases hx : x.get e1 with
  | none => simp only [hx] at post1; exact (show False from post1).elim
  | some d1 =>
    simp only [hx] at post1
    obtain ⟨d, hd, k⟩ := post1.lift rel1
    obtain ⟨r1, p1⟩ := ar1.rep rel1 hx
    exact ⟨b, d1, r1, d, rfl, rel1.ok, p1, hd, fun z b' gr ok rp => k b' gr ok z rp⟩
theorem gets_rep {a : Wd} {env : EnvD} (rel : RelE G a σ env) : ∀ {xs : List Arg} {vs : List V} {ds : List D}, Paired (ArgRep G.C a σ) xs vs → Arg.gets env xs = some ds → Paired (fun d v => ∃ r, Rep G.C a r [] v d) ds vs
  | _, _, _, .nil, e => by cases e; exact .nil
  | x :: xs, v :: vs, ds, .cons h t, e => by
    simp only [Arg.gets] at e
    cases hx : x.get env with
    | none => simp [hx] at e
    | some d =>
      cases hr : Arg.gets env xs with
      | none => simp [hx, hr] at e
      | some dr =>
        simp [hx, hr] at e
        subst e
        exact .cons (h.rep rel hx) (gets_rep rel t hr)
theorem cb_w {g : List D → Option D} {ma : EM (List Arg)} (h : tE G W (mCB g ma) σ H Q) : tCB (cD G.C g) (tArgs G W ma) σ H Q := by
  obtain ⟨a, env, rfl, rel, post⟩ := h
  refine tArgs_of rel post fun x e1 b v s1 rel1 ar1 post1 => ?_
  cases hx : Arg.gets e1 x with
  | none => simp only [hx] at post1; exact (show False from post1).elim
  | some ds =>
    simp only [hx] at post1
    obtain ⟨d, hd, k⟩ := post1.lift rel1
    exact ⟨b, ds, d, rfl, rel1.ok, gets_rep rel1 ar1 hx, hd, fun z b' gr ok rp => k b' gr ok z rp⟩
end

/-! ### lists of operands -/
def mArgs : List (EM Arg) → EM (List Arg)
  | [] => fun env => .ok ([], env)
  | m :: ms => fun env => (m env).bind fun (x, e1) => (mArgs ms e1).bind fun (xs, e2) => .ok (x :: xs, e2)
section
variable {G : Gm} {W : WX} {σ : L2.St} {H : Hp}
theorem args_nil_w {Q : List V → Hp → Prop} (h : tArgs G W (mArgs []) σ H Q) : tNil σ H Q := by
  obtain ⟨a, env, rfl, rel, post⟩ := h
  exact post a (Step.refl a) rel [] .nil
theorem args_cons_w {Q : List V → Hp → Prop} {m : EM Arg} {ms : List (EM Arg)} (h : tArgs G W (mArgs (m :: ms)) σ H Q) : tCons (tArg G W m) (tArgs G W (mArgs ms)) σ H Q := by
  obtain ⟨a, env, rfl, rel, post⟩ := h
  refine tArg_of rel post fun x e1 b v s1 rel1 ar1 post1 => ?_
  refine tArgs_of rel1 post1 fun xs e2 c vs s2 rel2 ar2 post2 => ?_
  exact post2 c (Step.refl c) rel2 (v :: vs) (.cons (ar1.step rel1.ok s2) ar2)
end
end Mi
namespace Mi
open PySem PySem.Spec PyProof.Rows L2

/-! ### names -/
def mVarA (i : Nat) : EM Arg := fun env => match env[i]? with
  | some (some _) => .ok (.var i, env)
  | _ => .bad
def frzQ (d : D) : D := if fz d = true then d else frz d
def mVarE (i : Nat) : EM D := fun env => match env[i]? with
  | some (some d) => if fz d = true then .ok (d, env) else .ok (frz d, env.set i (some (frz d)))
  | _ => .bad
/- a name handed out for good (not a parameter's) -/
def mVarM (np i : Nat) : EM D := fun env => match env[i]? with
  | some (some d) => if fz d = true then .ok (d, env) else if i < np then .ok (frz d, env.set i (some (frz d))) else .ok (d, env.set i none)
  | _ => .bad
def mFrz (m : EM D) : EM Arg := fun env => (m env).bind fun (d, e) => .ok (.val (frzQ d), e)
theorem frzQ_rep {C : KM} {a : Wd} {r s : Nat} {p q : List Nat} {d : D} {v : V} (k : Ok a) (h : Rep C a r p v d) : fz (frzQ d) = true ∧ Rep C (frzW a r) s q v (frzQ d) := by
  unfold frzQ
  by_cases z : fz d = true
  · rw [if_pos z]; exact ⟨z, h.step k frzW_step z⟩
  · rw [if_neg z]; exact frzW_rep k h
section
variable {G : Gm} {W : WX} {σ : L2.St} {H : Hp} {Q : VK} {a : Wd} {env : EnvD}
theorem RelE.frz0 (r : RelE G a σ env) : RelE G (frzW a 0) σ env :=
  ⟨frzW_ok r.ok, r.len, fun i d h => let ⟨v, e, q⟩ := r.slot i d h; ⟨v, e, frzW_else r.ok (Nat.succ_ne_zero i) q⟩, r.prm⟩
theorem RelE.frzS (r : RelE G a σ env) {i : Nat} {d : D} (h : env[i]? = some (some d)) : RelE G (frzW a (i + 1)) σ (env.set i (some (frz d))) := by
  refine ⟨frzW_ok r.ok, by rw [List.length_set]; exact r.len, fun j e hj => ?_, r.prm⟩
  by_cases ij : i = j
  · subst ij
    have hi : i < env.length := (List.getElem?_eq_some_iff.mp h).1
    rw [List.getElem?_set_self hi] at hj
    cases hj
    obtain ⟨v, e, q⟩ := r.slot i d h
    exact ⟨v, e, (frzW_rep r.ok q).2⟩
  · rw [List.getElem?_set_ne ij] at hj
    obtain ⟨v, e', q⟩ := r.slot j e hj
    exact ⟨v, e', frzW_else r.ok (fun z => ij (Nat.succ.inj z).symm) q⟩
theorem RelE.kill (r : RelE G a σ env) (i : Nat) : RelE G a σ (env.set i none) := by
  refine ⟨r.ok, by rw [List.length_set]; exact r.len, fun j e hj => ?_, r.prm⟩
  by_cases ij : i = j
  · subst ij
    by_cases hi : i < env.length
    · rw [List.getElem?_set_self hi] at hj; cases hj
    · rw [List.getElem?_eq_none (by rw [List.length_set]; omega)] at hj; cases hj
  · rw [List.getElem?_set_ne ij] at hj
    exact r.slot j e hj
theorem varA_w {i : Nat} (h : tArg G W (mVarA i) σ H Q) : tVar i σ H Q := by
  obtain ⟨a, env, rfl, rel, post⟩ := h
  unfold mVarA at post
  split at post
  · rename_i d e
    obtain ⟨v, hv, _⟩ := rel.slot i d e
    exact ⟨v, hv, post a (Step.refl a) rel v hv⟩
  · exact (show False from post).elim
theorem varE_w {i : Nat} (h : tE G W (mVarE i) σ H Q) : tVar i σ H Q := by
  obtain ⟨a, env, rfl, rel, post⟩ := h
  unfold mVarE at post
  split at post
  · rename_i d e
    obtain ⟨v, hv, rp⟩ := rel.slot i d e
    by_cases z : fz d = true
    · rw [if_pos z] at post
      exact ⟨v, hv, post a (Step.refl a) rel v (rp.step rel.ok (Step.refl a) z)⟩
    · rw [if_neg z] at post
      exact ⟨v, hv, post (frzW a (i + 1)) frzW_step (rel.frzS e) v (frzW_rep rel.ok rp).2⟩
  · exact (show False from post).elim
theorem varM_w {np i : Nat} (h : tE G W (mVarM np i) σ H Q) : tVar i σ H Q := by
  obtain ⟨a, env, rfl, rel, post⟩ := h
  unfold mVarM at post
  split at post
  · rename_i d e
    obtain ⟨v, hv, rp⟩ := rel.slot i d e
    by_cases z : fz d = true
    · rw [if_pos z] at post
      exact ⟨v, hv, post a (Step.refl a) rel v (rp.step rel.ok (Step.refl a) z)⟩
    · rw [if_neg z] at post
      by_cases y : i < np
      · rw [if_pos y] at post
        exact ⟨v, hv, post (frzW a (i + 1)) frzW_step (rel.frzS e) v (frzW_rep rel.ok rp).2⟩
      · rw [if_neg y] at post
        have k0 := rel.kill i
        have R : RelE G (mvW a (i + 1) 0) σ (env.set i none) := by
          refine ⟨mvW_ok rel.ok, k0.len, fun j e' hj => ?_, k0.prm⟩
          obtain ⟨v', e2, q⟩ := k0.slot j e' hj
          refine ⟨v', e2, mvW_else (fun ij => ?_) q⟩
          have ij : j = i := Nat.succ.inj ij
          subst ij
          have hi : j < env.length := (List.getElem?_eq_some_iff.mp e).1
          rw [List.getElem?_set_self hi] at hj
          cases hj
        exact ⟨v, hv, post (mvW a (i + 1) 0) mvW_step R v (mvW_rep rp)⟩
  · exact (show False from post).elim
theorem frz_w {m : EM D} (h : tArg G W (mFrz m) σ H Q) : tE G W m σ H Q := by
  obtain ⟨a, env, rfl, rel, post⟩ := h
  refine tE_of rel post fun d e b v s r rp p => ?_
  have k := p (frzW b 0) frzW_step r.frz0 v (frzQ_rep r.ok rp)
  exact k

/-! ### constants -/
def mC (d : D) : EM D := fun env => .ok (d, env)
def atomV : D → Option V
  | .non => some .non
  | .bl b => some (.bl b)
  | .int i => some (.int i)
  | .str s => some (.str s)
  | .ty n => some (.ty n)
  | _ => none
theorem atom_rep {C : KM} {a : Wd} {r : Nat} {p : List Nat} {d : D} {v : V} (h : atomV d = some v) : Rep C a r p v d := by
  cases d <;> simp [atomV] at h <;> subst h <;> simp [Rep]
theorem c_w {d : D} {v : V} (hv : ∀ a, Ok a → Rep G.C a 0 [] v d) (h : tE G W (mC d) σ H Q) : tC v σ H Q := by
  obtain ⟨a, env, rfl, rel, post⟩ := h
  exact post a (Step.refl a) rel v (hv a rel.ok)

/-! ### tests -/
def D.bool : D → Option Bool
  | .bl b => some b
  | _ => none
def mLiftT (o : Option Bool) (e : EnvD) : Res (Bool × EnvD) := match o with
  | some d => .ok (d, e)
  | none => .bad
/- a value that is a flag -/
def mTB (m : EM D) : EM Bool := fun env => (m env).bind fun (d, e) => mLiftT d.bool e
theorem rep_bl {C : KM} {a : Wd} {r : Nat} {p : List Nat} {v : V} {b : Bool} (h : Rep C a r p v (.bl b)) : v = .bl b := h
theorem rep_int {C : KM} {a : Wd} {r : Nat} {p : List Nat} {v : V} {b : Int} (h : Rep C a r p v (.int b)) : v = .int b := h
theorem rep_str {C : KM} {a : Wd} {r : Nat} {p : List Nat} {v : V} {b : Str} (h : Rep C a r p v (.str b)) : v = .str b := h
theorem rep_non {C : KM} {a : Wd} {r : Nat} {p : List Nat} {v : V} (h : Rep C a r p v .non) : v = .non := h
theorem D.bool_eq {d : D} {b : Bool} (h : d.bool = some b) : d = .bl b := by
  cases d <;> simp [D.bool] at h
  rw [h]
theorem tb_w {m : EM D} {R : Bool → Hp → Prop} (h : tT G W (mTB m) σ H R) : tTest (tE G W m) σ H R := by
  obtain ⟨a, env, rfl, rel, post⟩ := h
  refine tE_of rel post fun d e b v s r rp p => ?_
  cases hb : d.bool with
  | none => simp only [hb] at p; exact (show False from p).elim
  | some c =>
    simp only [hb] at p
    have e1 := D.bool_eq hb
    subst e1
    exact ⟨c, rep_bl rp, p b (Step.refl b) r⟩
def mAndT (m n : EM Bool) : EM Bool := fun env => (m env).bind fun (c, e) => if c = true then n e else .ok (false, e)
def mOrT (m n : EM Bool) : EM Bool := fun env => (m env).bind fun (c, e) => if c = true then .ok (true, e) else n e
def mNotT (m : EM Bool) : EM Bool := fun env => (m env).bind fun (c, e) => .ok (!c, e)
section
variable {m n : EM Bool} {R : Bool → Hp → Prop}
theorem and_w (h : tT G W (mAndT m n) σ H R) : tAnd (tT G W m) (tT G W n) σ H R := by
  obtain ⟨a, env, rfl, rel, post⟩ := h
  refine tT_of rel post fun c e b s r p => ?_
  cases c with
  | true => simp only [if_true] at p ⊢; exact ⟨b, e, rfl, r, p⟩
  | false => simp only [if_false, Bool.false_eq_true] at p ⊢; exact p b (Step.refl b) r
theorem or_w (h : tT G W (mOrT m n) σ H R) : tOr (tT G W m) (tT G W n) σ H R := by
  obtain ⟨a, env, rfl, rel, post⟩ := h
  refine tT_of rel post fun c e b s r p => ?_
  cases c with
  | true => simp only [if_true] at p ⊢; exact p b (Step.refl b) r
  | false => simp only [if_false, Bool.false_eq_true] at p ⊢; exact ⟨b, e, rfl, r, p⟩
theorem not_w (h : tT G W (mNotT m) σ H R) : tNot (tT G W m) σ H R := by
  obtain ⟨a, env, rfl, rel, post⟩ := h
  exact tT_of rel post fun c e b s r p => p b (Step.refl b) r
end
/- and, or, not as values: flags -/
def mAndV (m n : EM D) : EM D := fun env => (m env).bind fun (c, e) => match c.bool with
  | some true => n e
  | some false => .ok (.bl false, e)
  | none => .bad
def mOrV (m n : EM D) : EM D := fun env => (m env).bind fun (c, e) => match c.bool with
  | some true => .ok (.bl true, e)
  | some false => n e
  | none => .bad
def mNotV (m : EM D) : EM D := fun env => (m env).bind fun (c, e) => match c.bool with
  | some b => .ok (.bl (!b), e)
  | none => .bad
theorem rep_ofbl {C : KM} {a : Wd} {r : Nat} {p : List Nat} {b : Bool} : Rep C a r p (.bl b) (.bl b) := by simp [Rep]
theorem andV_w {m n : EM D} (h : tE G W (mAndV m n) σ H Q) : tAndV (tE G W m) (tE G W n) σ H Q := by
  obtain ⟨a, env, rfl, rel, post⟩ := h
  refine tE_of rel post fun d e b v s r rp p => ?_
  cases hb : d.bool with
  | none => simp only [hb] at p; exact (show False from p).elim
  | some c =>
    simp only [hb] at p
    have e1 := D.bool_eq hb
    subst e1
    refine ⟨c, rep_bl rp, ?_⟩
    cases c with
    | true => simp only [if_true] at p ⊢; exact ⟨b, e, rfl, r, p⟩
    | false => simp only [if_false, Bool.false_eq_true] at p ⊢; exact p b (Step.refl b) r _ rep_ofbl
theorem orV_w {m n : EM D} (h : tE G W (mOrV m n) σ H Q) : tOrV (tE G W m) (tE G W n) σ H Q := by
  obtain ⟨a, env, rfl, rel, post⟩ := h
  refine tE_of rel post fun d e b v s r rp p => ?_
  cases hb : d.bool with
  | none => simp only [hb] at p; exact (show False from p).elim
  | some c =>
    simp only [hb] at p
    have e1 := D.bool_eq hb
    subst e1
    refine ⟨c, rep_bl rp, ?_⟩
    cases c with
    | true => simp only [if_true] at p ⊢; exact p b (Step.refl b) r _ rep_ofbl
    | false => simp only [if_false, Bool.false_eq_true] at p ⊢; exact ⟨b, e, rfl, r, p⟩
theorem notV_w {m : EM D} (h : tE G W (mNotV m) σ H Q) : tNotV (tE G W m) σ H Q := by
  obtain ⟨a, env, rfl, rel, post⟩ := h
  refine tE_of rel post fun d e b v s r rp p => ?_
  cases hb : d.bool with
  | none => simp only [hb] at p; exact (show False from p).elim
  | some c =>
    simp only [hb] at p
    have e1 := D.bool_eq hb
    subst e1
    exact ⟨c, rep_bl rp, p b (Step.refl b) r _ rep_ofbl⟩
def mIfE (t : EM Bool) (m n : EM D) : EM D := fun env => (t env).bind fun (c, e) => if c = true then m e else n e
theorem ifE_w {t : EM Bool} {m n : EM D} (h : tE G W (mIfE t m n) σ H Q) : tIf (tT G W t) (tE G W m) (tE G W n) σ H Q := by
  obtain ⟨a, env, rfl, rel, post⟩ := h
  refine tT_of rel post fun c e b s r p => ?_
  cases c with
  | true => simp only [if_true] at p ⊢; exact ⟨b, e, rfl, r, p⟩
  | false => simp only [if_false, Bool.false_eq_true] at p ⊢; exact ⟨b, e, rfl, r, p⟩
end

/-! ### truth -/
def truD : D → Option Bool
  | .non => some false
  | .bl b => some b
  | .int i => some (i != 0)
  | .str s => if s.length ≤ sizeLine then some ((s.length : Int) != 0) else none
  | .tup l => some (!l.isEmpty)
  | .lst _ l => some (!l.isEmpty)
  | .dic _ ks _ => some (!ks.isEmpty)
  | _ => none
def mTru (m : EM Arg) : EM Bool := fun env => (m env).bind fun (x, e) => match x.get e with
  | some d => mLiftT (truD d) e
  | none => .bad
theorem RepL.empty {C : KM} {a : Wd} {r : Nat} {p : List Nat} {n : Nat} {vs : List V} {l : List D} (h : RepL C a r p n vs l) : vs.isEmpty = l.isEmpty := by
  cases l with
  | nil => simp only [RepL] at h; rw [h]; rfl
  | cons d l => simp only [RepL] at h; obtain ⟨v, us, e, _⟩ := h; rw [e]; rfl
theorem RepL.len {C : KM} {a : Wd} {r : Nat} {p : List Nat} : ∀ {l : List D} {n : Nat} {vs : List V}, RepL C a r p n vs l → vs.length = l.length
  | [], n, vs, h => by simp only [RepL] at h; rw [h]; rfl
  | d :: l, n, vs, h => by
    simp only [RepL] at h
    obtain ⟨v, us, e, _, h2⟩ := h
    rw [e, List.length_cons, List.length_cons, RepL.len h2]
theorem RepL.get {C : KM} {a : Wd} {r : Nat} {p : List Nat} : ∀ {l : List D} {n : Nat} {vs : List V} {i : Nat} {d : D}, RepL C a r p n vs l → l[i]? = some d → ∃ v, vs[i]? = some v ∧ Rep C a r ((n + i) :: p) v d
  | [], n, vs, i, d, h, e => by simp at e
  | d' :: l, n, vs, 0, d, h, e => by
    simp only [RepL] at h
    obtain ⟨v, us, e1, h1, h2⟩ := h
    simp at e; subst e
    exact ⟨v, by rw [e1]; rfl, h1⟩
  | d' :: l, n, vs, i + 1, d, h, e => by
    simp only [RepL] at h
    obtain ⟨v, us, e1, h1, h2⟩ := h
    simp at e
    obtain ⟨u, g1, g2⟩ := RepL.get h2 e
    refine ⟨u, by rw [e1]; simpa using g1, ?_⟩
    rw [show n + (i + 1) = n + 1 + i by omega]
    exact g2
/- the object of an owned or a frozen list, read -/
theorem rep_lst {C : KM} {a : Wd} {r : Nat} {p : List Nat} {v : V} {o : Bool} {l : List D} (k : Ok a) (h : Rep C a r p v (.lst o l)) : ∃ x vs, v = .ref x ∧ a.H x = some (.lst vs) ∧ RepL C a r p 0 vs l := by
  simp only [Rep] at h
  obtain ⟨x, vs, e, c, h⟩ := h
  refine ⟨x, vs, e, ?_, h⟩
  cases o with
  | true => rw [if_pos rfl] at c; exact c.2
  | false => rw [if_neg Bool.false_ne_true] at c; exact k.sub _ _ c.1
theorem rep_scr {C : KM} {a : Wd} {r : Nat} {p : List Nat} {v : V} {l : List Int} (k : Ok a) (h : Rep C a r p v (.scr l)) : ∃ x, v = .ref x ∧ SqL C.K a.H x (l.map V.int) := by
  simp only [Rep] at h
  obtain ⟨x, e, h⟩ := h
  exact ⟨x, e, sql_mono k.sub h⟩
theorem rep_tup {C : KM} {a : Wd} {r : Nat} {p : List Nat} {v : V} {l : List D} (k : Ok a) (h : Rep C a r p v (.tup l)) : ∃ x vs, v = .ref x ∧ SqT C.K a.H x vs ∧ RepL C a r p 0 vs l := by
  simp only [Rep] at h
  obtain ⟨x, vs, e, c, h⟩ := h
  exact ⟨x, vs, e, sqt_mono k.sub c, h⟩
theorem rep_dic {C : KM} {a : Wd} {r : Nat} {p : List Nat} {v : V} {o : Bool} {ks ws : List D} (k : Ok a) (h : Rep C a r p v (.dic o ks ws)) :
    ∃ x u kv vs, v = .ref x ∧ a.H x = some u ∧ DCell u kv vs ∧ fzL ks = true ∧ RepL C a r p 0 kv ks ∧ RepL C a r p 0 vs ws := by
  simp only [Rep] at h
  obtain ⟨x, u, kv, vs, e, c, dc, f, k1, k2⟩ := h
  refine ⟨x, u, kv, vs, e, ?_, dc, f, k1, k2⟩
  cases o with
  | true => rw [if_pos rfl] at c; exact c.2
  | false => rw [if_neg Bool.false_ne_true] at c; exact k.sub _ _ c.1
theorem tru_rep {C : KM} {a : Wd} {r : Nat} {p : List Nat} {v : V} {d : D} {b : Bool} (k : Ok a) (h : Rep C a r p v d) (e : truD d = some b) : TruV C.K v a.H b := by
  cases d with
  | non => cases rep_non h; cases e; rfl
  | bl x => cases rep_bl h; cases e; rfl
  | int i => cases rep_int h; simp [truD] at e; subst e; rfl
  | str s =>
    cases rep_str h
    simp only [truD] at e
    split at e
    · rename_i z; cases e; exact ⟨z, rfl⟩
    · cases e
  | tup l =>
    obtain ⟨x, vs, rfl, q, hl⟩ := rep_tup k h
    simp only [truD, Option.some.injEq] at e; subst e
    exact .inr (.inl ⟨vs, q, by rw [hl.empty]⟩)
  | lst o l =>
    obtain ⟨x, vs, rfl, q, hl⟩ := rep_lst k h
    simp only [truD, Option.some.injEq] at e; subst e
    exact .inl ⟨vs, SqL.of q, by rw [hl.empty]⟩
  | dic o ks ws =>
    obtain ⟨x, u, kv, vs, rfl, q, dc, f, hk, hw⟩ := rep_dic k h
    simp only [truD, Option.some.injEq] at e; subst e
    cases dc with
    | dk kvs =>
      refine .inr (.inr ⟨kvs, q, ?_⟩)
      rw [← hk.empty]; cases kvs <;> rfl
  | _ => simp [truD] at e
theorem tru_w {G : Gm} {W : WX} {σ : L2.St} {H : Hp} {m : EM Arg} {R : Bool → Hp → Prop} (h : tT G W (mTru m) σ H R) : (tArg G W m) σ H fun x H' => ∃ k, TruV G.C.K x H' k ∧ R k H' := by
  obtain ⟨a, env, rfl, rel, post⟩ := h
  refine tArg_of rel post fun x e b v s r ar p => ?_
  cases hx : x.get e with
  | none => simp only [hx] at p; exact (show False from p).elim
  | some d =>
    simp only [hx] at p
    cases ht : truD d with
    | none => simp only [ht] at p; exact (show False from p).elim
    | some c =>
      simp only [ht] at p
      obtain ⟨r', rp⟩ := ar.rep r hx
      exact ⟨c, tru_rep r.ok rp ht, p b (Step.refl b) r⟩
end Mi
namespace Mi
open PySem PySem.Spec PyProof.Rows L2

/-! ### new things -/
section
variable {C : KM} {a : Wd} {Q : VK}
theorem new_lst {r : Nat} {p : List Nat} {n : Nat} {vs : List V} {l : List D} (k : Ok a) (z : fzL l = true) (h : RepL C a r p n vs l) (q : ∀ z b, Grow a b → Ok b → Rep C b 0 [] z (.lst true l) → Q z b.H) :
    ∀ x, a.H x = none → Q (.ref x) (upd a.H x (.lst vs)) := fun x hx => by
  obtain ⟨g, o⟩ := grow_o (o := .lst vs) (0, []) k hx
  refine q (.ref x) _ g o ⟨x, vs, rfl, ?_, RepL.fz (fun y u e => g.f k e) l p [] n vs z h⟩
  rw [if_pos rfl]
  exact ⟨if_pos rfl, upd_same⟩
theorem new_tup {r : Nat} {p : List Nat} {n : Nat} {vs : List V} {l : List D} (k : Ok a) (z : fzL l = true) (h : RepL C a r p n vs l) (q : ∀ z b, Grow a b → Ok b → Rep C b 0 [] z (.tup l) → Q z b.H) :
    ∀ x, a.H x = none → Q (.ref x) (upd a.H x (.tup vs)) := fun x hx => by
  obtain ⟨g, o⟩ := grow_f (o := .tup vs) k hx
  exact q (.ref x) _ g o ⟨x, vs, rfl, SqT.of upd_same, RepL.fz (fun y u e => g.f k e) l p [] n vs z h⟩
theorem new_dic {r : Nat} {p : List Nat} {kvs : List (Key × V)} {ks ws : List D} (k : Ok a) (zk : fzL ks = true) (zw : fzL ws = true) (hk : RepL C a r p 0 (kvs.map fun p => kV p.1) ks) (hw : RepL C a r p 0 (kvs.map (·.2)) ws)
    (q : ∀ z b, Grow a b → Ok b → Rep C b 0 [] z (.dic true ks ws) → Q z b.H) : ∀ x, a.H x = none → Q (.ref x) (upd a.H x (.dK kvs)) := fun x hx => by
  obtain ⟨g, o⟩ := grow_o (o := .dK kvs) (0, []) k hx
  refine q (.ref x) _ g o ⟨x, .dK kvs, _, _, rfl, ?_, .dk kvs, zk, RepL.fz (fun y u e => g.f k e) ks p [] 0 _ zk hk, RepL.fz (fun y u e => g.f k e) ws p [] 0 _ zw hw⟩
  rw [if_pos rfl]
  exact ⟨if_pos rfl, upd_same⟩
end
theorem RepL.app {C : KM} {a : Wd} {r : Nat} {p : List Nat} : ∀ {l m : List D} {n : Nat} {vs us : List V}, RepL C a r p n vs l → RepL C a r p (n + l.length) us m → RepL C a r p n (vs ++ us) (l ++ m)
  | [], m, n, vs, us, h, g => by simp only [RepL] at h; subst h; exact g
  | d :: l, m, n, vs, us, h, g => by
    simp only [RepL] at h
    obtain ⟨v, vr, rfl, h1, h2⟩ := h
    exact ⟨v, vr ++ us, rfl, h1, RepL.app h2 (by rw [show n + 1 + l.length = n + (d :: l).length by simp only [List.length_cons]; omega]; exact g)⟩
theorem fzL_append {l m : List D} : fzL (l ++ m) = (fzL l && fzL m) := by
  induction l with
  | nil => rfl
  | cons d l ih => simp only [List.cons_append, fzL, ih, Bool.and_assoc]
theorem fzL_mem {l : List D} (h : fzL l = true) : ∀ d ∈ l, fz d = true := by
  induction l with
  | nil => intro d hd; cases hd
  | cons x l ih =>
    simp only [fzL, Bool.and_eq_true] at h
    intro d hd
    rcases List.mem_cons.mp hd with rfl | hd
    · exact h.1
    · exact ih h.2 d hd
theorem fzL_all {l : List D} (h : ∀ d ∈ l, fz d = true) : fzL l = true := by
  induction l with
  | nil => rfl
  | cons x l ih =>
    simp only [fzL, Bool.and_eq_true]
    exact ⟨h x List.mem_cons_self, ih fun d hd => h d (List.mem_cons_of_mem _ hd)⟩
/- frozen lists, by any tags -/
theorem RepL.appz {C : KM} {a : Wd} {r s : Nat} {p q : List Nat} {l m : List D} {n k : Nat} {vs us : List V} (zl : fzL l = true) (zm : fzL m = true) (h : RepL C a r p n vs l) (g : RepL C a s q k us m) : RepL C a 0 [] 0 (vs ++ us) (l ++ m) :=
  RepL.app (RepL.fz (s := 0) (fun _ _ e => e) l p [] n vs zl h) (RepL.fz (s := 0) (fun _ _ e => e) m q [] k us zm g)

/-! ### arithmetic -/
def addD : D → D → Option D
  | .int i, .int j => some (.int (i + j))
  | .str s, .str t => if s.length + t.length ≤ sizeLine then some (.str (s ++ t)) else none
  | .lst _ l, .lst _ m => if fzL l && fzL m && decide (l.length + m.length ≤ sizeLine) then some (.lst true (l ++ m)) else none
  | .tup l, .tup m => if fzL l && fzL m && decide (l.length + m.length ≤ sizeLine) then some (.tup (l ++ m)) else none
  | _, _ => none
def subD : D → D → Option D
  | .int i, .int j => some (.int (i - j))
  | _, _ => none
def mulD : D → D → Option D
  | .int i, .int j => if i.natAbs.log2 + j.natAbs.log2 < 1000000 then some (.int (i * j)) else if j.natAbs < 18446744073709551616 then some (.int (i * j)) else if i.natAbs < 18446744073709551616 then some (.int (i * j)) else none
  | _, _ => none
def fdivD : D → D → Option D
  | .int i, .int j => if 0 < j ∧ j.natAbs.log2 < 9000 then some (.int (i / j)) else none
  | _, _ => none
def modD : D → D → Option D
  | .int i, .int j => if 0 < j then some (.int (i % j)) else if j ≠ 0 then some (.int (i.fmod j)) else none
  | _, _ => none
def powD : D → D → Option D
  | .int i, .int j => if 0 ≤ j ∧ j ≤ 1000000 ∧ i.natAbs < 2 ^ 64 then some (.int (i ^ j.toNat)) else none
  | _, _ => none
def negD : D → Option D
  | .int i => some (.int (-i))
  | _ => none
theorem nab {x : Int} (h : x.natAbs < 18446744073709551616) : -(2 ^ 64) < x ∧ x < 2 ^ 64 := by
  have e : (2 : Int) ^ 64 = 18446744073709551616 := by decide
  rw [e]; omega
section
variable {X : Cx} {C : KM} (hC : C.K = X.K)
include hC
theorem op_addD : OpR X (binaryOp .Add) (rD C addD) := by
  intro pins s σ H x y v u Q I rx ry h
  obtain ⟨a, d1, d2, r1, r2, d, rfl, k, p1, p2, hd, q⟩ := h
  cases d1 <;> cases d2 <;> simp only [addD] at hd <;> try (cases hd; done)
  case int.int i j =>
    cases hd; cases rep_int p1; cases rep_int p2
    exact op_add pins s σ a.H _ _ v u Q I rx ry ⟨i, j, rfl, rfl, q _ a (Grow.refl a) k (by simp [Rep])⟩
  case str.str i j =>
    split at hd
    · rename_i z; cases hd; cases rep_str p1; cases rep_str p2
      exact op_add_str pins s σ a.H _ _ v u Q I rx ry ⟨i, j, rfl, rfl, z, q _ a (Grow.refl a) k (by simp [Rep])⟩
    · cases hd
  case tup.tup l m =>
    split at hd
    · rename_i z; cases hd
      simp only [Bool.and_eq_true, decide_eq_true_eq] at z
      obtain ⟨x1, vs, rfl, q1, h1⟩ := rep_tup k p1
      obtain ⟨x2, us, rfl, q2, h2⟩ := rep_tup k p2
      rw [hC] at q1 q2
      have n1 := h1.len
      have n2 := h2.len
      refine op_catA pins s σ a.H _ _ v u Q I rx ry ⟨x1, x2, vs, us, rfl, rfl, q1, q2, by omega, fun e => ?_, fun e1 e2 => ?_, fun _ _ => new_tup k (by rw [fzL_append, z.1.1, z.1.2]; rfl) (RepL.appz z.1.1 z.1.2 h1 h2) q⟩
      · have el : l = [] := by cases l with | nil => rfl | cons _ _ => rw [e] at n1; simp at n1
        subst el
        exact q _ a (Grow.refl a) k (p2.step k (Step.refl a) (by simpa [fz] using z.1.2))
      · have el : m = [] := by cases m with | nil => rfl | cons _ _ => rw [e2] at n2; simp at n2
        subst el
        rw [List.append_nil] at q
        exact q _ a (Grow.refl a) k (p1.step k (Step.refl a) (by simpa [fz] using z.1.1))
    · cases hd
  case lst.lst o l o' m =>
    split at hd
    · rename_i z; cases hd
      simp only [Bool.and_eq_true, decide_eq_true_eq] at z
      obtain ⟨x1, vs, rfl, q1, h1⟩ := rep_lst k p1
      obtain ⟨x2, us, rfl, q2, h2⟩ := rep_lst k p2
      have n1 := h1.len
      have n2 := h2.len
      exact op_cat pins s σ a.H _ _ v u Q I rx ry ⟨x1, x2, vs, us, rfl, rfl, q1, q2, by omega, new_lst k (by rw [fzL_append, z.1.1, z.1.2]; rfl) (RepL.appz z.1.1 z.1.2 h1 h2) q⟩
    · cases hd
omit hC in
theorem op_subD : OpR X (binaryOp .Sub) (rD C subD) := by
  intro pins s σ H x y v u Q I rx ry h
  obtain ⟨a, d1, d2, r1, r2, d, rfl, k, p1, p2, hd, q⟩ := h
  cases d1 <;> cases d2 <;> simp only [subD] at hd <;> try (cases hd; done)
  case int.int i j =>
    cases hd; cases rep_int p1; cases rep_int p2
    exact op_sub pins s σ a.H _ _ v u Q I rx ry ⟨i, j, rfl, rfl, q _ a (Grow.refl a) k (by simp [Rep])⟩
omit hC in
theorem op_mulD : OpR X (binaryOp .Mult) (rD C mulD) := by
  intro pins s σ H x y v u Q I rx ry h
  obtain ⟨a, d1, d2, r1, r2, d, rfl, k, p1, p2, hd, q⟩ := h
  cases d1 <;> cases d2 <;> simp only [mulD] at hd <;> try (cases hd; done)
  case int.int i j =>
    cases rep_int p1; cases rep_int p2
    split at hd
    · rename_i z
      cases hd
      exact op_mulW pins s σ a.H _ _ v u Q I rx ry ⟨i, j, rfl, rfl, z, q _ a (Grow.refl a) k (by simp [Rep])⟩
    · split at hd
      · rename_i z; cases hd
        exact op_mul pins s σ a.H _ _ v u Q I rx ry ⟨i, j, rfl, rfl, .inr (nab z), q _ a (Grow.refl a) k (by simp [Rep])⟩
      · split at hd
        · rename_i z; cases hd
          exact op_mul pins s σ a.H _ _ v u Q I rx ry ⟨i, j, rfl, rfl, .inl (nab z), q _ a (Grow.refl a) k (by simp [Rep])⟩
        · cases hd
omit hC in
theorem op_fdivD : OpR X (binaryOp .FloorDiv) (rD C fdivD) := by
  intro pins s σ H x y v u Q I rx ry h
  obtain ⟨a, d1, d2, r1, r2, d, rfl, k, p1, p2, hd, q⟩ := h
  cases d1 <;> cases d2 <;> simp only [fdivD] at hd <;> try (cases hd; done)
  case int.int i j =>
    split at hd
    · rename_i z; cases hd; cases rep_int p1; cases rep_int p2
      exact op_fdivW pins s σ a.H _ _ v u Q I rx ry ⟨i, j, rfl, rfl, z, q _ a (Grow.refl a) k (by simp [Rep])⟩
    · cases hd
omit hC in
theorem op_modD : OpR X (binaryOp .Mod) (rD C modD) := by
  intro pins s σ H x y v u Q I rx ry h
  obtain ⟨a, d1, d2, r1, r2, d, rfl, k, p1, p2, hd, q⟩ := h
  cases d1 <;> cases d2 <;> simp only [modD] at hd <;> try (cases hd; done)
  case int.int i j =>
    cases rep_int p1; cases rep_int p2
    split at hd
    · rename_i z; cases hd
      exact op_mod pins s σ a.H _ _ v u Q I rx ry ⟨i, j, rfl, rfl, z, q _ a (Grow.refl a) k (by simp [Rep])⟩
    · split at hd
      · rename_i z; cases hd
        exact op_modN pins s σ a.H _ _ v u Q I rx ry ⟨i, j, rfl, rfl, z, q _ a (Grow.refl a) k (by simp [Rep])⟩
      · cases hd
omit hC in
theorem op_powD : OpR X (binaryOp .Pow) (rD C powD) := by
  intro pins s σ H x y v u Q I rx ry h
  obtain ⟨a, d1, d2, r1, r2, d, rfl, k, p1, p2, hd, q⟩ := h
  cases d1 <;> cases d2 <;> simp only [powD] at hd <;> try (cases hd; done)
  case int.int i j =>
    split at hd
    · rename_i z; cases hd; cases rep_int p1; cases rep_int p2
      exact op_pow pins s σ a.H _ _ v u Q I rx ry ⟨i, j, rfl, rfl, z, q _ a (Grow.refl a) k (by simp [Rep])⟩
    · cases hd
omit hC in
theorem un_negD : UnR X (unaryOp .USub) (uD C negD) := by
  intro pins s σ H x v Q I rx h
  obtain ⟨a, d1, r1, d, rfl, k, p1, hd, q⟩ := h
  cases d1 <;> simp only [negD] at hd <;> try (cases hd; done)
  case int i =>
    cases hd; cases rep_int p1
    exact un_neg pins s σ a.H _ v Q I rx ⟨i, rfl, q _ a (Grow.refl a) k (by simp [Rep])⟩
end
def binD : Operator → Option (D → D → Option D)
  | .Add => some addD
  | .Sub => some subD
  | .Mult => some mulD
  | .FloorDiv => some fdivD
  | .Mod => some modD
  | .Pow => some powD
  | _ => none
theorem op_binD {X : Cx} {C : KM} (hC : C.K = X.K) {op : Operator} {g : D → D → Option D} (h : binD op = some g) : OpR X (binaryOp op) (rD C g) := by
  cases op <;> simp only [binD] at h <;> cases h
  · exact op_addD hC
  · exact op_subD
  · exact op_mulD
  · exact op_modD
  · exact op_powD
  · exact op_fdivD

/-! ### == -/
mutual
def okP : Nat → D → Bool
  | _, .non | _, .bl _ | _, .int _ => true
  | _, .str s => PyData.strOk s
  | 0, .tup _ | 0, .lst _ _ => false
  | n + 1, .tup l => okPL n l
  | n + 1, .lst _ l => okPL n l
  | _, _ => false
def okPL : Nat → List D → Bool
  | _, [] => true
  | n, d :: l => okP n d && okPL n l
end
mutual
def toP : D → PyData
  | .bl b => .bool b
  | .int i => .int i
  | .str s => .str s
  | .tup l => .tuple (toPL l)
  | .lst _ l => .list (toPL l)
  | _ => .none
def toPL : List D → List PyData
  | [] => []
  | d :: l => toP d :: toPL l
end
mutual
theorem okP_shape : ∀ (d : D) (n : Nat), okP n d = true → (toP d).canLay0 = true ∧ (toP d).depth ≤ n
  | .non, n, h => by simp [toP, PyData.canLay0, PyData.depth]
  | .bl _, n, h => by simp [toP, PyData.canLay0, PyData.depth]
  | .int _, n, h => by simp [toP, PyData.canLay0, PyData.depth]
  | .str s, n, h => by
    have h : PyData.strOk s = true := by cases n <;> simpa [okP] using h
    simp [toP, PyData.canLay0, PyData.depth, h]
  | .tup l, 0, h => by simp [okP] at h
  | .lst _ l, 0, h => by simp [okP] at h
  | .tup l, n + 1, h => by
    obtain ⟨h1, h2⟩ := okPL_shape l n (by simpa [okP] using h)
    exact ⟨by simpa [toP, PyData.canLay0] using h1, by simp only [toP, PyData.depth]; omega⟩
  | .lst _ l, n + 1, h => by
    obtain ⟨h1, h2⟩ := okPL_shape l n (by simpa [okP] using h)
    exact ⟨by simpa [toP, PyData.canLay0] using h1, by simp only [toP, PyData.depth]; omega⟩
  | .ty _, n, h => by simp [okP] at h
  | .fn _, n, h => by simp [okP] at h
  | .scr _, n, h => by simp [okP] at h
  | .dic _ _ _, n, h => by simp [okP] at h
  | .ins _ _ _ _, n, h => by simp [okP] at h
theorem okPL_shape : ∀ (l : List D) (n : Nat), okPL n l = true → PyData.canLayAll0 (toPL l) = true ∧ PyData.depthAll (toPL l) ≤ n
  | [], n, h => by simp [toPL, PyData.canLayAll0, PyData.depthAll]
  | d :: l, n, h => by
    simp only [okPL, Bool.and_eq_true] at h
    obtain ⟨h1, h2⟩ := okP_shape d n h.1
    obtain ⟨h3, h4⟩ := okPL_shape l n h.2
    exact ⟨by simp [toPL, PyData.canLayAll0, h1, h3], by simp only [toPL, PyData.depthAll]; omega⟩
end
mutual
theorem okP_dp {C : KM} {a : Wd} (k : Ok a) : ∀ (d : D) (n : Nat) (r : Nat) (p : List Nat) (v : V), okP n d = true → Rep C a r p v d → Dp C.K a.H v (toP d)
  | .non, n, r, p, v, h, q => by cases rep_non q; simp only [toP]; exact .non
  | .bl b, n, r, p, v, h, q => by cases rep_bl q; simp only [toP]; exact .bl b
  | .int i, n, r, p, v, h, q => by cases rep_int q; simp only [toP]; exact .int i
  | .str s, n, r, p, v, h, q => by cases rep_str q; simp only [toP]; exact .str s
  | .tup l, 0, r, p, v, h, q => by simp [okP] at h
  | .lst _ l, 0, r, p, v, h, q => by simp [okP] at h
  | .tup l, n + 1, r, p, v, h, q => by
    obtain ⟨x, vs, rfl, h1, h2⟩ := rep_tup k q
    simp only [toP]
    exact .tup h1 (okPL_dp k l n r p 0 vs (by simpa [okP] using h) h2)
  | .lst _ l, n + 1, r, p, v, h, q => by
    obtain ⟨x, vs, rfl, h1, h2⟩ := rep_lst k q
    simp only [toP]
    exact .lst (SqL.of h1) (okPL_dp k l n r p 0 vs (by simpa [okP] using h) h2)
  | .ty _, n, r, p, v, h, q => by simp [okP] at h
  | .fn _, n, r, p, v, h, q => by simp [okP] at h
  | .scr _, n, r, p, v, h, q => by simp [okP] at h
  | .dic _ _ _, n, r, p, v, h, q => by simp [okP] at h
  | .ins _ _ _ _, n, r, p, v, h, q => by simp [okP] at h
theorem okPL_dp {C : KM} {a : Wd} (k : Ok a) : ∀ (l : List D) (n : Nat) (r : Nat) (p : List Nat) (m : Nat) (vs : List V), okPL n l = true → RepL C a r p m vs l → DpAll C.K a.H vs (toPL l)
  | [], n, r, p, m, vs, h, q => by simp only [RepL] at q; subst q; simp only [toPL]; exact .nil
  | d :: l, n, r, p, m, vs, h, q => by
    simp only [okPL, Bool.and_eq_true] at h
    simp only [RepL] at q
    obtain ⟨v, us, rfl, h1, h2⟩ := q
    simp only [toPL]
    exact .cons (okP_dp k d n r (m :: p) v h.1 h1) (okPL_dp k l n r p (m + 1) us h.2 h2)
end
def eqB (d e : D) : Bool := PyData.eqv (toP d) (toP e)
/- scalars -/
def scalD : D → D → Option Bool
  | .non, .non => some true
  | .int i, .int j => some (i == j)
  | .str s, .str t => some (s == t)
  | .bl a, .bl b => some (a == b)
  | .non, .int _ | .int _, .non | .non, .bl _ | .bl _, .non | .non, .str _ | .str _, .non => some false
  | .int _, .str _ | .str _, .int _ | .bl _, .str _ | .str _, .bl _ => some false
  | _, _ => none
def eqQ (d e : D) : Option Bool := match scalD d e with
  | some b => some b
  | none => if okP 64 d && okP 64 e then some (eqB d e) else none
def eqD (d e : D) : Option D := (eqQ d e).map .bl
def neD (d e : D) : Option D := (eqQ d e).map fun b => .bl (!b)
theorem scalD_eq {C : KM} {a : Wd} {r s : Nat} {x y : V} {d e : D} {b : Bool} (h : scalD d e = some b) (p : Rep C a r [] x d) (q : Rep C a s [] y e) : scal x y = true ∧ decide (x = y) = b := by
  cases d <;> cases e <;> simp only [scalD] at h <;> (try (cases h; done)) <;> (simp only [Option.some.injEq] at h; subst h) <;> (simp only [Rep] at p q; subst p q) <;> simp [scal] <;> (rw [Bool.eq_iff_iff]; simp)
section
variable {X : Cx} {C : KM} (hC : C.K = X.K)
include hC
theorem op_eqDD (hu : X.A.units + 64 < cLine) : OpR X (compareOp .Eq) (rD C eqD) := by
  intro pins s σ H x y v u Q I rx ry h
  obtain ⟨a, d1, d2, r1, r2, d, rfl, k, p1, p2, hd, q⟩ := h
  unfold eqD eqQ at hd
  cases hs : scalD d1 d2 with
  | some b =>
    rw [hs] at hd
    cases hd
    obtain ⟨h1, h2⟩ := scalD_eq hs p1 p2
    exact op_eq pins s σ a.H _ _ v u Q I rx ry ⟨h1, by rw [h2]; exact q _ a (Grow.refl a) k rep_ofbl⟩
  | none =>
    rw [hs] at hd
    dsimp only at hd
    split at hd
    · rename_i z
      cases hd
      simp only [Bool.and_eq_true] at z
      obtain ⟨s1, s2⟩ := okP_shape d1 64 z.1
      obtain ⟨s3, s4⟩ := okP_shape d2 64 z.2
      refine op_eqD hu pins s σ a.H _ _ v u Q I rx ry ⟨toP d1, toP d2, ?_, ?_, by simp [SeqAt.shaped, s1, s2], by simp [SeqAt.shaped, s3, s4], q _ a (Grow.refl a) k rep_ofbl⟩
      · rw [← hC]; exact okP_dp k d1 64 _ _ _ z.1 p1
      · rw [← hC]; exact okP_dp k d2 64 _ _ _ z.2 p2
    · cases hd
theorem op_neDD (hu : X.A.units + 64 < cLine) : OpR X (compareOp .NotEq) (rD C neD) := by
  intro pins s σ H x y v u Q I rx ry h
  obtain ⟨a, d1, d2, r1, r2, d, rfl, k, p1, p2, hd, q⟩ := h
  unfold neD eqQ at hd
  cases hs : scalD d1 d2 with
  | some b =>
    rw [hs] at hd
    cases hd
    obtain ⟨h1, h2⟩ := scalD_eq hs p1 p2
    exact op_ne pins s σ a.H _ _ v u Q I rx ry ⟨h1, by rw [h2]; exact q _ a (Grow.refl a) k rep_ofbl⟩
  | none =>
    rw [hs] at hd
    dsimp only at hd
    split at hd
    · rename_i z
      cases hd
      simp only [Bool.and_eq_true] at z
      obtain ⟨s1, s2⟩ := okP_shape d1 64 z.1
      obtain ⟨s3, s4⟩ := okP_shape d2 64 z.2
      refine op_neD hu pins s σ a.H _ _ v u Q I rx ry ⟨toP d1, toP d2, ?_, ?_, by simp [SeqAt.shaped, s1, s2], by simp [SeqAt.shaped, s3, s4], q _ a (Grow.refl a) k rep_ofbl⟩
      · rw [← hC]; exact okP_dp k d1 64 _ _ _ z.1 p1
      · rw [← hC]; exact okP_dp k d2 64 _ _ _ z.2 p2
    · cases hd
end

/-! ### order, in, is -/
def ltD : D → D → Option D
  | .int i, .int j => some (.bl (decide (i < j)))
  | .str s, .str t => some (.bl (decide (s.cps.toList < t.cps.toList)))
  | _, _ => none
def leD : D → D → Option D
  | .int i, .int j => some (.bl (decide (i ≤ j)))
  | .str s, .str t => some (.bl (!decide (t.cps.toList < s.cps.toList)))
  | _, _ => none
def gtD : D → D → Option D
  | .int i, .int j => some (.bl (decide (j < i)))
  | .str s, .str t => some (.bl (decide (t.cps.toList < s.cps.toList)))
  | _, _ => none
def geD : D → D → Option D
  | .int i, .int j => some (.bl (decide (j ≤ i)))
  | .str s, .str t => some (.bl (!decide (s.cps.toList < t.cps.toList)))
  | _, _ => none
/- atoms as values -/
def flatD : D → Bool
  | .non | .bl _ | .int _ | .str _ => true
  | _ => false
def eqF : D → D → Bool
  | .non, .non => true
  | .bl a, .bl b => a == b
  | .bl a, .int b => (if a then 1 else 0) == b
  | .int a, .bl b => a == (if b then 1 else 0)
  | .int a, .int b => a == b
  | .str a, .str b => a == b
  | _, _ => false
def keyD : D → Option Key
  | .int i => some (.inl i)
  | .str s => some (.inr s)
  | _ => none
def unkD : Key → D
  | .inl i => .int i
  | .inr s => .str s
/- the value at a key -/
def getK : List D → List D → Key → Option D
  | k :: ks, w :: ws, x => if keyD k = some x then some w else getK ks ws x
  | _, _, _ => none
def inQ : D → D → Option Bool
  | .str s, .str t => match s.cps.toList with
    | [c] => some (decide (c ∈ t.cps.toList))
    | _ => some (!(Builtin.Str.occurrences t s 0 t.length 1).isEmpty)
  | x, .dic _ ks ws => match keyD x with
    | some k => some (getK ks ws k).isSome
    | none => none
  | x, .lst _ l => if flatD x && l.all flatD then some (l.any fun y => eqF y x) else none
  | x, .tup l => if flatD x && l.all flatD then some (l.any fun y => eqF y x) else none
  | _, _ => none
def inD (d e : D) : Option D := (inQ d e).map .bl
def ninD (d e : D) : Option D := (inQ d e).map fun b => .bl (!b)
def isQ : D → D → Option Bool
  | .non, .non => some true
  | .int _, .non | .str _, .non | .bl _, .non | .tup _, .non | .lst _ _, .non | .dic _ _ _, .non | .ins _ _ _ _, .non => some false
  | .bl a, .bl b => some (a == b)
  | .non, .bl _ | .int _, .bl _ | .str _, .bl _ | .tup _, .bl _ | .lst _ _, .bl _ | .dic _ _ _, .bl _ | .ins _ _ _ _, .bl _ => some false
  | _, _ => none
def isD (d e : D) : Option D := (isQ d e).map .bl
def nisD (d e : D) : Option D := (isQ d e).map fun b => .bl (!b)
end Mi
namespace Mi
open PySem PySem.Spec PyProof.Rows L2

/-! ### keys -/
theorem rep_key {C : KM} {a : Wd} {r : Nat} {p : List Nat} {d : D} {k : Key} (h : Rep C a r p (kV k) d) : d = unkD k := by
  cases k with
  | inl i => cases d <;> simp only [Rep, kV] at h <;> first | (cases h; done) | (cases h; rfl) | (obtain ⟨_, h⟩ := h; first | (cases h; done) | (obtain ⟨h, _⟩ := h; cases h; done) | (obtain ⟨_, h⟩ := h; first | (cases h; done) | (obtain ⟨h, _⟩ := h; cases h; done) | (obtain ⟨_, _, h, _⟩ := h; cases h; done)))
  | inr i => cases d <;> simp only [Rep, kV] at h <;> first | (cases h; done) | (cases h; rfl) | (obtain ⟨_, h⟩ := h; first | (cases h; done) | (obtain ⟨h, _⟩ := h; cases h; done) | (obtain ⟨_, h⟩ := h; first | (cases h; done) | (obtain ⟨h, _⟩ := h; cases h; done) | (obtain ⟨_, _, h, _⟩ := h; cases h; done)))
theorem keyD_unk (k : Key) : keyD (unkD k) = some k := by cases k <;> rfl
theorem keyD_rep {C : KM} {a : Wd} {r : Nat} {p : List Nat} {d : D} {v : V} {k : Key} (h : keyD d = some k) (q : Rep C a r p v d) : v = kV k := by
  cases d <;> simp only [keyD] at h <;> (try (cases h; done)) <;> cases h
  · exact rep_int q
  · exact rep_str q
theorem getK_rep {C : KM} {a : Wd} {r : Nat} {p : List Nat} (x : Key) : ∀ {kvs : List (Key × V)} {ks ws : List D} {n m : Nat}, RepL C a r p n (kvs.map fun q => kV q.1) ks → RepL C a r p m (kvs.map (·.2)) ws →
    match getK ks ws x with
    | some w => ∃ v j, valV kvs x = some v ∧ Rep C a r (j :: p) v w
    | none => valV kvs x = none
  | [], ks, ws, n, m, h, g => by
    have e : ks = [] := by cases ks with | nil => rfl | cons _ _ => simp only [RepL, List.map_nil] at h; obtain ⟨_, _, e, _⟩ := h; cases e
    subst e
    simp [getK, valV]
  | (k, v) :: kvs, ks, ws, n, m, h, g => by
    cases ks with
    | nil => simp only [RepL, List.map_cons] at h; cases h
    | cons d ks =>
      cases ws with
      | nil => simp only [RepL, List.map_cons] at g; cases g
      | cons w ws =>
        simp only [RepL, List.map_cons] at h g
        obtain ⟨v1, us, e1, h1, h2⟩ := h
        obtain ⟨v2, us', e2, g1, g2⟩ := g
        cases e1; cases e2
        have ed := rep_key h1
        subst ed
        simp only [getK, keyD_unk]
        by_cases e : k = x
        · subst e
          simp only [if_true]
          exact ⟨v, m, valV_pos rfl, g1⟩
        · have ne : ¬ (some k : Option Key) = some x := fun z => e (Option.some.inj z)
          simp only [if_neg ne]
          have ih := getK_rep (C := C) (a := a) (r := r) (p := p) x (kvs := kvs) (ks := ks) (ws := ws) h2 g2
          rw [valV_neg (p := (k, v)) e]
          exact ih

/-! ### order -/
section
variable {X : Cx} {C : KM}
theorem op_ltD : OpR X (compareOp .Lt) (rD C ltD) := by
  intro pins s σ H x y v u Q I rx ry h
  obtain ⟨a, d1, d2, r1, r2, d, rfl, k, p1, p2, hd, q⟩ := h
  cases d1 <;> cases d2 <;> simp only [ltD] at hd <;> try (cases hd; done)
  case int.int i j => cases hd; cases rep_int p1; cases rep_int p2; exact op_lt pins s σ a.H _ _ v u Q I rx ry ⟨i, j, rfl, rfl, q _ a (Grow.refl a) k rep_ofbl⟩
  case str.str i j => cases hd; cases rep_str p1; cases rep_str p2; exact op_lt_str pins s σ a.H _ _ v u Q I rx ry ⟨i, j, rfl, rfl, q _ a (Grow.refl a) k rep_ofbl⟩
theorem op_leD : OpR X (compareOp .LtE) (rD C leD) := by
  intro pins s σ H x y v u Q I rx ry h
  obtain ⟨a, d1, d2, r1, r2, d, rfl, k, p1, p2, hd, q⟩ := h
  cases d1 <;> cases d2 <;> simp only [leD] at hd <;> try (cases hd; done)
  case int.int i j => cases hd; cases rep_int p1; cases rep_int p2; exact op_le pins s σ a.H _ _ v u Q I rx ry ⟨i, j, rfl, rfl, q _ a (Grow.refl a) k rep_ofbl⟩
  case str.str i j => cases hd; cases rep_str p1; cases rep_str p2; exact op_le_str pins s σ a.H _ _ v u Q I rx ry ⟨i, j, rfl, rfl, q _ a (Grow.refl a) k rep_ofbl⟩
theorem op_gtD : OpR X (compareOp .Gt) (rD C gtD) := by
  intro pins s σ H x y v u Q I rx ry h
  obtain ⟨a, d1, d2, r1, r2, d, rfl, k, p1, p2, hd, q⟩ := h
  cases d1 <;> cases d2 <;> simp only [gtD] at hd <;> try (cases hd; done)
  case int.int i j => cases hd; cases rep_int p1; cases rep_int p2; exact op_gt pins s σ a.H _ _ v u Q I rx ry ⟨i, j, rfl, rfl, q _ a (Grow.refl a) k rep_ofbl⟩
  case str.str i j => cases hd; cases rep_str p1; cases rep_str p2; exact op_gt_str pins s σ a.H _ _ v u Q I rx ry ⟨i, j, rfl, rfl, q _ a (Grow.refl a) k rep_ofbl⟩
theorem op_geD : OpR X (compareOp .GtE) (rD C geD) := by
  intro pins s σ H x y v u Q I rx ry h
  obtain ⟨a, d1, d2, r1, r2, d, rfl, k, p1, p2, hd, q⟩ := h
  cases d1 <;> cases d2 <;> simp only [geD] at hd <;> try (cases hd; done)
  case int.int i j => cases hd; cases rep_int p1; cases rep_int p2; exact op_ge pins s σ a.H _ _ v u Q I rx ry ⟨i, j, rfl, rfl, q _ a (Grow.refl a) k rep_ofbl⟩
  case str.str i j => cases hd; cases rep_str p1; cases rep_str p2; exact op_ge_str pins s σ a.H _ _ v u Q I rx ry ⟨i, j, rfl, rfl, q _ a (Grow.refl a) k rep_ofbl⟩
end

/-! ### in -/
theorem flat_rep {C : KM} {a : Wd} {r : Nat} {p : List Nat} {d : D} {v : V} (h : flatD d = true) (q : Rep C a r p v d) : flatV v = true := by
  cases d <;> simp only [flatD] at h <;> (try (cases h; done)) <;> (simp only [Rep] at q; subst q; rfl)
theorem eqF_rep {C : KM} {a : Wd} {r s : Nat} {p p' : List Nat} {d e : D} {v u : V} (h : flatD d = true) (h' : flatD e = true) (q : Rep C a r p v d) (q' : Rep C a s p' u e) : eqV v u = eqF d e := by
  cases d <;> simp only [flatD] at h <;> (try (cases h; done)) <;> cases e <;> simp only [flatD] at h' <;> (try (cases h'; done)) <;> (simp only [Rep] at q q'; subst q q'; rfl)
theorem flats_rep {C : KM} {a : Wd} {r : Nat} {p : List Nat} : ∀ {l : List D} {n : Nat} {vs : List V}, l.all flatD = true → RepL C a r p n vs l → vs.all flatV = true
  | [], n, vs, h, q => by simp only [RepL] at q; subst q; rfl
  | d :: l, n, vs, h, q => by
    simp only [List.all_cons, Bool.and_eq_true] at h
    simp only [RepL] at q
    obtain ⟨v, us, rfl, q1, q2⟩ := q
    rw [List.all_cons, flat_rep h.1 q1, flats_rep h.2 q2]; rfl
theorem anyF_rep {C : KM} {a : Wd} {r s : Nat} {p p' : List Nat} {x : D} {v : V} (hx : flatD x = true) (qx : Rep C a s p' v x) : ∀ {l : List D} {n : Nat} {vs : List V}, l.all flatD = true → RepL C a r p n vs l → inV v vs = l.any fun y => eqF y x
  | [], n, vs, h, q => by simp only [RepL] at q; subst q; rfl
  | d :: l, n, vs, h, q => by
    simp only [List.all_cons, Bool.and_eq_true] at h
    simp only [RepL] at q
    obtain ⟨u, us, rfl, q1, q2⟩ := q
    have ih := anyF_rep hx qx h.2 q2
    unfold inV at ih ⊢
    rw [List.any_cons, List.any_cons, eqF_rep h.1 hx q1 qx, ih]
section
variable {X : Cx} {C : KM} (hC : C.K = X.K)
theorem sign_of {s : Str} {c : Nat} (h : s.cps.toList = [c]) : s = ⟨#[c]⟩ := by
  obtain ⟨a⟩ := s
  have e : a = #[c] := by
    apply Array.ext'
    simpa using h
  rw [e]
include hC
/- in, by its truth b; f the comparison, g what it tells of b -/
theorem op_inG {op : CmpOp} {g : Bool → Bool} (hop : (op = .In ∧ g = id) ∨ (op = .NotIn ∧ g = (!·))) (hu : X.A.units + 1 < cLine) : OpR X (compareOp op) (rD C fun d e => (inQ d e).map fun b => .bl (g b)) := by
  intro pins s σ H x y v u Q I rx ry h
  obtain ⟨a, d1, d2, r1, r2, d, rfl, k, p1, p2, hd, q⟩ := h
  cases hb : inQ d1 d2 with
  | none => simp only [hb] at hd; cases hd
  | some b =>
    simp only [hb] at hd
    cases hd
    have fin : ∀ s', Inv X pins σ a.H s' → EP X pins σ Q (.bool (g b)) s' := fun s' I' => ⟨.bl (g b), a.H, I', rfl, q _ a (Grow.refl a) k rep_ofbl⟩
    have qv : Q (.bl (g b)) a.H := q _ a (Grow.refl a) k rep_ofbl
    have seq : ∀ {x2 : Addr} {us : List V} {l : List D}, y = .ref x2 → (SqL X.K a.H x2 us ∨ SqT X.K a.H x2 us) → RepL C a r2 [] 0 us l → (if flatD d1 && l.all flatD then some (l.any fun y => eqF y d1) else none) = some b →
        wpAny (model X.prog X.w) X.A (compareOp op v u) (EP X pins σ Q) X.xe s := fun {x2 us l} e1 hs hl e2 => by
      split at e2
      · rename_i z
        simp only [Bool.and_eq_true] at z
        cases e2
        subst e1
        have ei := anyF_rep z.1 p1 z.2 hl
        rcases hop with ⟨rfl, rfl⟩ | ⟨rfl, rfl⟩
        · exact op_in_seq pins s σ a.H _ _ v u Q I rx ry ⟨x2, us, rfl, hs, flat_rep z.1 p1, flats_rep z.2 hl, by rw [ei]; exact qv⟩
        · exact op_notIn_seq pins s σ a.H _ _ v u Q I rx ry ⟨x2, us, rfl, hs, flat_rep z.1 p1, flats_rep z.2 hl, by rw [ei]; exact qv⟩
      · cases e2
    have dic : ∀ {o : Bool} {ks ws : List D}, Rep C a r2 [] y (.dic o ks ws) → (match keyD d1 with | some k => some (getK ks ws k).isSome | none => none) = some b → wpAny (model X.prog X.w) X.A (compareOp op v u) (EP X pins σ Q) X.xe s := fun {o ks ws} rp e => by
      cases hk : keyD d1 with
      | none => rw [hk] at e; cases e
      | some key =>
        rw [hk] at e
        cases e
        obtain ⟨x2, ho, kv, vs, rfl, h1, dc, f, hk1, hk2⟩ := rep_dic k rp
        cases dc with
        | dk kvs =>
          have ex := keyD_rep hk p1
          subst ex
          obtain rfl : u = Value.ref x2 := ry
          have gk := getK_rep key hk1 hk2
          have ei : (valV kvs key).isSome = (getK ks ws key).isSome := by
            cases e : getK ks ws key with
            | none => rw [e] at gk; rw [gk]; rfl
            | some w => rw [e] at gk; obtain ⟨v', j, e', _⟩ := gk; rw [e']; rfl
          rcases hop with ⟨rfl, rfl⟩ | ⟨rfl, rfl⟩
          · exact d_in hu I (DGet.k h1) rx fun s3 I3 => by rw [ei]; exact fin s3 I3
          · exact d_notIn hu I (DGet.k h1) rx fun s3 I3 => by rw [ei]; exact fin s3 I3
    cases d2
    case str t =>
      cases d1 <;> simp only [inQ] at hb <;> try (cases hb; done)
      case str z =>
        cases rep_str p1; cases rep_str p2
        split at hb
        · rename_i c e
          cases hb
          have ez := sign_of e
          subst ez
          rcases hop with ⟨rfl, rfl⟩ | ⟨rfl, rfl⟩
          · exact op_in_sign pins s σ a.H _ _ v u Q I rx ry ⟨c, t, rfl, rfl, qv⟩
          · exact op_notIn_sign pins s σ a.H _ _ v u Q I rx ry ⟨c, t, rfl, rfl, qv⟩
        · cases hb
          rcases hop with ⟨rfl, rfl⟩ | ⟨rfl, rfl⟩
          · exact op_in_str pins s σ a.H _ _ v u Q I rx ry ⟨z, t, rfl, rfl, qv⟩
          · exact L2.op_notIn_str pins s σ a.H _ _ v u Q I rx ry ⟨z, t, rfl, rfl, qv⟩
    case dic o ks ws => cases d1 <;> simp only [inQ] at hb <;> exact dic p2 hb
    case lst o l =>
      obtain ⟨x2, us, e, h1, h2⟩ := rep_lst k p2
      cases d1 <;> simp only [inQ] at hb <;> exact seq e (.inl (SqL.of h1)) h2 hb
    case tup l =>
      obtain ⟨x2, us, e, h1, h2⟩ := rep_tup k p2
      rw [hC] at h1
      cases d1 <;> simp only [inQ] at hb <;> exact seq e (.inr h1) h2 hb
    all_goals (cases d1 <;> simp only [inQ] at hb <;> cases hb)
theorem op_inD (hu : X.A.units + 1 < cLine) : OpR X (compareOp .In) (rD C inD) := op_inG hC (g := id) (.inl ⟨rfl, rfl⟩) hu
theorem op_ninD (hu : X.A.units + 1 < cLine) : OpR X (compareOp .NotIn) (rD C ninD) := op_inG hC (g := (!·)) (.inr ⟨rfl, rfl⟩) hu
omit hC in
theorem op_isG {op : CmpOp} {g : Bool → Bool} (hop : (op = .Is ∧ g = id) ∨ (op = .IsNot ∧ g = (!·))) : OpR X (compareOp op) (rD C fun d e => (isQ d e).map fun b => .bl (g b)) := by
  intro pins s σ H x y v u Q I rx ry h
  obtain ⟨a, d1, d2, r1, r2, d, rfl, k, p1, p2, hd, q⟩ := h
  cases hb : isQ d1 d2 with
  | none => simp only [hb] at hd; cases hd
  | some b =>
    simp only [hb] at hd
    cases hd
    have qv : Q (.bl (g b)) a.H := q _ a (Grow.refl a) k rep_ofbl
    cases d2 <;> (try (cases d1 <;> simp only [isQ] at hb <;> cases hb; done))
    case non =>
      cases rep_non p2
      have ex : decide (x = .non) = b := by
        cases d1 <;> simp only [isQ] at hb <;> (try (cases hb; done)) <;> cases hb <;> simp only [Rep] at p1
        · subst p1; rfl
        · subst p1; rfl
        · subst p1; rfl
        · subst p1; rfl
        · obtain ⟨_, _, rfl, _⟩ := p1; rfl
        · obtain ⟨_, _, rfl, _⟩ := p1; rfl
        · obtain ⟨_, _, _, _, rfl, _⟩ := p1; rfl
        · obtain ⟨_, _, _, _, rfl, _⟩ := p1; rfl
      rcases hop with ⟨rfl, rfl⟩ | ⟨rfl, rfl⟩
      · exact op_isN pins s σ a.H _ _ v u Q I rx ry ⟨rfl, by rw [ex]; exact qv⟩
      · exact op_notN pins s σ a.H _ _ v u Q I rx ry ⟨rfl, by rw [ex]; exact qv⟩
    case bl c =>
      cases rep_bl p2
      cases d1 <;> simp only [isQ] at hb <;> (try (cases hb; done))
      case bl c' =>
        cases hb; cases rep_bl p1
        have e : decide (c' = c) = (c' == c) := by rw [Bool.eq_iff_iff]; simp
        rcases hop with ⟨rfl, rfl⟩ | ⟨rfl, rfl⟩
        · exact op_isBl pins s σ a.H _ _ v u Q I rx ry ⟨c', c, rfl, rfl, by rw [e]; exact qv⟩
        · exact op_notBl pins s σ a.H _ _ v u Q I rx ry ⟨c', c, rfl, rfl, by rw [e]; exact qv⟩
      all_goals
        cases hb
        have hv : plainIs v (.bool c) = true ∧ (v == .bool c) = false := by
          simp only [Rep] at p1
          first
            | (subst p1; cases rx; exact ⟨rfl, rfl⟩)
            | (subst p1; obtain ⟨t, rfl⟩ := rx; exact ⟨rfl, rfl⟩)
            | (obtain ⟨_, _, rfl, _⟩ := p1; cases rx; exact ⟨rfl, rfl⟩)
            | (obtain ⟨_, _, _, _, rfl, _⟩ := p1; cases rx; exact ⟨rfl, rfl⟩)
        obtain rfl : u = Value.bool c := ry
        rcases hop with ⟨rfl, rfl⟩ | ⟨rfl, rfl⟩
        · exact wpAny_is_plain hv.1 (by rw [hv.2]; exact ⟨.bl false, a.H, I, rfl, qv⟩)
        · exact wpAny_isNot_plain hv.1 (by rw [hv.2]; exact ⟨.bl true, a.H, I, rfl, qv⟩)
theorem op_isD : OpR X (compareOp .Is) (rD C isD) := op_isG (g := id) (.inl ⟨rfl, rfl⟩)
theorem op_nisD : OpR X (compareOp .IsNot) (rD C nisD) := op_isG (g := (!·)) (.inr ⟨rfl, rfl⟩)
end
end Mi
namespace Mi
open PySem PySem.Spec PyProof.Rows L2

/-! ### subscripts -/
def pick (o : Option D) : Option D := match o with
  | some d => if fz d = true then some d else none
  | none => none
theorem pick_eq {o : Option D} {d : D} (h : pick o = some d) : o = some d ∧ fz d = true := by
  unfold pick at h
  split at h
  · split at h
    · rename_i z; cases h; exact ⟨rfl, z⟩
    · cases h
  · cases h
def ixD : D → D → Option D
  | .lst _ l, .int i => pick (atI l i)
  | .tup l, .int i => pick (atI l i)
  | .scr l, .int i => (atI l i).map .int
  | .str s, .int i => if s.length ≤ sizeLine then (atI s.cps.toList i).map fun c => .str ⟨#[c]⟩ else none
  | .dic _ ks ws, x => match keyD x with
    | some k => pick (getK ks ws k)
    | none => none
  | _, _ => none
theorem atI_rep {C : KM} {a : Wd} {r : Nat} {p : List Nat} {l : List D} {n : Nat} {vs : List V} {i : Int} {d : D} (h : RepL C a r p n vs l) (e : atI l i = some d) : ∃ v j, atI vs i = some v ∧ Rep C a r (j :: p) v d := by
  unfold atI at e ⊢
  rw [h.len]
  cases hx : ixN l.length i with
  | none => rw [hx] at e; cases e
  | some j =>
    rw [hx] at e
    obtain ⟨v, h1, h2⟩ := h.get (show l[j]? = some d from e)
    exact ⟨v, n + j, h1, h2⟩
section
variable {X : Cx} {C : KM} (hC : C.K = X.K)
include hC
theorem ix_D (hu : X.A.units + 1 < cLine) : IxR X (rD C ixD) := by
  intro value slice pins s σ H x y v u Q I rx ry h hs
  obtain ⟨a, d1, d2, r1, r2, d, rfl, k, p1, p2, hd, q⟩ := h
  have fz_ok : ∀ {z : V} {r : Nat} {p : List Nat}, Rep C a r p z d → fz d = true → Q z a.H := fun {z r p} h e => q z a (Grow.refl a) k (h.step k (Step.refl a) e)
  have dic : ∀ {o : Bool} {ks ws : List D}, Rep C a r1 [] x (.dic o ks ws) → (match keyD d2 with | some k => pick (getK ks ws k) | none => none) = some d → wpAny (model X.prog X.w) X.A (subscriptTail value slice v u) (EP X pins σ Q) X.xe s := fun {o ks ws} rp e => by
    cases hk : keyD d2 with
    | none => rw [hk] at e; cases e
    | some key =>
      rw [hk] at e
      obtain ⟨e1, z⟩ := pick_eq e
      obtain ⟨x2, ho, kv, vs, rfl, h1, dc, f, hk1, hk2⟩ := rep_dic k rp
      cases dc with
      | dk kvs =>
        have ex := keyD_rep hk p2
        subst ex
        obtain rfl : v = Value.ref x2 := rx
        have gk := getK_rep key hk1 hk2
        rw [e1] at gk
        obtain ⟨w, j, ew, rw'⟩ := gk
        have g : DGet a.H x2 (kV key) (some w) := by rw [← ew]; exact DGet.k h1
        exact tail_any (dict_typeIs I g) PySem.F.slot_dict_getitem.lookup (d_getItem hu I g ry fun w' s3 I3 r3 => ⟨w, a.H, I3, r3, fz_ok rw' z⟩) hs
  cases d1
  case lst o l =>
    cases d2 <;> simp only [ixD] at hd <;> (try (cases hd; done))
    case int i =>
      obtain ⟨e1, z⟩ := pick_eq hd
      obtain ⟨x1, vs, rfl, h1, h2⟩ := rep_lst k p1
      cases rep_int p2
      obtain ⟨w, j, ew, rw'⟩ := atI_rep h2 e1
      exact ix_list value slice pins s σ a.H _ _ v u Q I rx ry ⟨x1, vs, i, w, rfl, rfl, SqL.of h1, ew, fz_ok rw' z⟩ hs
  case tup l =>
    cases d2 <;> simp only [ixD] at hd <;> (try (cases hd; done))
    case int i =>
      obtain ⟨e1, z⟩ := pick_eq hd
      obtain ⟨x1, vs, rfl, h1, h2⟩ := rep_tup k p1
      cases rep_int p2
      rw [hC] at h1
      obtain ⟨w, j, ew, rw'⟩ := atI_rep h2 e1
      exact ix_tup value slice pins s σ a.H _ _ v u Q I rx ry ⟨x1, vs, i, w, rfl, rfl, h1, ew, fz_ok rw' z⟩ hs
  case scr l =>
    cases d2 <;> simp only [ixD] at hd <;> (try (cases hd; done))
    case int i =>
      obtain ⟨x1, rfl, h1⟩ := rep_scr k p1
      cases rep_int p2
      rw [hC] at h1
      cases e1 : atI l i with
      | none => rw [e1] at hd; cases hd
      | some n =>
        rw [e1] at hd
        cases hd
        have ew : atI (l.map V.int) i = some (.int n) := by
          unfold atI at e1 ⊢
          rw [List.length_map]
          cases hx : ixN l.length i with
          | none => rw [hx] at e1; cases e1
          | some j =>
            rw [hx] at e1
            have e1 : l[j]? = some n := e1
            show (l.map V.int)[j]? = some (.int n)
            rw [List.getElem?_map, e1]; rfl
        exact ix_list value slice pins s σ a.H _ _ v u Q I rx ry ⟨x1, _, i, .int n, rfl, rfl, h1, ew, fz_ok (r := 0) (p := []) (by simp [Rep]) rfl⟩ hs
  case str z =>
    cases d2 <;> simp only [ixD] at hd <;> (try (cases hd; done))
    case int i =>
      split at hd
      · rename_i hz
        cases rep_int p2
        cases rep_str p1
        cases e1 : atI z.cps.toList i with
        | none => rw [e1] at hd; cases hd
        | some n =>
          rw [e1] at hd
          cases hd
          exact ix_str value slice pins s σ a.H _ _ v u Q I rx ry ⟨z, i, n, rfl, rfl, hz, e1, fz_ok (r := 0) (p := []) (by simp [Rep]) rfl⟩ hs
      · cases hd
  case dic o ks ws => cases d2 <;> simp only [ixD] at hd <;> exact dic p1 hd
  all_goals (cases d2 <;> simp only [ixD] at hd <;> cases hd)
end

/-! ### slices -/
def cutD {α : Type} (xs : List α) (lo hi : Option Int) : List α := (xs.drop (HT.sIx xs.length 0 lo)).take (HT.sIx xs.length xs.length hi - HT.sIx xs.length 0 lo)
def slD (d : D) (lo hi : Option Int) : Option D := match d with
  | .lst _ l => if fzL l then some (.lst true (cutD l lo hi)) else none
  | .tup l => if fzL l then some (.tup (cutD l lo hi)) else none
  | .scr l => some (.lst true ((cutD l lo hi).map .int))
  | .str s => if s.length ≤ sizeLine then some (.str (cutS s lo hi)) else none
  | _ => none
theorem RepL.cut {C : KM} {a : Wd} {r s : Nat} {p q : List Nat} : ∀ {l : List D} {n m : Nat} {vs : List V} (i k : Nat), fzL l = true → RepL C a r p n vs l → RepL C a s q m ((vs.drop i).take k) ((l.drop i).take k)
  | [], n, m, vs, i, k, _, h => by simp only [RepL] at h; subst h; simp [RepL]
  | d :: l, n, m, vs, i, 0, _, h => by simp [RepL]
  | d :: l, n, m, vs, 0, k + 1, z, h => by
    simp only [RepL] at h
    obtain ⟨v, us, rfl, h1, h2⟩ := h
    simp only [fzL, Bool.and_eq_true] at z
    simp only [List.drop_zero, List.take_succ_cons]
    have ih := RepL.cut (s := s) (q := q) (m := m + 1) 0 k z.2 h2
    exact ⟨v, _, rfl, Rep.fz (fun _ _ e => e) d _ _ v z.1 h1, ih⟩
  | d :: l, n, m, vs, i + 1, k + 1, z, h => by
    simp only [RepL] at h
    obtain ⟨v, us, rfl, h1, h2⟩ := h
    simp only [fzL, Bool.and_eq_true] at z
    simp only [List.drop_succ_cons]
    exact RepL.cut i (k + 1) z.2 h2
theorem fzL_take {l : List D} (h : fzL l = true) (k : Nat) : fzL (l.take k) = true := fzL_all fun d hd => fzL_mem h d (List.mem_of_mem_take hd)
theorem fzL_drop {l : List D} (h : fzL l = true) (k : Nat) : fzL (l.drop k) = true := fzL_all fun d hd => fzL_mem h d (List.mem_of_mem_drop hd)
theorem repL_ints {C : KM} {a : Wd} {r : Nat} {p : List Nat} : ∀ (l : List Int) (n : Nat), RepL C a r p n (l.map V.int) (l.map D.int)
  | [], n => by simp [RepL]
  | i :: l, n => ⟨.int i, l.map V.int, rfl, by simp [Rep], repL_ints l (n + 1)⟩
theorem fzL_ints : ∀ l : List Int, fzL (l.map D.int) = true
  | [] => rfl
  | i :: l => by simp only [List.map_cons, fzL, fz, fzL_ints l]; rfl
theorem map_cut {α β : Type} (f : α → β) (l : List α) (lo hi : Option Int) : cutD (l.map f) lo hi = (cutD l lo hi).map f := by
  unfold cutD
  rw [List.length_map, List.map_take, List.map_drop]
def rSD (C : KM) : V → Option Int → Option Int → Hp → VK → Prop := fun x lo hi H Q => ∃ a d1 r1 d, a.H = H ∧ Ok a ∧ Rep C a r1 [] x d1 ∧ slD d1 lo hi = some d ∧ ∀ z b, Grow a b → Ok b → Rep C b 0 [] z d → Q z b.H
section
variable {X : Cx} {C : KM} (hC : C.K = X.K)
include hC
theorem sl_D : SlR X (rSD C) := by
  intro pins s σ H x v vl vu lo hi sl Q I rx hs pl pu h
  obtain ⟨a, d1, r1, d, rfl, k, p1, hd, q⟩ := h
  cases d1 <;> simp only [slD] at hd <;> (try (cases hd; done))
  case str z =>
    split at hd
    · rename_i hz; cases hd; cases rep_str p1
      exact sl_str pins s σ a.H _ v vl vu lo hi sl Q I rx hs pl pu ⟨z, rfl, hz, q _ a (Grow.refl a) k (by simp [Rep])⟩
    · cases hd
  case scr l =>
    cases hd
    obtain ⟨x1, rfl, h1⟩ := rep_scr k p1
    rw [hC] at h1
    refine sl_list pins s σ a.H _ v vl vu lo hi sl Q I rx hs pl pu ⟨x1, _, rfl, h1, ?_⟩
    rw [show cutV (l.map V.int) lo hi = (cutD l lo hi).map V.int from map_cut V.int l lo hi]
    exact new_lst k (fzL_ints _) (repL_ints (r := 0) (p := []) _ 0) q
  case lst o l =>
    split at hd
    · rename_i hz; cases hd
      obtain ⟨x1, vs, rfl, h1, h2⟩ := rep_lst k p1
      refine sl_list pins s σ a.H _ v vl vu lo hi sl Q I rx hs pl pu ⟨x1, vs, rfl, SqL.of h1, ?_⟩
      unfold cutV
      rw [h2.len]
      exact new_lst k (fzL_take (fzL_drop hz _) _) (RepL.cut (s := 0) (q := []) (m := 0) _ _ hz h2) q
    · cases hd
  case tup l =>
    split at hd
    · rename_i hz; cases hd
      obtain ⟨x1, vs, rfl, h1, h2⟩ := rep_tup k p1
      rw [hC] at h1
      refine sl_tupA pins s σ a.H _ v vl vu lo hi sl Q I rx hs pl pu ⟨x1, vs, rfl, h1, fun e => ?_, fun _ => ?_⟩
      · rw [h2.len] at e
        have e2 : cutD l lo hi = l := by unfold cutD; rw [e.1, e.2]; simp
        rw [e2] at q
        exact q _ a (Grow.refl a) k (p1.step k (Step.refl a) (by simpa [fz] using hz))
      · unfold cutV
        rw [h2.len]
        exact new_tup k (fzL_take (fzL_drop hz _) _) (RepL.cut (s := 0) (q := []) (m := 0) _ _ hz h2) q
    · cases hd
end

/-! ### calls of builtins -/
def lenD : List D → Option D
  | [.str s] => if s.length ≤ sizeLine then some (.int s.length) else none
  | [.lst _ l] => some (.int l.length)
  | [.tup l] => some (.int l.length)
  | [.scr l] => some (.int l.length)
  | [.dic _ ks _] => some (.int ks.length)
  | _ => none
def absD : List D → Option D
  | [.int i] => some (.int (if i < 0 then -i else i))
  | _ => none
def intD : List D → Option D
  | [.int i] => some (.int i)
  | [.bl b] => some (.int (if b then 1 else 0))
  | _ => none
def minD : List D → Option D
  | [.int i, .int j] => some (.int (if j < i then j else i))
  | _ => none
def maxD : List D → Option D
  | [.int i, .int j] => some (.int (if j > i then j else i))
  | _ => none
def strD : List D → Option D
  | [.int i] => if i.natAbs.log2 < 1920 then some (.str (toString i)) else none
  | _ => none
def listD : List D → Option D
  | [.lst _ l] => if fzL l then some (.lst true l) else none
  | [.tup l] => if fzL l then some (.lst true l) else none
  | [.scr l] => some (.lst true (l.map .int))
  | _ => none
def tupleD : List D → Option D
  | [.lst _ l] => if fzL l then some (.tup l) else none
  | [.tup l] => if fzL l then some (.tup l) else none
  | _ => none
def blsOf : List D → Option (List Bool)
  | [] => some []
  | .bl b :: l => (blsOf l).map (b :: ·)
  | _ => none
def allD : List D → Option D
  | [.lst _ l] => (blsOf l).map fun bs => .bl (bs.all id)
  | _ => none
def anyD : List D → Option D
  | [.lst _ l] => (blsOf l).map fun bs => .bl (bs.any id)
  | _ => none
def intsOf : List D → Option (List Int)
  | [] => some []
  | .int b :: l => (intsOf l).map (b :: ·)
  | _ => none
def sumD : List D → Option D
  | [.lst _ l] => (intsOf l).map fun bs => .int bs.sum
  | _ => none
theorem one_rep {P : D → V → Prop} {d : D} {xs : List V} (h : Paired P [d] xs) : ∃ v, xs = [v] ∧ P d v := by
  cases h with
  | cons h t => cases t; exact ⟨_, rfl, h⟩
theorem two_rep {P : D → V → Prop} {d e : D} {xs : List V} (h : Paired P [d, e] xs) : ∃ v u, xs = [v, u] ∧ P d v ∧ P e u := by
  cases h with
  | cons h t => cases t with
    | cons h2 t => cases t; exact ⟨_, _, rfl, h, h2⟩
theorem bls_rep {C : KM} {a : Wd} {r : Nat} {p : List Nat} : ∀ {l : List D} {n : Nat} {vs : List V} {bs : List Bool}, blsOf l = some bs → RepL C a r p n vs l → vs = bs.map V.bl
  | [], n, vs, bs, h, q => by simp only [RepL] at q; subst q; cases h; rfl
  | d :: l, n, vs, bs, h, q => by
    simp only [RepL] at q
    obtain ⟨v, us, rfl, q1, q2⟩ := q
    cases d <;> simp only [blsOf] at h <;> (try (cases h; done))
    case bl b =>
      cases hl : blsOf l with
      | none => rw [hl] at h; cases h
      | some cs =>
        rw [hl] at h
        cases h
        rw [rep_bl q1, bls_rep hl q2]; rfl
theorem ints_rep {C : KM} {a : Wd} {r : Nat} {p : List Nat} : ∀ {l : List D} {n : Nat} {vs : List V} {bs : List Int}, intsOf l = some bs → RepL C a r p n vs l → vs = bs.map V.int
  | [], n, vs, bs, h, q => by simp only [RepL] at q; subst q; cases h; rfl
  | d :: l, n, vs, bs, h, q => by
    simp only [RepL] at q
    obtain ⟨v, us, rfl, q1, q2⟩ := q
    cases d <;> simp only [intsOf] at h <;> (try (cases h; done))
    case int b =>
      cases hl : intsOf l with
      | none => rw [hl] at h; cases h
      | some cs =>
        rw [hl] at h
        cases h
        rw [rep_int q1, ints_rep hl q2]; rfl
section
variable {X : Cx} {C : KM} (hC : C.K = X.K)
include hC
theorem call_lenDD : CallR X (.builtin "len") (cD C lenD) := by
  intro pins s σ H xs us Q I r h
  obtain ⟨a, ds, d, rfl, k, ps, hd, q⟩ := h
  match ds, hd with
  | [d1], hd =>
    obtain ⟨v, rfl, r1, p1⟩ := one_rep ps
    cases d1 <;> simp only [lenD] at hd <;> (try (cases hd; done))
    case str z =>
      split at hd
      · rename_i hz; cases hd; cases rep_str p1
        exact call_len pins s σ a.H _ us Q I r ⟨_, _, rfl, ⟨hz, rfl⟩, q _ a (Grow.refl a) k (by simp [Rep])⟩
      · cases hd
    case lst o l =>
      cases hd
      obtain ⟨x1, vs, rfl, h1, h2⟩ := rep_lst k p1
      exact call_len pins s σ a.H _ us Q I r ⟨_, _, rfl, .inl ⟨vs, SqL.of h1, rfl⟩, q _ a (Grow.refl a) k (by simp [Rep, h2.len])⟩
    case tup l =>
      cases hd
      obtain ⟨x1, vs, rfl, h1, h2⟩ := rep_tup k p1
      rw [hC] at h1
      exact call_len pins s σ a.H _ us Q I r ⟨_, _, rfl, .inr ⟨vs, h1, rfl⟩, q _ a (Grow.refl a) k (by simp [Rep, h2.len])⟩
    case scr l =>
      cases hd
      obtain ⟨x1, rfl, h1⟩ := rep_scr k p1
      rw [hC] at h1
      exact call_len pins s σ a.H _ us Q I r ⟨_, _, rfl, .inl ⟨_, h1, rfl⟩, q _ a (Grow.refl a) k (by simp [Rep])⟩
    case dic o ks ws =>
      cases hd
      obtain ⟨x1, ho, kv, vs, rfl, h1, dc, f, hk1, hk2⟩ := rep_dic k p1
      cases dc with
      | dk kvs =>
        have hl : kvs.length = ks.length := by have := hk1.len; simpa using this
        exact call_lenD pins s σ a.H _ us Q I r ⟨x1, kvs, rfl, h1, q _ a (Grow.refl a) k (by simp [Rep, hl])⟩
  | [], hd => simp [lenD] at hd
  | _ :: _ :: _, hd => simp [lenD] at hd
omit hC in
theorem call_absD : CallR X (.builtin "abs") (cD C absD) := by
  intro pins s σ H xs us Q I r h
  obtain ⟨a, ds, d, rfl, k, ps, hd, q⟩ := h
  match ds, hd with
  | [.int i], hd =>
    obtain ⟨v, rfl, r1, p1⟩ := one_rep ps
    simp only [absD] at hd
    cases hd; cases rep_int p1
    exact call_abs pins s σ a.H _ us Q I r ⟨i, rfl, q _ a (Grow.refl a) k (by simp [Rep])⟩
omit hC in
theorem call_intD : CallR X (.type "int") (cD C intD) := by
  intro pins s σ H xs us Q I r h
  obtain ⟨a, ds, d, rfl, k, ps, hd, q⟩ := h
  match ds, hd with
  | [.int i], hd =>
    obtain ⟨v, rfl, r1, p1⟩ := one_rep ps
    simp only [intD] at hd
    cases hd; cases rep_int p1
    exact call_int1 pins s σ a.H _ us Q I r (.inl ⟨i, rfl, q _ a (Grow.refl a) k (by simp [Rep])⟩)
  | [.bl i], hd =>
    obtain ⟨v, rfl, r1, p1⟩ := one_rep ps
    simp only [intD] at hd
    cases hd; cases rep_bl p1
    exact call_int1 pins s σ a.H _ us Q I r (.inr ⟨i, rfl, q _ a (Grow.refl a) k (by simp [Rep])⟩)
omit hC in
theorem call_minD (hc : X.calm = true) : CallR X (.builtin "min") (cD C minD) := by
  intro pins s σ H xs us Q I r h
  obtain ⟨a, ds, d, rfl, k, ps, hd, q⟩ := h
  match ds, hd with
  | [.int i, .int j], hd =>
    obtain ⟨v, w, rfl, ⟨_, p1⟩, ⟨_, p2⟩⟩ := two_rep ps
    simp only [minD] at hd
    cases hd; cases rep_int p1; cases rep_int p2
    exact call_min2 hc pins s σ a.H _ us Q I r ⟨i, j, rfl, q _ a (Grow.refl a) k (by simp [Rep])⟩
omit hC in
theorem call_maxD (hc : X.calm = true) : CallR X (.builtin "max") (cD C maxD) := by
  intro pins s σ H xs us Q I r h
  obtain ⟨a, ds, d, rfl, k, ps, hd, q⟩ := h
  match ds, hd with
  | [.int i, .int j], hd =>
    obtain ⟨v, w, rfl, ⟨_, p1⟩, ⟨_, p2⟩⟩ := two_rep ps
    simp only [maxD] at hd
    cases hd; cases rep_int p1; cases rep_int p2
    exact call_max2 hc pins s σ a.H _ us Q I r ⟨i, j, rfl, q _ a (Grow.refl a) k (by simp [Rep])⟩
omit hC in
theorem call_strD : CallR X (.type "str") (cD C strD) := by
  intro pins s σ H xs us Q I r h
  obtain ⟨a, ds, d, rfl, k, ps, hd, q⟩ := h
  match ds, hd with
  | [.int i], hd =>
    obtain ⟨v, rfl, r1, p1⟩ := one_rep ps
    simp only [strD] at hd
    split at hd
    · rename_i hz; cases hd; cases rep_int p1
      exact call_str_int pins s σ a.H _ us Q I r ⟨i, rfl, hz, q _ a (Grow.refl a) k (by simp [Rep])⟩
    · cases hd
theorem call_listD : CallR X (.type "list") (cD C listD) := by
  intro pins s σ H xs us Q I r h
  obtain ⟨a, ds, d, rfl, k, ps, hd, q⟩ := h
  match ds, hd with
  | [.lst o l], hd =>
    obtain ⟨v, rfl, r1, p1⟩ := one_rep ps
    simp only [listD] at hd
    split at hd
    · rename_i hz; cases hd
      obtain ⟨x1, vs, rfl, h1, h2⟩ := rep_lst k p1
      exact call_list_of pins s σ a.H _ us Q I r ⟨x1, vs, rfl, .inl (SqL.of h1), new_lst k hz h2 q⟩
    · cases hd
  | [.tup l], hd =>
    obtain ⟨v, rfl, r1, p1⟩ := one_rep ps
    simp only [listD] at hd
    split at hd
    · rename_i hz; cases hd
      obtain ⟨x1, vs, rfl, h1, h2⟩ := rep_tup k p1
      rw [hC] at h1
      exact call_list_of pins s σ a.H _ us Q I r ⟨x1, vs, rfl, .inr h1, new_lst k hz h2 q⟩
    · cases hd
  | [.scr l], hd =>
    obtain ⟨v, rfl, r1, p1⟩ := one_rep ps
    simp only [listD] at hd
    cases hd
    obtain ⟨x1, rfl, h1⟩ := rep_scr k p1
    rw [hC] at h1
    exact call_list_of pins s σ a.H _ us Q I r ⟨x1, _, rfl, .inl h1, new_lst k (fzL_ints _) (repL_ints (r := 0) (p := []) _ 0) q⟩
theorem call_tupleD : CallR X (.type "tuple") (cD C tupleD) := by
  intro pins s σ H xs us Q I r h
  obtain ⟨a, ds, d, rfl, k, ps, hd, q⟩ := h
  match ds, hd with
  | [.lst o l], hd =>
    obtain ⟨v, rfl, r1, p1⟩ := one_rep ps
    simp only [tupleD] at hd
    split at hd
    · rename_i hz; cases hd
      obtain ⟨x1, vs, rfl, h1, h2⟩ := rep_lst k p1
      exact call_tuple_of pins s σ a.H _ us Q I r ⟨x1, vs, rfl, .inl ⟨SqL.of h1, new_tup k hz h2 q⟩⟩
    · cases hd
  | [.tup l], hd =>
    obtain ⟨v, rfl, r1, p1⟩ := one_rep ps
    simp only [tupleD] at hd
    split at hd
    · rename_i hz; cases hd
      have p0 := p1.step (s := 0) (q := []) k (Step.refl a) (show fz (.tup l) = true by simpa [fz] using hz)
      obtain ⟨x1, vs, rfl, h1, h2⟩ := rep_tup k p1
      rw [hC] at h1
      exact call_tuple_of pins s σ a.H _ us Q I r ⟨x1, vs, rfl, .inr ⟨h1, q _ a (Grow.refl a) k p0⟩⟩
    · cases hd
omit hC in
theorem call_allD (hc : X.calm = true) : CallR X (.builtin "all") (cD C allD) := by
  intro pins s σ H xs us Q I r h
  obtain ⟨a, ds, d, rfl, k, ps, hd, q⟩ := h
  match ds, hd with
  | [.lst o l], hd =>
    obtain ⟨v, rfl, r1, p1⟩ := one_rep ps
    simp only [allD] at hd
    cases hb : blsOf l with
    | none => rw [hb] at hd; cases hd
    | some bs =>
      rw [hb] at hd; cases hd
      obtain ⟨x1, vs, rfl, h1, h2⟩ := rep_lst k p1
      have e := bls_rep hb h2
      subst e
      exact cr_all hc pins s σ a.H _ us Q I r ⟨x1, bs, rfl, SqL.of h1, q _ a (Grow.refl a) k (by simp [Rep])⟩
omit hC in
theorem call_anyD (hc : X.calm = true) : CallR X (.builtin "any") (cD C anyD) := by
  intro pins s σ H xs us Q I r h
  obtain ⟨a, ds, d, rfl, k, ps, hd, q⟩ := h
  match ds, hd with
  | [.lst o l], hd =>
    obtain ⟨v, rfl, r1, p1⟩ := one_rep ps
    simp only [anyD] at hd
    cases hb : blsOf l with
    | none => rw [hb] at hd; cases hd
    | some bs =>
      rw [hb] at hd; cases hd
      obtain ⟨x1, vs, rfl, h1, h2⟩ := rep_lst k p1
      have e := bls_rep hb h2
      subst e
      exact cr_any hc pins s σ a.H _ us Q I r ⟨x1, bs, rfl, SqL.of h1, q _ a (Grow.refl a) k (by simp [Rep])⟩
omit hC in
theorem call_sumD (hc : X.calm = true) : CallR X (.builtin "sum") (cD C sumD) := by
  intro pins s σ H xs us Q I r h
  obtain ⟨a, ds, d, rfl, k, ps, hd, q⟩ := h
  match ds, hd with
  | [.lst o l], hd =>
    obtain ⟨v, rfl, r1, p1⟩ := one_rep ps
    simp only [sumD] at hd
    cases hb : intsOf l with
    | none => rw [hb] at hd; cases hd
    | some bs =>
      rw [hb] at hd; cases hd
      obtain ⟨x1, vs, rfl, h1, h2⟩ := rep_lst k p1
      have e := ints_rep hb h2
      subst e
      exact cr_sum hc pins s σ a.H _ us Q I r ⟨x1, bs, rfl, SqL.of h1, q _ a (Grow.refl a) k (by simp [Rep])⟩
end
end Mi
namespace Mi
open PySem PySem.Spec PyProof.Rows L2

/-! ### statements' ends -/
inductive FlowD where
  | next | ret (d : D) | brk | cont
section
variable (G : Gm) (W : WX)
def PostS (D : Ends) (a : Wd) (r : Res (FlowD × EnvD)) : Prop :=
  match r with
  | .ok (.next, e) => ∀ b σ, Step a b → RelE G b σ e → D.nx σ b.H
  | .ok (.brk, e) => ∀ b σ, Step a b → RelE G b σ e → D.bk σ b.H
  | .ok (.cont, e) => ∀ b σ, Step a b → RelE G b σ e → D.ct σ b.H
  | .ok (.ret d, e) => ∀ b σ v, Step a b → RelE G b σ e → Rep G.C b 0 [] v d → D.rt v b.H
  | .exc x e => ∀ b σ cls dd, Step a b → RelE G b σ e → ExcRep G.C b x cls dd → W cls dd σ b.H
  | .bad => False
def tS (m : EM FlowD) : TS := fun D σ H => ∃ a env, a.H = H ∧ RelE G a σ env ∧ PostS G W D a (m env)
end
section
variable {G : Gm} {W : WX} {D : Ends} {a b : Wd} {σ : L2.St} {env : EnvD}
theorem PostS.step {r : Res (FlowD × EnvD)} (st : Step a b) (h : PostS G W D a r) : PostS G W D b r := by
  match r, h with
  | .ok (.next, e), h => exact fun c σ s => h c σ (st.trans s)
  | .ok (.brk, e), h => exact fun c σ s => h c σ (st.trans s)
  | .ok (.cont, e), h => exact fun c σ s => h c σ (st.trans s)
  | .ok (.ret d, e), h => exact fun c σ v s => h c σ v (st.trans s)
  | .exc x e, h => exact fun c σ cls dd s => h c σ cls dd (st.trans s)
  | .bad, h => exact h
/- an expression ahead of the rest of a statement -/
theorem PostS.ahead {α : Type} {m : Res (α × EnvD)} {k : α × EnvD → Res (FlowD × EnvD)} (h : PostS G W D a (m.bind k)) : PostR G W σ a m fun x e b => PostS G W D b (k (x, e)) := by
  cases m with
  | ok x => exact fun c s _ => PostS.step s h
  | exc x e => exact fun c cls dd s r q => h c σ cls dd s r q
  | bad => exact h
theorem tE_ofS {m : EM Mi.D} {k : Mi.D × EnvD → Res (FlowD × EnvD)} {R : VK} (rel : RelE G a σ env) (h : PostS G W D a ((m env).bind k))
    (hq : ∀ x e b v, Step a b → RelE G b σ e → Rep G.C b 0 [] v x → PostS G W D b (k (x, e)) → R v b.H) : tE G W m σ a.H R :=
  ⟨a, env, rfl, rel, h.ahead.imp fun x e b s r p v q => hq x e b v s r q p⟩
theorem tArg_ofS {m : EM Arg} {k : Arg × EnvD → Res (FlowD × EnvD)} {R : VK} (rel : RelE G a σ env) (h : PostS G W D a ((m env).bind k))
    (hq : ∀ x e b v, Step a b → RelE G b σ e → ArgRep G.C b σ x v → PostS G W D b (k (x, e)) → R v b.H) : tArg G W m σ a.H R :=
  ⟨a, env, rfl, rel, h.ahead.imp fun x e b s r p v q => hq x e b v s r q p⟩
theorem tArgs_ofS {m : EM (List Arg)} {k : List Arg × EnvD → Res (FlowD × EnvD)} {R : List V → Hp → Prop} (rel : RelE G a σ env) (h : PostS G W D a ((m env).bind k))
    (hq : ∀ x e b v, Step a b → RelE G b σ e → Paired (ArgRep G.C b σ) x v → PostS G W D b (k (x, e)) → R v b.H) : tArgs G W m σ a.H R :=
  ⟨a, env, rfl, rel, h.ahead.imp fun x e b s r p v q => hq x e b v s r q p⟩
theorem tT_ofS {m : EM Bool} {k : Bool × EnvD → Res (FlowD × EnvD)} {R : Bool → Hp → Prop} (rel : RelE G a σ env) (h : PostS G W D a ((m env).bind k))
    (hq : ∀ x e b, Step a b → RelE G b σ e → PostS G W D b (k (x, e)) → R x b.H) : tT G W m σ a.H R :=
  ⟨a, env, rfl, rel, h.ahead.imp fun x e b s r p => hq x e b s r p⟩
end
/- frozen data put into a slot -/
theorem RelE.setz {G : Gm} {a : Wd} {σ : L2.St} {env : EnvD} (r : RelE G a σ env) {i : Nat} {d : D} {v : V} {s : Nat} {p : List Nat} (hi : i ∉ G.io) (z : fz d = true) (h : Rep G.C a s p v d) : RelE G a (σ.set i (some v)) (env.set i (some d)) := by
  refine ⟨r.ok, by rw [List.length_set, List.length_set]; exact r.len, fun j e hj => ?_, fun j hj w hw => ?_⟩
  · by_cases ij : i = j
    · subst ij
      have hi : i < env.length := by
        by_cases q : i < env.length
        · exact q
        · rw [List.getElem?_eq_none (by rw [List.length_set]; omega)] at hj; cases hj
      rw [List.getElem?_set_self hi] at hj
      cases hj
      exact ⟨v, List.getElem?_set_self (by rw [← r.len]; exact hi), h.step r.ok (Step.refl a) z⟩
    · rw [List.getElem?_set_ne ij] at hj
      obtain ⟨v', e', q⟩ := r.slot j e hj
      exact ⟨v', by rw [List.getElem?_set_ne ij]; exact e', q⟩
  · have ne : i ≠ j := by rintro rfl; exact hi hj
    rw [List.getElem?_set_ne ne]
    exact r.prm j hj w hw
/- a temp put into a slot -/
theorem RelE.sett {G : Gm} {a : Wd} {σ : L2.St} {env : EnvD} (r : RelE G a σ env) {i : Nat} {d : D} {v : V} (hi : i ∉ G.io) (h : Rep G.C a 0 [] v d) : RelE G (mvW a 0 (i + 1)) (σ.set i (some v)) (env.set i (some d)) := by
  refine ⟨mvW_ok r.ok, by rw [List.length_set, List.length_set]; exact r.len, fun j e hj => ?_, fun j hj w hw => ?_⟩
  · by_cases ij : i = j
    · subst ij
      have hi : i < env.length := by
        by_cases q : i < env.length
        · exact q
        · rw [List.getElem?_eq_none (by rw [List.length_set]; omega)] at hj; cases hj
      rw [List.getElem?_set_self hi] at hj
      cases hj
      exact ⟨v, List.getElem?_set_self (by rw [← r.len]; exact hi), mvW_rep h⟩
    · rw [List.getElem?_set_ne ij] at hj
      obtain ⟨v', e', q⟩ := r.slot j e hj
      exact ⟨v', by rw [List.getElem?_set_ne ij]; exact e', mvW_else (Nat.succ_ne_zero j) q⟩
  · have ne : i ≠ j := by rintro rfl; exact hi hj
    rw [List.getElem?_set_ne ne]
    exact r.prm j hj w hw

/-! ### targets -/
inductive Tgt where
  | nm (i : Nat) | tp (ts : List Tgt)
mutual
def mTg : Tgt → D → EnvD → Option EnvD
  | .nm i, d, e => some (e.set i (some d))
  | .tp ts, .tup l, e => mTgs ts l e
  | .tp _, _, _ => none
def mTgs : List Tgt → List D → EnvD → Option EnvD
  | [], [], e => some e
  | t :: ts, d :: ds, e => match mTg t d e with
    | some e1 => mTgs ts ds e1
    | none => none
  | _, _, _ => none
end
mutual
def Tgt.off (io : List Nat) : Tgt → Prop
  | .nm i => i ∉ io
  | .tp ts => Tgt.offs io ts
def Tgt.offs (io : List Nat) : List Tgt → Prop
  | [] => True
  | t :: ts => Tgt.off io t ∧ Tgt.offs io ts
end
mutual
def gT (K : PySem.W.Frag) : Tgt → TG
  | .nm i => gName i
  | .tp ts => gTup K ts.length (gTs K ts)
def gTs (K : PySem.W.Frag) : List Tgt → TGs
  | [] => gNil
  | t :: ts => gCons (gT K t) (gTs K ts)
end
mutual
theorem tg_w {G : Gm} {a : Wd} : ∀ (t : Tgt) {σ : L2.St} {env env' : EnvD} {d : D} {v : V} {s : Nat} {p : List Nat} {Q : L2.St → Hp → Prop}, Tgt.off G.io t → RelE G a σ env → fz d = true → Rep G.C a s p v d → mTg t d env = some env' →
    (∀ σ', RelE G a σ' env' → Q σ' a.H) → gT G.C.K t v σ a.H Q
  | .nm i, σ, env, env', d, v, s, p, Q, hf, rel, z, h, e, q => by
    simp only [mTg] at e
    cases e
    simp only [gT]
    simp only [Tgt.off] at hf
    exact q _ (rel.setz hf z h)
  | .tp ts, σ, env, env', d, v, s, p, Q, hf, rel, z, h, e, q => by
    cases d <;> simp only [mTg] at e <;> (try (cases e; done))
    case tup l =>
      obtain ⟨x, vs, rfl, h1, h2⟩ := rep_tup rel.ok h
      simp only [gT]
      have z : fzL l = true := by simpa [fz] using z
      simp only [Tgt.off] at hf
      refine ⟨x, vs, rfl, h1, ?_, tgs_w ts hf rel z h2 e q⟩
      rw [h2.len]; exact (tgs_len ts l env env' e).symm
theorem tgs_w {G : Gm} {a : Wd} : ∀ (ts : List Tgt) {σ : L2.St} {env env' : EnvD} {l : List D} {vs : List V} {s n : Nat} {p : List Nat} {Q : L2.St → Hp → Prop}, Tgt.offs G.io ts → RelE G a σ env → fzL l = true → RepL G.C a s p n vs l → mTgs ts l env = some env' →
    (∀ σ', RelE G a σ' env' → Q σ' a.H) → gTs G.C.K ts vs σ a.H Q
  | [], σ, env, env', l, vs, s, n, p, Q, hf, rel, z, h, e, q => by
    cases l with
    | nil =>
      simp only [mTgs] at e
      cases e
      simp only [RepL] at h
      simp only [gTs]
      exact ⟨h, q σ rel⟩
    | cons d l => simp [mTgs] at e
  | t :: ts, σ, env, env', l, vs, s, n, p, Q, hf, rel, z, h, e, q => by
    cases l with
    | nil => simp [mTgs] at e
    | cons d l =>
      simp only [mTgs] at e
      simp only [fzL, Bool.and_eq_true] at z
      simp only [RepL] at h
      simp only [Tgt.offs] at hf
      obtain ⟨v, us, rfl, h1, h2⟩ := h
      cases e1 : mTg t d env with
      | none => rw [e1] at e; cases e
      | some e2 =>
        rw [e1] at e
        simp only [gTs]
        exact ⟨v, us, rfl, tg_w t hf.1 rel z.1 h1 e1 fun σ' rel' => tgs_w ts hf.2 rel' z.2 h2 e q⟩
theorem tgs_len : ∀ (ts : List Tgt) (l : List D) (e e' : EnvD), mTgs ts l e = some e' → ts.length = l.length
  | [], [], _, _, _ => rfl
  | [], _ :: _, _, _, h => by simp [mTgs] at h
  | _ :: _, [], _, _, h => by simp [mTgs] at h
  | t :: ts, d :: l, e, e', h => by
    simp only [mTgs] at h
    cases e1 : mTg t d e with
    | none => rw [e1] at h; cases h
    | some e2 => rw [e1] at h; rw [List.length_cons, List.length_cons, tgs_len ts l e2 e' h]
end

/-! ### what is walked -/
/- turn by turn the items ds -/
def ItRep (C : KM) (a : Wd) (ds : List D) (J : It) : Prop := ∀ c, Ok c → Step a c → (∀ i d, ds[i]? = some d → J.go i c.H ∧ ∀ x H', J.yld i c.H x H' → ∃ c', c'.H = H' ∧ Grow c c' ∧ Ok c' ∧ Rep C c' 0 [] x d) ∧ J.stop ds.length c.H
section
variable (G : Gm) (W : WX)
def tI (m : EM (List D)) : TI := fun σ H R => ∃ a env, a.H = H ∧ RelE G a σ env ∧ PostR G W σ a (m env) fun ds _ b => fzL ds = true ∧ ∀ J, ItRep G.C b ds J → R J b.H
end
theorem PI.weak {X : Cx} {tg e : Expr} {t u : TI} (h : PI X tg e t) (w : ∀ σ H R, u σ H R → t σ H R) : PI X tg e u := ⟨fun pins s σ H R I q => h.run pins s σ H R I (w σ H R q)⟩
/- range(..), of its bounds -/
def rngD (lo : Int) (n : Nat) : List D := (List.range n).map fun (i : Nat) => .int (lo + (i : Int))
def mIt (ma : EM (List Arg)) (f : List D → Option (List D)) : EM (List D) := fun env => (ma env).bind fun (xs, e) => match Arg.gets e xs with
  | some ds => match f ds with
    | some l => .ok (l, e)
    | none => .bad
  | none => .bad
def rng1 : List D → Option (List D)
  | [.int n] => if n < 2 ^ 62 ∧ -(2 ^ 62) ≤ n then some (rngD 0 n.toNat) else none
  | _ => none
def rng2 : List D → Option (List D)
  | [.int i, .int j] => if -(2 ^ 62) ≤ i ∧ i < 2 ^ 62 ∧ -(2 ^ 62) ≤ j ∧ j < 2 ^ 62 then some (rngD i (j - i).toNat) else none
  | _ => none
/- a list, a tuple, a text, frozen -/
def seqI : List D → Option (List D)
  | [.lst false l] => if fzL l then some l else none
  | [.tup l] => if fzL l then some l else none
  | [.scr l] => some (l.map .int)
  | [.str s] => some (s.cps.toList.map fun c => .str ⟨#[c]⟩)
  | _ => none
theorem fzL_map {α : Type} (f : α → D) (h : ∀ x, fz (f x) = true) (l : List α) : fzL (l.map f) = true := fzL_all fun d hd => by
  obtain ⟨x, _, rfl⟩ := List.mem_map.mp hd
  exact h x
theorem it_rng {C : KM} {a : Wd} (lo : Int) (n : Nat) : ItRep C a (rngD lo n) (Itr lo n) := fun c ok st => by
  refine ⟨fun i d e => ?_, by simp [rngD, Itr]⟩
  have hi : i < n := by have := (List.getElem?_eq_some_iff.mp e).1; simpa [rngD] using this
  refine ⟨hi, fun x H' y => ?_⟩
  obtain ⟨rfl, rfl⟩ := y
  have e2 : d = .int (lo + (i : Int)) := by
    rw [rngD, List.getElem?_map, List.getElem?_range hi] at e
    exact (Option.some.inj e).symm
  subst e2
  exact ⟨c, rfl, Grow.refl c, ok, by simp [Rep]⟩
theorem it_lst {C : KM} {a : Wd} {l : List D} {x : Addr} {vs : List V} {r n : Nat} {p : List Nat} (k : Ok a) (z : fzL l = true) (hx : a.F x = some (.lst vs)) (h : RepL C a r p n vs l) : ItRep C a l (Itl C.K x) := fun c ok st => by
  have hc : SqL C.K c.H x vs := SqL.of (ok.sub _ _ (st.f k hx))
  refine ⟨fun i d e => ?_, ⟨vs, hc, by rw [h.len]; exact Nat.le_refl _⟩⟩
  obtain ⟨v, h1, h2⟩ := h.get e
  refine ⟨⟨vs, v, hc, h1⟩, fun y H' q => ?_⟩
  obtain ⟨rfl, q⟩ := q
  have e2 := q vs hc
  rw [h1] at e2; cases e2
  exact ⟨c, rfl, Grow.refl c, ok, h2.step k st (fzL_mem z d (List.mem_of_getElem? e))⟩
theorem it_scr {C : KM} {a : Wd} {l : List Int} {x : Addr} (k : Ok a) (hx : SqL C.K a.F x (l.map V.int)) : ItRep C a (l.map .int) (Itl C.K x) := fun c ok st => by
  have hc : SqL C.K c.H x (l.map V.int) := sql_mono (fun y o h => ok.sub _ _ (st.f k h)) hx
  refine ⟨fun i d e => ?_, ⟨_, hc, by simp⟩⟩
  rw [List.getElem?_map] at e
  cases h1 : l[i]? with
  | none => rw [h1] at e; cases e
  | some z =>
    rw [h1] at e; cases e
    have h2 : (l.map V.int)[i]? = some (.int z) := by rw [List.getElem?_map, h1]; rfl
    refine ⟨⟨_, _, hc, h2⟩, fun y H' q => ?_⟩
    obtain ⟨rfl, q⟩ := q
    have e2 := q _ hc
    rw [h2] at e2; cases e2
    exact ⟨c, rfl, Grow.refl c, ok, by simp [Rep]⟩
theorem it_tup {C : KM} {a : Wd} {l : List D} {x : Addr} {vs : List V} {r n : Nat} {p : List Nat} (k : Ok a) (z : fzL l = true) (hx : SqT C.K a.F x vs) (h : RepL C a r p n vs l) : ItRep C a l (Itt C.K x) := fun c ok st => by
  have hc : SqT C.K c.H x vs := sqt_mono (fun y o h => ok.sub _ _ (st.f k h)) hx
  refine ⟨fun i d e => ?_, ⟨vs, hc, by rw [h.len]; exact Nat.le_refl _⟩⟩
  obtain ⟨v, h1, h2⟩ := h.get e
  refine ⟨⟨vs, v, hc, h1⟩, fun y H' q => ?_⟩
  obtain ⟨rfl, q⟩ := q
  have e2 := q vs hc
  rw [h1] at e2; cases e2
  exact ⟨c, rfl, Grow.refl c, ok, h2.step k st (fzL_mem z d (List.mem_of_getElem? e))⟩
theorem it_str {C : KM} {a : Wd} (s : Str) : ItRep C a (s.cps.toList.map fun c => .str ⟨#[c]⟩) (Its s) := fun c ok st => by
  refine ⟨fun i d e => ?_, by simp [Its]⟩
  rw [List.getElem?_map] at e
  cases h1 : s.cps.toList[i]? with
  | none => rw [h1] at e; cases e
  | some z =>
    rw [h1] at e; cases e
    have h2 : s.cps[i]? = some z := by simpa using h1
    refine ⟨(Array.getElem?_eq_some_iff.mp h2).1, fun y H' q => ?_⟩
    obtain ⟨rfl, c', q, rfl⟩ := q
    rw [h2] at q; cases q
    exact ⟨c, rfl, Grow.refl c, ok, by simp [Rep]⟩
section
variable {G : Gm} {W : WX} {σ : L2.St} {H : Hp} {R : It → Hp → Prop} {ma : EM (List Arg)}
theorem it_of {f : List D → Option (List D)} {S : List V → Hp → Prop} (h : tI G W (mIt ma f) σ H R)
    (hq : ∀ b ds vs l, Ok b → Paired (fun d v => ∃ r, Rep G.C b r [] v d) ds vs → f ds = some l → (∀ J, ItRep G.C b l J → R J b.H) → S vs b.H) : tArgs G W ma σ H S := by
  obtain ⟨a, env, rfl, rel, post⟩ := h
  refine ⟨a, env, rfl, rel, post.bind.imp fun xs e b s r p vs q => ?_⟩
  dsimp only at p
  cases hx : Arg.gets e xs with
  | none => rw [hx] at p; exact (show False from p).elim
  | some ds =>
    rw [hx] at p
    dsimp only at p
    cases hf : f ds with
    | none => rw [hf] at p; exact (show False from p).elim
    | some l =>
      rw [hf] at p
      exact hq b ds vs l r.ok (gets_rep r q hx) hf (p b (Step.refl b) r).2
theorem rng1_w (h : tI G W (mIt ma rng1) σ H R) : iRng1 (tArgs G W ma) σ H R := it_of h fun b ds vs l ok ps hf q => by
  match ds, hf with
  | [.int n], hf =>
    obtain ⟨v, rfl, r1, p1⟩ := one_rep ps
    cases rep_int p1
    simp only [rng1] at hf
    split at hf
    · rename_i hz; cases hf
      exact ⟨n, rfl, hz.2, hz.1, q _ (it_rng 0 n.toNat)⟩
    · cases hf
theorem rng2_w (h : tI G W (mIt ma rng2) σ H R) : iRng2 (tArgs G W ma) σ H R := it_of h fun b ds vs l ok ps hf q => by
  match ds, hf with
  | [.int n, .int m], hf =>
    obtain ⟨v, w, rfl, ⟨r1, p1⟩, ⟨r2, p2⟩⟩ := two_rep ps
    cases rep_int p1; cases rep_int p2
    simp only [rng2] at hf
    split at hf
    · rename_i hz; cases hf
      exact ⟨n, m, rfl, hz, q _ (it_rng n (m - n).toNat)⟩
    · cases hf
end
/- one value walked: list, tuple, text -/
def mIt1 (ma : EM Arg) : EM (List D) := fun env => (ma env).bind fun (x, e) => match x.get e with
  | some d => match seqI [d] with
    | some l => .ok (l, e)
    | none => .bad
  | none => .bad
theorem pi_or {X : Cx} {tg e : Expr} {t u : TI} (h : PI X tg e t) (g : PI X tg e u) : PI X tg e (fun σ H R => t σ H R ∨ u σ H R) := ⟨fun pins s σ H R I q => by
  rcases q with q | q
  · exact h.run pins s σ H R I q
  · exact g.run pins s σ H R I q⟩
theorem pe_or2 {X : Cx} {e : Expr} {t u : TE} (h : PE X e t) (g : PE X e u) : PE X e (fun σ H R => t σ H R ∨ u σ H R) := ⟨fun pins s σ H R I q => by
  rcases q with q | q
  · exact h.run pins s σ H R I q
  · exact g.run pins s σ H R I q⟩
theorem it1_w {G : Gm} {W : WX} {σ : L2.St} {H : Hp} {R : It → Hp → Prop} {ma : EM Arg} (h : tI G W (mIt1 ma) σ H R) :
    iList G.C.K (tArg G W ma) σ H R ∨ (iTup G.C.K (tArg G W ma) σ H R ∨ iStr (tArg G W ma) σ H R) := by
  obtain ⟨a, env, rfl, rel, post⟩ := h
  cases hm : ma env with
  | bad => unfold mIt1 at post; rw [hm] at post; exact (show False from post).elim
  | exc x e =>
    refine .inl ⟨a, env, rfl, rel, ?_⟩
    rw [hm]
    have post' := post
    unfold mIt1 at post'
    rw [hm] at post'
    exact post'
  | ok xe =>
    obtain ⟨x, e⟩ := xe
    have post' := post
    unfold mIt1 at post'
    rw [hm] at post'
    dsimp only [Res.bind] at post'
    cases hx : x.get e with
    | none => rw [hx] at post'; exact (show False from post').elim
    | some d =>
      rw [hx] at post'
      dsimp only at post'
      have mk : ∀ {S : VK}, (∀ b v, Step a b → RelE G b σ e → ArgRep G.C b σ x v → S v b.H) → tArg G W ma σ a.H S := fun {S} q => ⟨a, env, rfl, rel, by rw [hm]; exact fun b s r v ar => q b v s r ar⟩
      cases d <;> simp only [seqI] at post' <;> (try exact (show False from post').elim)
      case str z =>
        refine .inr (.inr (mk fun b v s r ar => ?_))
        obtain ⟨r1, p1⟩ := ar.rep r hx
        cases rep_str p1
        exact ⟨z, rfl, (post' b s r).2 _ (it_str z)⟩
      case scr l =>
        refine .inl (mk fun b v s r ar => ?_)
        obtain ⟨r1, p1⟩ := ar.rep r hx
        have p1' := p1
        simp only [Rep] at p1'
        obtain ⟨y, rfl, hy⟩ := p1'
        exact ⟨y, rfl, ⟨_, sql_mono r.ok.sub hy⟩, (post' b s r).2 _ (it_scr r.ok hy)⟩
      case tup l =>
        split at post'
        · rename_i z hz
          split at hz
          · rename_i fl; cases hz
            refine .inr (.inl (mk fun b v s r ar => ?_))
            obtain ⟨r1, p1⟩ := ar.rep r hx
            have p1' := p1
            simp only [Rep] at p1'
            obtain ⟨y, vs, rfl, hy, hl⟩ := p1'
            exact ⟨y, rfl, ⟨_, sqt_mono r.ok.sub hy⟩, (post' b s r).2 _ (it_tup r.ok fl hy hl)⟩
          · cases hz
        · exact (show False from post').elim
      case lst o l =>
        cases o with
        | true => simp only [seqI] at post'; exact (show False from post').elim
        | false =>
          simp only [seqI] at post'
          split at post'
          · rename_i z hz
            split at hz
            · rename_i fl; cases hz
              refine .inl (mk fun b v s r ar => ?_)
              obtain ⟨r1, p1⟩ := ar.rep r hx
              have p1' := p1
              simp only [Rep] at p1'
              obtain ⟨y, vs, rfl, hy, hl⟩ := p1'
              rw [if_neg Bool.false_ne_true] at hy
              exact ⟨y, rfl, ⟨_, SqL.of (r.ok.sub _ _ hy.1)⟩, (post' b s r).2 _ (it_lst r.ok fl hy.1 hl)⟩
            · cases hz
          · exact (show False from post').elim
end Mi
namespace Mi
open PySem PySem.Spec PyProof.Rows L2

/-! ### displays -/
theorem paired_repL {C : KM} {a : Wd} : ∀ {ds : List D} {vs : List V} {n : Nat}, fzL ds = true → Paired (fun d v => ∃ r, Rep C a r [] v d) ds vs → RepL C a 0 [] n vs ds
  | _, _, n, _, .nil => by simp [RepL]
  | d :: ds, v :: vs, n, z, .cons h t => by
    simp only [fzL, Bool.and_eq_true] at z
    obtain ⟨r, h⟩ := h
    exact ⟨v, vs, rfl, Rep.fz (fun _ _ e => e) d _ _ v z.1 h, paired_repL z.2 t⟩
def mTup (ma : EM (List Arg)) : EM D := fun env => (ma env).bind fun (xs, e) => match Arg.gets e xs with
  | some ds => if fzL ds = true ∧ ds.length ≤ 1000 then .ok (.tup ds, e) else .bad
  | none => .bad
def mLst (ma : EM (List Arg)) : EM D := fun env => (ma env).bind fun (xs, e) => match Arg.gets e xs with
  | some ds => if fzL ds = true ∧ ds.length ≤ 1000 then .ok (.lst true ds, e) else .bad
  | none => .bad
theorem sz1000 {n : Nat} (h : n ≤ 1000) : n ≤ sizeLine := Nat.le_of_lt (small1000 h)
theorem plen {α β : Type} {P : α → β → Prop} : ∀ {l : List α} {m : List β}, Paired P l m → l.length = m.length
  | _, _, .nil => rfl
  | _, _, .cons _ t => by rw [List.length_cons, List.length_cons, plen t]
section
variable {G : Gm} {W : WX} {σ : L2.St} {H : Hp} {Q : VK} {ma : EM (List Arg)}
theorem tup_w (h : tE G W (mTup ma) σ H Q) : tTup (tArgs G W ma) σ H Q := by
  obtain ⟨a, env, rfl, rel, post⟩ := h
  refine tArgs_of rel post fun xs e b vs s r ps p => ?_
  dsimp only at p
  cases hx : Arg.gets e xs with
  | none => rw [hx] at p; exact (show False from p).elim
  | some ds =>
    rw [hx] at p
    dsimp only at p
    split at p
    · rename_i z
      have g := gets_rep r ps hx
      refine ⟨by rw [← plen g]; exact sz1000 z.2, new_tup r.ok z.1 (paired_repL (n := 0) z.1 g) fun y c gr ok rp => p c gr.step (r.grow gr ok) y rp⟩
    · exact (show False from p).elim
theorem lst_w (h : tE G W (mLst ma) σ H Q) : tLst (tArgs G W ma) σ H Q := by
  obtain ⟨a, env, rfl, rel, post⟩ := h
  refine tArgs_of rel post fun xs e b vs s r ps p => ?_
  dsimp only at p
  cases hx : Arg.gets e xs with
  | none => rw [hx] at p; exact (show False from p).elim
  | some ds =>
    rw [hx] at p
    dsimp only at p
    split at p
    · rename_i z
      have g := gets_rep r ps hx
      refine ⟨by rw [← plen g]; exact sz1000 z.2, new_lst r.ok z.1 (paired_repL (n := 0) z.1 g) fun y c gr ok rp => p c gr.step (r.grow gr ok) y rp⟩
    · exact (show False from p).elim
/- {} -/
def mDic0 : EM D := fun env => .ok (.dic true [] [], env)
theorem dic0_w (h : tE G W mDic0 σ H Q) : tDNewK σ H Q := by
  obtain ⟨a, env, rfl, rel, post⟩ := h
  exact new_dic (kvs := []) rel.ok rfl rfl (r := 0) (p := []) (by simp [RepL]) (by simp [RepL]) fun y c gr ok rp => post c gr.step (rel.grow gr ok) y rp
end

/-! ### calls of defs -/
def OutRep (C : KM) (b : Wd) (vs : List V) (outs : EnvD) : Prop := ∀ i d, outs[i]? = some (some d) → ∃ v, vs[i]? = some v ∧ Rep C b (i + 1) [] v d
def spD (C : KM) (g : List D → Res (D × EnvD)) : Sp := fun vs H Q E => ∃ (a : Wd) (ds : List D), a.H = H ∧ Ok a ∧ ds.length = vs.length ∧ (∀ i d, ds[i]? = some d → ∃ v, vs[i]? = some v ∧ Rep C a (i + 1) [] v d) ∧
  match g ds with
  | .ok (d, outs) => ∀ b v, Step a b → Ok b → OutRep C b vs outs → Rep C b 0 [] v d → Q v b.H
  | .exc x outs => ∀ b cls dd, Step a b → Ok b → OutRep C b vs outs → ExcRep C b x cls dd → E cls dd b.H
  | .bad => False
def findP : List Arg → List D → Nat → Nat → Option Nat
  | .var i :: xs, d :: ds, s, k => if i + 1 = s ∧ fz d = false then some (k + 1) else findP xs ds s (k + 1)
  | .val _ :: xs, _ :: ds, s, k => findP xs ds s (k + 1)
  | _, _, _, _ => none
def ownVars : List Arg → List D → List Nat
  | .var i :: xs, d :: ds => if fz d = false then i :: ownVars xs ds else ownVars xs ds
  | .val _ :: xs, _ :: ds => ownVars xs ds
  | _, _ => []
def backP (xs : List Arg) (ds : List D) (k : Nat) : Option Nat := match xs[k]?, ds[k]? with
  | some (.var i), some d => if fz d = false then some (i + 1) else none
  | _, _ => none
def putBack : List Arg → List D → EnvD → EnvD → EnvD
  | .var i :: xs, d :: ds, outs, env => if fz d = true then putBack xs ds outs.tail env else putBack xs ds outs.tail (env.set i (outs.headD none))
  | .val _ :: xs, _ :: ds, outs, env => putBack xs ds outs.tail env
  | _, _, _, env => env
def mCallR (g : List D → Res (D × EnvD)) (xs : List Arg) (e : EnvD) : Res (D × EnvD) := match Arg.gets e xs with
  | none => .bad
  | some ds => if (ownVars xs ds).Nodup then
      match g ds with
      | .ok (d, outs) => .ok (d, putBack xs ds outs e)
      | .exc x outs => .exc x (putBack xs ds outs e)
      | .bad => .bad
    else .bad
def mCall (g : List D → Res (D × EnvD)) (ma : EM (List Arg)) : EM D := fun env => (ma env).bind fun (xs, e) => mCallR g xs e
theorem findP_some : ∀ {xs : List Arg} {ds : List D} {s k m : Nat}, findP xs ds s k = some m → ∃ j i d, m = k + j + 1 ∧ xs[j]? = some (.var i) ∧ ds[j]? = some d ∧ fz d = false ∧ s = i + 1
  | .var i :: xs, d :: ds, s, k, m, h => by
    simp only [findP] at h
    split at h
    · rename_i z; cases h
      exact ⟨0, i, d, rfl, rfl, rfl, z.2, z.1.symm⟩
    · obtain ⟨j, i', d', h1, h2, h3, h4, h5⟩ := findP_some h
      exact ⟨j + 1, i', d', by omega, by simpa using h2, by simpa using h3, h4, h5⟩
  | .val _ :: xs, _ :: ds, s, k, m, h => by
    simp only [findP] at h
    obtain ⟨j, i', d', h1, h2, h3, h4, h5⟩ := findP_some h
    exact ⟨j + 1, i', d', by omega, by simpa using h2, by simpa using h3, h4, h5⟩
  | [], _, s, k, m, h => by simp [findP] at h
  | .var _ :: _, [], s, k, m, h => by simp [findP] at h
  | .val _ :: _, [], s, k, m, h => by simp [findP] at h
theorem ownVars_mem : ∀ {xs : List Arg} {ds : List D} {j i : Nat} {d : D}, xs[j]? = some (.var i) → ds[j]? = some d → fz d = false → i ∈ ownVars xs ds
  | x :: xs, e :: ds, 0, i, d, h1, h2, h3 => by
    simp at h1 h2; subst h1 h2
    simp [ownVars, h3]
  | .var i' :: xs, e :: ds, j + 1, i, d, h1, h2, h3 => by
    simp only [ownVars]
    have ih := ownVars_mem (xs := xs) (ds := ds) (j := j) (by simpa using h1) (by simpa using h2) h3
    split
    · exact List.mem_cons_of_mem _ ih
    · exact ih
  | .val _ :: xs, e :: ds, j + 1, i, d, h1, h2, h3 => by
    simp only [ownVars]
    exact ownVars_mem (xs := xs) (ds := ds) (j := j) (by simpa using h1) (by simpa using h2) h3
  | [], _, j, i, d, h1, h2, h3 => by simp at h1
  | _ :: _, [], j, i, d, h1, h2, h3 => by simp at h2
theorem findP_at : ∀ {xs : List Arg} {ds : List D} {j i k : Nat} {d : D}, (ownVars xs ds).Nodup → xs[j]? = some (.var i) → ds[j]? = some d → fz d = false → findP xs ds (i + 1) k = some (k + j + 1)
  | .var i' :: xs, e :: ds, 0, i, k, d, nd, h1, h2, h3 => by
    simp at h1 h2; subst h1 h2
    simp [findP, h3]
  | .val _ :: xs, e :: ds, 0, i, k, d, nd, h1, h2, h3 => by simp at h1
  | .var i' :: xs, e :: ds, j + 1, i, k, d, nd, h1, h2, h3 => by
    simp only [findP]
    have h1 : xs[j]? = some (.var i) := by simpa using h1
    have h2 : ds[j]? = some d := by simpa using h2
    have hm := ownVars_mem h1 h2 h3
    rw [if_neg (fun z => by
      have e1 : i' = i := Nat.succ.inj z.1
      subst e1
      simp only [ownVars, if_pos z.2] at nd
      exact (List.nodup_cons.mp nd).1 hm)]
    have nd' : (ownVars xs ds).Nodup := by
      simp only [ownVars] at nd
      split at nd
      · exact (List.nodup_cons.mp nd).2
      · exact nd
    rw [findP_at (k := k + 1) nd' h1 h2 h3]
    congr 1; omega
  | .val _ :: xs, e :: ds, j + 1, i, k, d, nd, h1, h2, h3 => by
    simp only [findP]
    simp only [ownVars] at nd
    rw [findP_at (k := k + 1) nd (by simpa using h1) (by simpa using h2) h3]
    congr 1; omega
  | [], _, j, i, k, d, nd, h1, h2, h3 => by simp at h1
  | _ :: _, [], j, i, k, d, nd, h1, h2, h3 => by simp at h2
theorem putBack_len : ∀ (xs : List Arg) (ds : List D) (outs env : EnvD), (putBack xs ds outs env).length = env.length
  | .var i :: xs, d :: ds, outs, env => by
    simp only [putBack]
    split
    · exact putBack_len xs ds _ env
    · rw [putBack_len xs ds _ _, List.length_set]
  | .val _ :: xs, _ :: ds, outs, env => by simp only [putBack]; exact putBack_len xs ds _ env
  | [], _, outs, env => by simp [putBack]
  | .var _ :: _, [], outs, env => by simp [putBack]
  | .val _ :: _, [], outs, env => by simp [putBack]
theorem putBack_at : ∀ {xs : List Arg} {ds : List D} {outs env : EnvD} {j : Nat} {d' : D}, (putBack xs ds outs env)[j]? = some (some d') →
    (∃ (k : Nat) (d : D), xs[k]? = some (.var j) ∧ ds[k]? = some d ∧ fz d = false ∧ outs[k]? = some (some d')) ∨ (env[j]? = some (some d') ∧ ∀ (k : Nat) (d : D), xs[k]? = some (.var j) → ds[k]? = some d → fz d = true)
  | .var i :: xs, d :: ds, outs, env, j, d', h => by
    simp only [putBack] at h
    split at h
    · rename_i z
      rcases putBack_at h with ⟨k, e, h1, h2, h3, h4⟩ | ⟨h1, h2⟩
      · refine .inl ⟨k + 1, e, by simpa using h1, by simpa using h2, h3, ?_⟩
        cases outs with
        | nil => simp at h4
        | cons o outs => simpa using h4
      · refine .inr ⟨h1, fun k e g1 g2 => ?_⟩
        cases k with
        | zero => simp at g2; subst g2; exact z
        | succ k => exact h2 k e (by simpa using g1) (by simpa using g2)
    · rename_i z
      rcases putBack_at h with ⟨k, e, h1, h2, h3, h4⟩ | ⟨h1, h2⟩
      · refine .inl ⟨k + 1, e, by simpa using h1, by simpa using h2, h3, ?_⟩
        cases outs with
        | nil => simp at h4
        | cons o outs => simpa using h4
      · by_cases ij : i = j
        · subst ij
          by_cases hl : i < env.length
          · rw [List.getElem?_set_self hl] at h1
            refine .inl ⟨0, d, rfl, rfl, by simpa using z, ?_⟩
            cases outs with
            | nil => simp at h1
            | cons o outs => simpa using h1
          · rw [List.getElem?_eq_none (by rw [List.length_set]; omega)] at h1; cases h1
        · rw [List.getElem?_set_ne ij] at h1
          refine .inr ⟨h1, fun k e g1 g2 => ?_⟩
          cases k with
          | zero => simp at g1; exact absurd g1 ij
          | succ k => exact h2 k e (by simpa using g1) (by simpa using g2)
  | .val _ :: xs, d :: ds, outs, env, j, d', h => by
    simp only [putBack] at h
    rcases putBack_at h with ⟨k, e, h1, h2, h3, h4⟩ | ⟨h1, h2⟩
    · refine .inl ⟨k + 1, e, by simpa using h1, by simpa using h2, h3, ?_⟩
      cases outs with
      | nil => simp at h4
      | cons o outs => simpa using h4
    · refine .inr ⟨h1, fun k e g1 g2 => ?_⟩
      cases k with
      | zero => simp at g1
      | succ k => exact h2 k e (by simpa using g1) (by simpa using g2)
  | [], _, outs, env, j, d', h => .inr ⟨by simpa [putBack] using h, fun k e g1 g2 => by simp at g1⟩
  | .var _ :: _, [], outs, env, j, d', h => .inr ⟨by simpa [putBack] using h, fun k e g1 g2 => by simp at g2⟩
  | .val _ :: _, [], outs, env, j, d', h => .inr ⟨by simpa [putBack] using h, fun k e g1 g2 => by simp at g2⟩
theorem gets_at {env : EnvD} : ∀ {xs : List Arg} {ds : List D} {j : Nat} {d : D}, Arg.gets env xs = some ds → ds[j]? = some d → ∃ x, xs[j]? = some x ∧ x.get env = some d
  | [], ds, j, d, h, e => by cases h; simp at e
  | x :: xs, ds, j, d, h, e => by
    simp only [Arg.gets] at h
    cases hx : x.get env with
    | none => simp [hx] at h
    | some d1 =>
      cases hr : Arg.gets env xs with
      | none => simp [hx, hr] at h
      | some dr =>
        simp [hx, hr] at h
        subst h
        cases j with
        | zero => simp at e; subst e; exact ⟨x, rfl, hx⟩
        | succ j =>
          obtain ⟨y, h1, h2⟩ := gets_at hr (by simpa using e)
          exact ⟨y, by simpa using h1, h2⟩
theorem gets_len {env : EnvD} : ∀ {xs : List Arg} {ds : List D}, Arg.gets env xs = some ds → ds.length = xs.length
  | [], ds, h => by cases h; rfl
  | x :: xs, ds, h => by
    simp only [Arg.gets] at h
    cases hx : x.get env with
    | none => simp [hx] at h
    | some d1 =>
      cases hr : Arg.gets env xs with
      | none => simp [hx, hr] at h
      | some dr =>
        simp [hx, hr] at h
        subst h
        rw [List.length_cons, List.length_cons, gets_len hr]
theorem pat {α β : Type} {P : α → β → Prop} : ∀ {l : List α} {m : List β} {j : Nat} {x : α}, Paired P l m → l[j]? = some x → ∃ y, m[j]? = some y ∧ P x y
  | _, _, j, x, .nil, e => by simp at e
  | _, _, 0, x, .cons h t, e => by simp at e; subst e; exact ⟨_, rfl, h⟩
  | _, _, j + 1, x, .cons h t, e => by
    obtain ⟨y, h1, h2⟩ := pat (j := j) t (by simpa using e)
    exact ⟨y, by simpa using h1, h2⟩
/- the callee's world; the caller's behind it -/
def inT (xs : List Arg) (ds : List D) : Option Tag → Option Tag
  | some (s, q) => (findP xs ds s 0).map fun m => (m, q)
  | none => none
def restT (xs : List Arg) (ds : List D) : Option Tag → Option Tag
  | some (s, q) => match findP xs ds s 0 with
    | some _ => none
    | none => some (s, q)
  | none => none
def outT (xs : List Arg) (ds : List D) (old : Option Tag) : Option Tag → Option Tag
  | some (0, q) => some (0, q)
  | some (k + 1, q) => (backP xs ds k).map fun s => (s, q)
  | none => restT xs ds old
def inW (a : Wd) (xs : List Arg) (ds : List D) : Wd := ⟨a.F, a.H, fun x => inT xs ds (a.t x)⟩
def outW (a b : Wd) (xs : List Arg) (ds : List D) : Wd := ⟨b.F, b.H, fun x => outT xs ds (a.t x) (b.t x)⟩
theorem inW_t {a : Wd} {xs : List Arg} {ds : List D} {x : Addr} : (inW a xs ds).t x = inT xs ds (a.t x) := rfl
theorem outW_t {a b : Wd} {xs : List Arg} {ds : List D} {x : Addr} : (outW a b xs ds).t x = outT xs ds (a.t x) (b.t x) := rfl
section
variable {G : Gm} {a b : Wd} {σ : L2.St} {env : EnvD} {xs : List Arg} {ds : List D} {vs : List V}
theorem inW_ok (k : Ok a) : Ok (inW a xs ds) := by
  refine ⟨k.sub, fun x t h => ?_⟩
  rw [inW_t] at h
  cases e : a.t x with
  | none => rw [e] at h; cases h
  | some tt => exact k.own x _ e
theorem inW_rep (rel : RelE G a σ env) (nd : (ownVars xs ds).Nodup) (ps : Paired (ArgRep G.C a σ) xs vs) (hg : Arg.gets env xs = some ds) : ∀ i d, ds[i]? = some d → ∃ v, vs[i]? = some v ∧ Rep G.C (inW a xs ds) (i + 1) [] v d := fun i d hd => by
  obtain ⟨x, hx, hget⟩ := gets_at hg hd
  obtain ⟨v, hv, ar⟩ := pat ps hx
  refine ⟨v, hv, ?_⟩
  cases z : fz d with
  | true =>
    obtain ⟨r, rp⟩ := ar.rep rel hget
    exact Rep.fz (a := a) (b := inW a xs ds) (fun _ _ e => e) d [] [] v z rp
  | false =>
    cases x with
    | val d' => cases hget; rw [ar.1] at z; cases z
    | var j =>
      have hget : (match env[j]? with | some (some d) => some d | _ => none) = some d := hget
      split at hget
      · rename_i d' q
        cases hget
        obtain ⟨v', h1, rp⟩ := rel.slot j d q
        have ar : σ[j]? = some (some v) := ar
        rw [ar] at h1; cases h1
        have e := findP_at (k := 0) nd hx hd z
        have := Rep.to (C := G.C) (a := a) (b := inW a xs ds) (r := j + 1) (s := i + 1) (p := []) (q := []) (fun _ _ h => h) (fun y z' o h1 h2 => ⟨by
          rw [inW_t, h1]
          show (findP xs ds (j + 1) 0).map _ = _
          rw [e]; simp, h2⟩) d [] v
        exact this rp
      · cases hget
theorem outW_step (st : Step (inW a xs ds) b) (k : Ok b) : Step a (outW a b xs ds) := fun x o h t => by
  have ti : (inW a xs ds).t x = none := by rw [inW_t, t]; rfl
  obtain ⟨h1, h2, h3⟩ := st x o h ti
  refine ⟨h1, ?_, h3⟩
  rw [outW_t, h2, t]; rfl
theorem outW_ok (ka : Ok a) (st : Step (inW a xs ds) b) (k : Ok b) : Ok (outW a b xs ds) := by
  refine ⟨k.sub, fun x t h => ?_⟩
  rw [outW_t] at h
  cases e : b.t x with
  | some tt => exact k.own x tt e
  | none =>
    rw [e] at h
    cases e2 : a.t x with
    | none => rw [e2] at h; cases h
    | some sq =>
      obtain ⟨s, q⟩ := sq
      cases e3 : findP xs ds s 0 with
      | some m => rw [e2] at h; simp [outT, restT, e3] at h
      | none =>
        obtain ⟨f, o, ho⟩ := ka.own x _ e2
        have ti : (inW a xs ds).t x = none := by rw [inW_t, e2]; simp [inT, e3]
        obtain ⟨h1, h2, h3⟩ := st x o ho ti
        exact ⟨h3.trans f, o, h1⟩
theorem outW_rel (rel : RelE G a σ env) (nd : (ownVars xs ds).Nodup) (ps : Paired (ArgRep G.C a σ) xs vs) (hg : Arg.gets env xs = some ds) (st : Step (inW a xs ds) b) (k : Ok b) {outs : EnvD} (ho : OutRep G.C b vs outs) :
    RelE G (outW a b xs ds) σ (putBack xs ds outs env) := by
  refine ⟨outW_ok rel.ok st k, by rw [putBack_len]; exact rel.len, fun j d' hj => ?_, rel.prm⟩
  rcases putBack_at hj with ⟨i, d, h1, h2, h3, h4⟩ | ⟨h1, h2⟩
  · obtain ⟨v, hv, rp⟩ := ho i d' h4
    obtain ⟨v', hv', ar⟩ := pat ps h1
    rw [hv] at hv'; cases hv'
    refine ⟨v, ar, ?_⟩
    have hb : backP xs ds i = some (j + 1) := by unfold backP; rw [h1, h2]; simp [h3]
    have := Rep.to (C := G.C) (a := b) (b := outW a b xs ds) (r := i + 1) (s := j + 1) (p := []) (q := []) (fun _ _ h => h) (fun y z' o g1 g2 => ⟨by
      rw [outW_t, g1]
      show (backP xs ds i).map _ = _
      rw [hb]; rfl, g2⟩) d' [] v
    exact this rp
  · obtain ⟨v, hv, rp⟩ := rel.slot j d' h1
    refine ⟨v, hv, ?_⟩
    have hf : ∀ y o, a.F y = some o → (outW a b xs ds).F y = some o := fun y o h => by
      have ti : (inW a xs ds).t y = none := by rw [inW_t, rel.ok.tn h]; rfl
      exact ((st y o (rel.ok.sub y o h) ti).2.2).trans h
    cases z : fz d' with
    | true => exact Rep.fz hf d' [] [] v z rp
    | false =>
      have np : findP xs ds (j + 1) 0 = none := by
        cases e : findP xs ds (j + 1) 0 with
        | none => rfl
        | some m =>
          obtain ⟨j', i', d2, g1, g2, g3, g4, g5⟩ := findP_some e
          have e2 : i' = j := (Nat.succ.inj g5).symm
          subst e2
          rw [h2 j' d2 g2 g3] at g4; cases g4
      have := Rep.to (C := G.C) (a := a) (b := outW a b xs ds) (r := j + 1) (s := j + 1) (p := []) (q := []) hf (fun y z' o g1 g2 => by
        have ti : (inW a xs ds).t y = none := by rw [inW_t, g1]; simp [inT, np]
        obtain ⟨k1, k2, k3⟩ := st y o g2 ti
        refine ⟨?_, k1⟩
        rw [outW_t, k2, g1]; simp [outT, restT, np]) d' [] v
      exact this rp
theorem outW_res {C : KM} {d : D} {v : V} (rp : Rep C b 0 [] v d) : Rep C (outW a b xs ds) 0 [] v d := by
  have := Rep.to (C := C) (a := b) (b := outW a b xs ds) (r := 0) (s := 0) (p := []) (q := []) (fun _ _ h => h) (fun y z' o g1 g2 => ⟨by
    rw [outW_t, g1]; rfl, g2⟩) d [] v
  exact this rp
theorem outW_exc {C : KM} {x : Exc} {cls : Value} {dd : Option Addr} (h : ExcRep C b x cls dd) : ExcRep C (outW a b xs ds) x cls dd := by
  obtain ⟨h1, h2⟩ := h
  refine ⟨h1, ?_⟩
  rcases h2 with h2 | ⟨u, ws, e, f, l, z, rp⟩
  · exact .inl h2
  · exact .inr ⟨u, ws, e, f, l, z, RepL.fz (a := b) (b := outW a b xs ds) (fun _ _ h => h) x.ws [] [] 0 ws z rp⟩
end
/- the promise, from the caller's side -/
theorem call_sp {G : Gm} {W : WX} {σ : L2.St} {a : Wd} {env : EnvD} {xs : List Arg} {vs : List V} {g : List D → Res (D × EnvD)} {Q : VK} (rel : RelE G a σ env) (ps : Paired (ArgRep G.C a σ) xs vs)
    (post : PostR G W σ a (mCallR g xs env) fun d _ b => ∀ v, Rep G.C b 0 [] v d → Q v b.H) : spD G.C g vs a.H Q (fun cls dd H' => W cls dd σ H') := by
  unfold mCallR at post
  cases hg : Arg.gets env xs with
  | none => rw [hg] at post; exact (show False from post).elim
  | some ds =>
    rw [hg] at post
    dsimp only at post
    split at post
    · rename_i nd
      refine ⟨inW a xs ds, ds, rfl, inW_ok rel.ok, (gets_len hg).trans (plen ps), inW_rep rel nd ps hg, ?_⟩
      cases hr : g ds with
      | bad => rw [hr] at post; exact (show False from post).elim
      | ok do_ =>
        obtain ⟨d, outs⟩ := do_
        rw [hr] at post
        dsimp only
        exact fun b v st k ho rp => post (outW a b xs ds) (outW_step st k) (outW_rel rel nd ps hg st k ho) v (outW_res rp)
      | exc x outs =>
        rw [hr] at post
        dsimp only
        exact fun b cls dd st k ho er => post (outW a b xs ds) cls dd (outW_step st k) (outW_rel rel nd ps hg st k ho) (outW_exc er)
    · exact (show False from post).elim
/- a def (or class) that may be called from X -/
def CallOk (C : KM) (X : Cx) (g : List D → Res (D × EnvD)) (u : Value) : Prop := ∀ (W : WX), Takes X W → ∀ (pins : List (Addr × Obj)) (s : Shared) (σ : L2.St) (H : Hp) (us : List Value) (vs : List V) (Q : VK), L2.Inv X pins σ H s → Vals vs us →
  spD C g vs H Q (fun cls dd H' => W cls dd σ H') → wpAny (model X.prog X.w) X.A (call u us) (EP X pins σ Q) X.xe s
theorem pe_callD {X : Cx} {G : Gm} {W : WX} {g : List D → Res (D × EnvD)} {f : Addr} {x : Str} {p pos : Pos} {e : Expr} {es : List Expr} {ma : EM (List Arg)} (co : CallOk G.C X g (.ref f)) (tk : Takes X W) (hg : Gl X x) (hm : X.mg x = some (.ref f)) (hk : PySem.W.keepIn X.K (.ref f) = true)
    (ha : PA X (e :: es) (tArgs G W ma)) (hdb : (x == ("__debug__" : Str)) = false) (he : starEach (e :: es) X.env = (false, eval e X.env) :: starEach es X.env) (hpl : (backTo pos (starEach es X.env)).any (·.1) = false) :
    PE X (.Call (.Name x p) (e :: es) [] pos) (tE G W (mCall g ma)) := by
  refine ⟨fun pins s σ H Q I h => ?_⟩
  obtain ⟨a, env, rfl, rel, post⟩ := h
  refine wpAny_Call_Name_kw (ld_glob I hg hm ?_ hdb)
  have hA : tArgs G W ma σ a.H (fun vs H1 => spD G.C g vs H1 Q (fun cls dd H' => W cls dd σ H')) := tArgs_of rel post fun xs e1 b vs s1 r ps p => call_sp r ps p
  refine PySem.W.callWith_K (h₀ := X.base) I.ok.mod.kin hk (thn (ha.run pos pins s σ _ _ I hA) fun us s1 ⟨vs, H1, I1, r, q⟩ => ⟨I1.kIn, ?_⟩) he hpl
  exact co W tk pins s1 σ H1 us vs Q I1 r q
theorem pe_callD0 {X : Cx} {G : Gm} {W : WX} {g : List D → Res (D × EnvD)} {f : Addr} {x : Str} {p pos : Pos} (co : CallOk G.C X g (.ref f)) (tk : Takes X W) (hg : Gl X x) (hm : X.mg x = some (.ref f)) (hk : PySem.W.keepIn X.K (.ref f) = true)
    (hdb : (x == ("__debug__" : Str)) = false) : PE X (.Call (.Name x p) [] [] pos) (tE G W (mCall g (mArgs []))) := by
  refine ⟨fun pins s σ H Q I h => ?_⟩
  obtain ⟨a, env, rfl, rel, post⟩ := h
  refine wpAny_Call_Name_kw (ld_glob I hg hm ?_ hdb)
  exact PySem.W.callWith_K0 I.kIn hk (co W tk pins s σ _ [] [] Q I .nil (call_sp rel .nil (show PostR G W σ a (mCallR g [] env) _ from post)))
end Mi
namespace Mi
open PySem PySem.Spec PyProof.Rows L2

/-! ### statements -/
def mNext : EM FlowD := fun env => .ok (.next, env)
def mBrk : EM FlowD := fun env => .ok (.brk, env)
def mCnt : EM FlowD := fun env => .ok (.cont, env)
def mSeq (m k : EM FlowD) : EM FlowD := fun env => (m env).bind fun (f, e) => match f with
  | .next => k e
  | .brk => .ok (.brk, e)
  | .cont => .ok (.cont, e)
  | .ret d => .ok (.ret d, e)
def mIfS (c : EM Bool) (m n : EM FlowD) : EM FlowD := fun env => (c env).bind fun (b, e) => if b = true then m e else n e
def mRet (m : EM D) : EM FlowD := fun env => (m env).bind fun (d, e) => .ok (.ret d, e)
def mRetN : EM FlowD := fun env => .ok (.ret .non, env)
def mDrop (m : EM D) : EM FlowD := fun env => (m env).bind fun (_, e) => .ok (.next, e)
def mAsg (i : Nat) (m : EM D) : EM FlowD := fun env => (m env).bind fun (d, e) => .ok (.next, e.set i (some d))
/- frozen first, then taken apart -/
def mAsgT (t : Tgt) (m : EM D) : EM FlowD := fun env => (m env).bind fun (d, e) => match mTg t (frzQ d) e with
  | some e1 => .ok (.next, e1)
  | none => .bad
def mPar (i j : Nat) (ma : EM (List Arg)) : EM FlowD := fun env => (ma env).bind fun (xs, e) => match Arg.gets e xs with
  | some [d1, d2] => if fz d1 = true ∧ fz d2 = true then .ok (.next, (e.set i (some d1)).set j (some d2)) else .bad
  | _ => .bad
section
variable {G : Gm} {W : WX} {D : Ends} {σ : L2.St} {H : Hp}
theorem next_w (h : tS G W mNext D σ H) : tNext D σ H := by
  obtain ⟨a, env, rfl, rel, post⟩ := h
  exact post a σ (Step.refl a) rel
theorem brk_w (h : tS G W mBrk D σ H) : tBreak D σ H := by
  obtain ⟨a, env, rfl, rel, post⟩ := h
  exact post a σ (Step.refl a) rel
theorem cnt_w (h : tS G W mCnt D σ H) : tCont D σ H := by
  obtain ⟨a, env, rfl, rel, post⟩ := h
  exact post a σ (Step.refl a) rel
theorem seq_w {m k : EM FlowD} (h : tS G W (mSeq m k) D σ H) : tSeq (tS G W m) (tS G W k) D σ H := by
  obtain ⟨a, env, rfl, rel, post⟩ := h
  refine ⟨a, env, rfl, rel, ?_⟩
  unfold mSeq at post
  cases hm : m env with
  | bad => rw [hm] at post; exact (show False from post).elim
  | exc x e => rw [hm] at post; exact post
  | ok fe =>
    obtain ⟨f, e⟩ := fe
    rw [hm] at post
    cases f with
    | next => exact fun b σ' st r => ⟨b, e, rfl, r, PostS.step st post⟩
    | brk => exact post
    | cont => exact post
    | ret d => exact post
theorem ifS_w {c : EM Bool} {m n : EM FlowD} (h : tS G W (mIfS c m n) D σ H) : tIfS (tT G W c) (tS G W m) (tS G W n) D σ H := by
  obtain ⟨a, env, rfl, rel, post⟩ := h
  refine tT_ofS rel post fun x e b st r p => ?_
  cases x with
  | true => exact ite_tt ⟨b, e, rfl, r, p⟩
  | false => exact ite_ff ⟨b, e, rfl, r, p⟩
theorem ret_w {m : EM Mi.D} (h : tS G W (mRet m) D σ H) : tRet (tE G W m) D σ H := by
  obtain ⟨a, env, rfl, rel, post⟩ := h
  exact tE_ofS rel post fun x e b v st r rp p => p b σ v (Step.refl b) r rp
theorem retN_w (h : tS G W mRetN D σ H) : tRetN D σ H := by
  obtain ⟨a, env, rfl, rel, post⟩ := h
  exact post a σ .non (Step.refl a) rel (by simp [Rep])
theorem drop_w {m : EM Mi.D} (h : tS G W (mDrop m) D σ H) : tDrop (tE G W m) D σ H := by
  obtain ⟨a, env, rfl, rel, post⟩ := h
  exact tE_ofS rel post fun x e b v st r rp p => p b σ (Step.refl b) r
theorem asg_w {i : Nat} {m : EM Mi.D} (hi : i ∉ G.io) (h : tS G W (mAsg i m) D σ H) : tAsg (tE G W m) (gName i) D σ H := by
  obtain ⟨a, env, rfl, rel, post⟩ := h
  exact tE_ofS rel post fun x e b v st r rp p => p (mvW b 0 (i + 1)) _ mvW_step (r.sett hi rp)
theorem asgT_w {t : Tgt} {m : EM Mi.D} (hi : Tgt.off G.io t) (h : tS G W (mAsgT t m) D σ H) : tAsg (tE G W m) (gT G.C.K t) D σ H := by
  obtain ⟨a, env, rfl, rel, post⟩ := h
  refine tE_ofS rel post fun x e b v st r rp p => ?_
  dsimp only at p
  obtain ⟨z, rq⟩ := frzQ_rep (s := 0) (q := []) r.ok rp
  cases ht : mTg t (frzQ x) e with
  | none => rw [ht] at p; exact (show False from p).elim
  | some e1 =>
    rw [ht] at p
    exact tg_w (a := frzW b 0) t hi r.frz0 z rq ht fun σ' r' => p (frzW b 0) σ' frzW_step r'
theorem par_w {i j : Nat} {ma : EM (List Arg)} (hi : i ∉ G.io) (hj : j ∉ G.io) (h : tS G W (mPar i j ma) D σ H) : tPar i j (tArgs G W ma) D σ H := by
  obtain ⟨a, env, rfl, rel, post⟩ := h
  refine tArgs_ofS rel post fun xs e b vs st r ps p => ?_
  dsimp only at p
  cases hx : Arg.gets e xs with
  | none => rw [hx] at p; exact (show False from p).elim
  | some ds =>
    rw [hx] at p
    have g := gets_rep r ps hx
    match ds, p, g with
    | [], p, _ => exact (show False from p).elim
    | [_], p, _ => exact (show False from p).elim
    | _ :: _ :: _ :: _, p, _ => exact (show False from p).elim
    | [d1, d2], p, g =>
      dsimp only at p
      obtain ⟨v, u, rfl, ⟨r1, p1⟩, ⟨r2, p2⟩⟩ := two_rep g
      split at p
      · rename_i z
        exact ⟨v, u, rfl, p b _ (Step.refl b) ((r.setz hi z.1 p1).setz hj z.2 p2)⟩
      · exact (show False from p).elim
end

/-! ### loops -/
def loopF (t : Tgt) (body : EM FlowD) : List D → EnvD → Res (FlowD × EnvD)
  | [], e => .ok (.next, e)
  | d :: ds, e => match mTg t d e with
    | none => .bad
    | some e1 => (body e1).bind fun (f, e2) => match f with
      | .next => loopF t body ds e2
      | .cont => loopF t body ds e2
      | .brk => .ok (.next, e2)
      | .ret d => .ok (.ret d, e2)
def mFor (mi : EM (List D)) (t : Tgt) (body : EM FlowD) : EM FlowD := fun env => (mi env).bind fun (ds, e) => if fzL ds = true then loopF t body ds e else .bad
theorem PostS.aheadI {G : Gm} {W : WX} {D : Ends} {a : Wd} {σ : L2.St} {α : Type} {m : Res (α × EnvD)} {k : α × EnvD → Res (FlowD × EnvD)} (h : PostS G W D a (m.bind k)) : PostR G W σ a m fun x e b => PostS G W D b (k (x, e)) := h.ahead
def whileF (c : EM Bool) (body : EM FlowD) : Nat → EnvD → Res (FlowD × EnvD)
  | 0, _ => .bad
  | n + 1, e => (c e).bind fun (b, e1) => if b = true then (body e1).bind fun (f, e2) => match f with
      | .next => whileF c body n e2
      | .cont => whileF c body n e2
      | .brk => .ok (.next, e2)
      | .ret d => .ok (.ret d, e2)
    else .ok (.next, e1)
def mWhile (fuel : EnvD → Nat) (c : EM Bool) (body : EM FlowD) : EM FlowD := fun env => whileF c body (fuel env) env
section
variable {G : Gm} {W : WX} {D : Ends} {σ : L2.St} {H : Hp}
theorem for_w {mi : EM (List Mi.D)} {t : Tgt} {body : EM FlowD} (hi' : Tgt.off G.io t) (h : tS G W (mFor mi t body) D σ H) : tFor (tI G W mi) (gT G.C.K t) (tS G W body) D σ H := by
  obtain ⟨a, env, rfl, rel, post⟩ := h
  refine ⟨a, env, rfl, rel, post.ahead.imp fun ds e b st r p => ?_⟩
  dsimp only at p
  split at p
  · rename_i z
    refine ⟨z, fun J hJ => ⟨fun i m σ H => m = ds.length - i ∧ i ≤ ds.length ∧ ∃ c e, c.H = H ∧ Step b c ∧ RelE G c σ e ∧ PostS G W D c (loopF t body (ds.drop i) e), ⟨_, rfl, Nat.zero_le _, b, e, rfl, Step.refl b, r, p⟩, ?_⟩⟩
    rintro i m σ H ⟨rfl, hi, c, e, rfl, sc, rc, pc⟩
    obtain ⟨hgo, hstop⟩ := hJ c rc.ok sc
    by_cases hlt : i < ds.length
    · obtain ⟨d, hd⟩ : ∃ d, ds[i]? = some d := ⟨_, List.getElem?_eq_getElem hlt⟩
      obtain ⟨h1, h2⟩ := hgo i d hd
      have hdrop : ds.drop i = d :: ds.drop (i + 1) := by
        rw [List.drop_eq_getElem_cons hlt]
        rw [List.getElem?_eq_getElem hlt] at hd
        cases hd; rfl
      rw [hdrop] at pc
      simp only [loopF] at pc
      refine .inr ⟨h1, fun σ' H' => ∃ c e, c.H = H' ∧ Step b c ∧ RelE G c σ' e ∧ PostS G W D c (loopF t body (ds.drop (i + 1)) e), fun σ' H' q => ⟨ds.length - (i + 1), by omega, rfl, hlt, q⟩, fun x H' y => ?_⟩
      obtain ⟨c', rfl, gr, ok', rp⟩ := h2 x H' y
      cases ht : mTg t d e with
      | none => rw [ht] at pc; exact (show False from pc).elim
      | some e1 =>
        rw [ht] at pc
        dsimp only at pc
        refine tg_w t hi' (rc.grow gr ok') (fzL_mem z d (List.mem_of_getElem? hd)) rp ht fun σ' r' => ⟨c', e1, rfl, r', ?_⟩
        have pc := PostS.step gr.step pc
        have sc' : Step b c' := sc.trans gr.step
        cases hb : body e1 with
        | bad => rw [hb] at pc; exact (show False from pc).elim
        | exc x e2 => rw [hb] at pc; exact pc
        | ok fe =>
          obtain ⟨f, e2⟩ := fe
          rw [hb] at pc
          cases f with
          | next => exact fun b' σ' st' r' => ⟨b', e2, rfl, sc'.trans st', r', PostS.step st' pc⟩
          | brk => exact pc
          | cont => exact fun b' σ' st' r' => ⟨b', e2, rfl, sc'.trans st', r', PostS.step st' pc⟩
          | ret d => exact pc
    · have e1 : i = ds.length := by omega
      subst e1
      rw [List.drop_length] at pc
      exact .inl ⟨hstop, pc c σ (Step.refl c) rc⟩
  · exact (show False from p).elim
theorem while_w {fuel : EnvD → Nat} {c : EM Bool} {body : EM FlowD} (h : tS G W (mWhile fuel c body) D σ H) : tWhile (tT G W c) (tS G W body) D σ H := by
  obtain ⟨a, env, rfl, rel, post⟩ := h
  refine ⟨fun m σ H => ∃ b e, b.H = H ∧ RelE G b σ e ∧ PostS G W D b (whileF c body m e), ⟨fuel env, a, env, rfl, rel, post⟩, ?_⟩
  rintro m σ H ⟨b, e, rfl, r, p⟩
  cases m with
  | zero => exact (show False from p).elim
  | succ n =>
    refine tT_ofS r p fun x e1 b1 st r1 p1 => ?_
    dsimp only at p1
    cases x with
    | false =>
      rw [if_neg Bool.false_ne_true] at p1 ⊢
      exact p1 b1 σ (Step.refl b1) r1
    | true =>
      rw [if_pos rfl] at p1 ⊢
      refine ⟨fun σ' H' => ∃ b e, b.H = H' ∧ RelE G b σ' e ∧ PostS G W D b (whileF c body n e), fun σ' H' q => ⟨n, Nat.lt_succ_self n, q⟩, b1, e1, rfl, r1, ?_⟩
      cases hb : body e1 with
      | bad => rw [hb] at p1; exact (show False from p1).elim
      | exc x e2 => rw [hb] at p1; exact p1
      | ok fe =>
        obtain ⟨f, e2⟩ := fe
        rw [hb] at p1
        cases f with
        | next => exact fun b' σ' st' r' => ⟨b', e2, rfl, r', PostS.step st' p1⟩
        | brk => exact p1
        | cont => exact fun b' σ' st' r' => ⟨b', e2, rfl, r', PostS.step st' p1⟩
        | ret d => exact p1
end
end Mi
namespace Mi
open PySem PySem.Spec PyProof.Rows L2

/-! ### list comprehensions -/
def wipeE (e : EnvD) : List Nat → EnvD
  | [] => e
  | v :: vs => (wipeE e vs).set v none
def restV (e0 : EnvD) (v : Nat) : Option D := match e0[v]? with
  | some (some d) => if fz d = true then some d else none
  | _ => none
def restE (e0 e : EnvD) : List Nat → EnvD
  | [] => e
  | v :: vs => (restE e0 e vs).set v (restV e0 v)
def loopL (t : Tgt) (cond : EM Bool) (elt : EM D) (own : List Nat) : List D → List D → EnvD → Res (List D × EnvD)
  | [], acc, e => .ok (acc, e)
  | d :: ds, acc, e => match mTg t d (wipeE e own) with
    | none => .bad
    | some e1 => match cond e1 with
      | .ok (true, e2) => match elt e2 with
        | .ok (y, e3) => loopL t cond elt own ds (acc ++ [frzQ y]) e3
        | _ => .bad
      | .ok (false, e2) => loopL t cond elt own ds acc e2
      | _ => .bad
def mLc (mi : EM (List D)) (t : Tgt) (cond : EM Bool) (elt : EM D) (own : List Nat) : EM D := fun env => (mi env).bind fun (ds, e) =>
  if fzL ds = true ∧ ds.length ≤ 1000 then (loopL t cond elt own ds [] e).bind fun (l, e') => .ok (.lst true l, restE e e' own) else .bad
def mYes : EM Bool := fun env => .ok (true, env)
abbrev W0 : WX := fun _ _ _ _ => False
theorem wipeE_len (e : EnvD) : ∀ vs : List Nat, (wipeE e vs).length = e.length
  | [] => rfl
  | v :: vs => by unfold wipeE; rw [List.length_set, wipeE_len e vs]
theorem restE_len (e0 e : EnvD) : ∀ vs : List Nat, (restE e0 e vs).length = e.length
  | [] => rfl
  | v :: vs => by unfold restE; rw [List.length_set, restE_len e0 e vs]
theorem wipeE_some {e : EnvD} {i : Nat} {d : D} : ∀ {vs : List Nat}, (wipeE e vs)[i]? = some (some d) → e[i]? = some (some d) ∧ i ∉ vs
  | [], h => ⟨h, by simp⟩
  | v :: vs, h => by
    unfold wipeE at h
    by_cases q : v = i
    · subst q
      by_cases hl : v < (wipeE e vs).length
      · rw [List.getElem?_set_self hl] at h; cases h
      · rw [List.getElem?_eq_none (by rw [List.length_set]; omega)] at h; cases h
    · rw [List.getElem?_set_ne q] at h
      obtain ⟨h1, h2⟩ := wipeE_some h
      exact ⟨h1, by simp [h2, Ne.symm q]⟩
theorem restE_some {e0 e : EnvD} {i : Nat} {d : D} : ∀ {vs : List Nat}, (restE e0 e vs)[i]? = some (some d) → (e[i]? = some (some d) ∧ i ∉ vs) ∨ (i ∈ vs ∧ e0[i]? = some (some d) ∧ fz d = true)
  | [], h => .inl ⟨h, by simp⟩
  | v :: vs, h => by
    unfold restE at h
    by_cases q : v = i
    · subst q
      by_cases hl : v < (restE e0 e vs).length
      · rw [List.getElem?_set_self hl] at h
        have h : restV e0 v = some d := Option.some.inj h
        unfold restV at h
        split at h
        · rename_i d' e1
          split at h
          · rename_i z; cases h
            exact .inr ⟨by simp, e1, z⟩
          · cases h
        · cases h
      · rw [List.getElem?_eq_none (by rw [List.length_set]; omega)] at h; cases h
    · rw [List.getElem?_set_ne q] at h
      rcases restE_some h with ⟨h1, h2⟩ | ⟨h1, h2, h3⟩
      · exact .inl ⟨h1, by simp [h2, Ne.symm q]⟩
      · exact .inr ⟨by simp [h1], h2, h3⟩
theorem wipe_off {σ : L2.St} {i : Nat} : ∀ {vs : List Nat}, i ∉ vs → (wipe σ vs)[i]? = σ[i]?
  | [], _ => rfl
  | v :: vs, h => by
    simp only [List.mem_cons, not_or] at h
    unfold wipe
    rw [List.getElem?_set_ne (Ne.symm h.1)]
    exact wipe_off h.2
section
variable {G : Gm} {W : WX} {σ σ2 : L2.St} {H : Hp} {a b c : Wd} {own : List Nat}
theorem RelE.wiped {e : EnvD} (r : RelE G a σ e) (ho : ∀ i ∈ G.io, i ∉ own) : RelE G a (wipe σ own) (wipeE e own) := by
  refine ⟨r.ok, by rw [wipeE_len, wipe_length]; exact r.len, fun i d h => ?_, fun i hi v hv => ?_⟩
  · obtain ⟨h1, h2⟩ := wipeE_some h
    obtain ⟨v, e1, q⟩ := r.slot i d h1
    exact ⟨v, by rw [wipe_off h2]; exact e1, q⟩
  · rw [wipe_off (ho i hi)]; exact r.prm i hi v hv
theorem RelE.rewiped {e : EnvD} (r : RelE G a σ2 e) (hw : wipe σ2 own = wipe σ own) (ho : ∀ i ∈ G.io, i ∉ own) : RelE G a (wipe σ own) (wipeE e own) := by
  rw [← hw]; exact r.wiped ho
/- behind the block: e0 the frame ahead of it (at b), e the block's last -/
theorem RelE.unwiped {e0 e : EnvD} (r0 : RelE G b σ e0) (r : RelE G c (wipe σ own) (wipeE e own)) (st : Step b c) (le : e.length = e0.length) : RelE G c σ (restE e0 e own) := by
  refine ⟨r.ok, by rw [restE_len, le]; exact r0.len, fun i d h => ?_, r0.prm⟩
  rcases restE_some h with ⟨h1, h2⟩ | ⟨h1, h2, h3⟩
  · have : (wipeE e own)[i]? = some (some d) := by
      clear h r r0
      induction own with
      | nil => exact h1
      | cons v vs ih =>
        simp only [List.mem_cons, not_or] at h2
        unfold wipeE
        rw [List.getElem?_set_ne (Ne.symm h2.1)]
        exact ih h2.2
    obtain ⟨v, e1, q⟩ := r.slot i d this
    exact ⟨v, by rw [wipe_off h2] at e1; exact e1, q⟩
  · obtain ⟨v, e1, q⟩ := r0.slot i d h2
    exact ⟨v, e1, q.step r0.ok st h3⟩
end
/- the list that grows stands at A, outside of the world -/
structure GrowL (C : KM) (b c : Wd) (A : Addr) (acc : List D) : Prop where
  st : Step b c
  ok : Ok c
  f : c.F A = none
  t : c.t A = none
  h : ∃ vs, c.H A = some (.lst vs) ∧ RepL C c 0 [] 0 vs acc
  z : fzL acc = true
theorem GrowL.next {C : KM} {b c c' : Wd} {A : Addr} {acc : List D} (g : GrowL C b c A acc) (st : Step c c') (ok : Ok c') : GrowL C b c' A acc := by
  obtain ⟨vs, h1, h2⟩ := g.h
  obtain ⟨k1, k2, k3⟩ := st A _ h1 g.t
  exact ⟨g.st.trans st, ok, k3.trans g.f, k2, ⟨vs, k1, Rep.stepL g.ok st g.z h2⟩, g.z⟩
/- the list's own object changed -/
def putA (c : Wd) (A : Addr) (o : HO) : Wd := ⟨c.F, upd c.H A o, c.t⟩
theorem putA_ok {c : Wd} {A : Addr} {o : HO} (k : Ok c) (f : c.F A = none) : Ok (putA c A o) := by
  refine ⟨fun x u h => ?_, fun x t h => ?_⟩
  · have ne : x ≠ A := by rintro rfl; have h : c.F x = some u := h; rw [f] at h; cases h
    show upd c.H A o x = _
    rw [upd_ne ne]; exact k.sub x u h
  · obtain ⟨h1, u, h2⟩ := k.own x t h
    by_cases e : x = A
    · subst e; exact ⟨h1, o, upd_same⟩
    · exact ⟨h1, u, by show upd c.H A o x = _; rw [upd_ne e]; exact h2⟩
theorem putA_to {C : KM} {c : Wd} {A : Addr} {o : HO} (t : c.t A = none) {r : Nat} {p : List Nat} {v : V} {d : D} (h : Rep C c r p v d) : Rep C (putA c A o) r p v d := by
  have := Rep.to (C := C) (a := c) (b := putA c A o) (r := r) (s := r) (p := p) (q := p) (fun _ _ h => h) (fun x z u h e => ⟨h, by
    have ne : x ≠ A := by rintro rfl; rw [t] at h; cases h
    show upd c.H A o x = _
    rw [upd_ne ne]; exact e⟩) d [] v
  exact this h
theorem putA_rel {G : Gm} {c : Wd} {A : Addr} {o : HO} {σ : L2.St} {e : EnvD} (r : RelE G c σ e) (f : c.F A = none) (t : c.t A = none) : RelE G (putA c A o) σ e :=
  ⟨putA_ok r.ok f, r.len, fun i d h => let ⟨v, e, q⟩ := r.slot i d h; ⟨v, e, putA_to t q⟩, r.prm⟩
/- at the end it is the temp's -/
def tagA (c : Wd) (A : Addr) : Wd := ⟨c.F, c.H, fun x => if x = A then some (0, []) else c.t x⟩
theorem tagA_ok {c : Wd} {A : Addr} {o : HO} (k : Ok c) (f : c.F A = none) (h : c.H A = some o) : Ok (tagA c A) := by
  refine ⟨k.sub, fun x t e => ?_⟩
  have e : (if x = A then some (0, []) else c.t x) = some t := e
  by_cases q : x = A
  · subst q; exact ⟨f, o, h⟩
  · rw [if_neg q] at e; exact k.own x t e
theorem tagA_to {C : KM} {c : Wd} {A : Addr} (t : c.t A = none) {r : Nat} {p : List Nat} {v : V} {d : D} (h : Rep C c r p v d) : Rep C (tagA c A) r p v d := by
  have := Rep.to (C := C) (a := c) (b := tagA c A) (r := r) (s := r) (p := p) (q := p) (fun _ _ h => h) (fun x z u h e => ⟨by
    have ne : x ≠ A := by rintro rfl; rw [t] at h; cases h
    show (if x = A then some (0, []) else c.t x) = _
    rw [if_neg ne]; exact h, e⟩) d [] v
  exact this h
theorem repL_to {C : KM} {a b : Wd} {r s : Nat} {p q : List Nat} (h : ∀ d j v, fz d = true → Rep C a r (j :: p) v d → Rep C b s (j :: q) v d) : ∀ {l : List D} {n : Nat} {vs : List V}, fzL l = true → RepL C a r p n vs l → RepL C b s q n vs l
  | [], n, vs, _, e => e
  | d :: l, n, vs, z, ⟨v, us, e, h1, h2⟩ => by
    simp only [fzL, Bool.and_eq_true] at z
    exact ⟨v, us, e, h d n v z.1 h1, repL_to h z.2 h2⟩
theorem GrowL.push {C : KM} {b c : Wd} {A : Addr} {acc : List D} {vs : List V} {v : V} {y : D} {r : Nat} (g : GrowL C b c A acc) (hA : b.H A = none) (h : c.H A = some (.lst vs)) (zy : fz y = true) (rp : Rep C c r [] v y) : GrowL C b (putA c A (.lst (vs ++ [v]))) A (acc ++ [y]) := by
  obtain ⟨us, h1, h2⟩ := g.h
  rw [h] at h1; cases h1
  refine ⟨fun x o e t => ?_, putA_ok g.ok g.f, g.f, g.t, ⟨_, upd_same, ?_⟩, by rw [fzL_append, g.z]; simp [fzL, zy]⟩
  · obtain ⟨g1, g2, g3⟩ := g.st x o e t
    have ne : x ≠ A := by rintro rfl; rw [hA] at e; cases e
    exact ⟨by show upd c.H A _ x = _; rw [upd_ne ne]; exact g1, g2, g3⟩
  · refine RepL.appz (r := 0) (p := []) (s := 0) (q := []) (n := 0) (k := 0) g.z (by simp [fzL, zy]) (repL_to (fun d j v _ h => putA_to g.t h) g.z h2) ?_
    exact ⟨v, [], rfl, Rep.fz (a := c) (b := putA c A (.lst (vs ++ [v]))) (fun _ _ h => h) y _ _ v zy rp, by simp [RepL]⟩
mutual
def Tgt.ins (own : List Nat) : Tgt → Prop
  | .nm i => i ∈ own
  | .tp ts => Tgt.inss own ts
def Tgt.inss (own : List Nat) : List Tgt → Prop
  | [] => True
  | t :: ts => Tgt.ins own t ∧ Tgt.inss own ts
end
theorem wipe_set {σ : L2.St} {i : Nat} {v : Option V} : ∀ {own : List Nat}, i ∈ own → wipe (σ.set i v) own = wipe σ own
  | k :: vs, h => by
    unfold wipe
    by_cases e : k = i
    · subst e
      by_cases hm : k ∈ vs
      · rw [wipe_set hm]
      · have : ∀ {vs : List Nat}, k ∉ vs → wipe (σ.set k v) vs = (wipe σ vs).set k v := fun {vs} => by
          induction vs with
          | nil => intro _; rfl
          | cons u us ih =>
            intro h
            simp only [List.mem_cons, not_or] at h
            unfold wipe
            rw [ih h.2, List.set_comm _ _ h.1]
        rw [this hm, List.set_set]
    · rw [wipe_set (by
        rcases List.mem_cons.mp h with h | h
        · exact absurd h.symm e
        · exact h)]
theorem wipe_wipe (σ : L2.St) (own : List Nat) : wipe (wipe σ own) own = wipe σ own := by
  have : ∀ vs : List Nat, (∀ i ∈ vs, i ∈ own) → wipe (wipe σ vs) own = wipe σ own := fun vs => by
    induction vs with
    | nil => intro _; rfl
    | cons v vs ih =>
      intro h
      show wipe ((wipe σ vs).set v none) own = _
      rw [wipe_set (h v (by simp)), ih fun i hi => h i (by simp [hi])]
  exact this own fun _ h => h
mutual
theorem gT_mono {K : PySem.W.Frag} : ∀ (t : Tgt) {σ : L2.St} {v : V} {H : Hp} {R R' : L2.St → Hp → Prop}, gT K t v σ H R → (∀ σ H, R σ H → R' σ H) → gT K t v σ H R'
  | .nm i, σ, v, H, R, R', q, f => by
    simp only [gT] at q ⊢
    exact f _ _ q
  | .tp ts, σ, v, H, R, R', q, f => by
    simp only [gT] at q ⊢
    obtain ⟨x, vs, h1, h2, h3, h4⟩ := q
    exact ⟨x, vs, h1, h2, h3, gTs_mono ts h4 f⟩
theorem gTs_mono {K : PySem.W.Frag} : ∀ (t : List Tgt) {σ : L2.St} {v : List V} {H : Hp} {R R' : L2.St → Hp → Prop}, gTs K t v σ H R → (∀ σ H, R σ H → R' σ H) → gTs K t v σ H R'
  | [], σ, v, H, R, R', q, f => by
    simp only [gTs] at q ⊢
    exact ⟨q.1, f _ _ q.2⟩
  | t :: ts, σ, v, H, R, R', q, f => by
    simp only [gTs] at q ⊢
    obtain ⟨v, us, h1, h2⟩ := q
    exact ⟨v, us, h1, gT_mono t h2 fun σ H q => gTs_mono ts q f⟩
end
mutual
theorem ins_w {K : PySem.W.Frag} {own : List Nat} : ∀ (t : Tgt), Tgt.ins own t → ∀ (σ : L2.St) (v : V) (H : Hp) (R : L2.St → Hp → Prop), gT K t v σ H R → gT K t v σ H fun σ2 H2 => wipe σ2 own = wipe σ own ∧ R σ2 H2
  | .nm i, h, σ, v, H, R, q => by
    simp only [Tgt.ins] at h
    simp only [gT] at q ⊢
    exact ⟨wipe_set h, q⟩
  | .tp ts, h, σ, v, H, R, q => by
    simp only [Tgt.ins] at h
    simp only [gT] at q ⊢
    obtain ⟨x, vs, h1, h2, h3, h4⟩ := q
    exact ⟨x, vs, h1, h2, h3, inss_w ts h σ vs H R h4⟩
theorem inss_w {K : PySem.W.Frag} {own : List Nat} : ∀ (ts : List Tgt), Tgt.inss own ts → ∀ (σ : L2.St) (vs : List V) (H : Hp) (R : L2.St → Hp → Prop), gTs K ts vs σ H R → gTs K ts vs σ H fun σ2 H2 => wipe σ2 own = wipe σ own ∧ R σ2 H2
  | [], h, σ, vs, H, R, q => by
    simp only [gTs] at q ⊢
    exact ⟨q.1, rfl, q.2⟩
  | t :: ts, h, σ, vs, H, R, q => by
    simp only [Tgt.inss] at h
    simp only [gTs] at q ⊢
    obtain ⟨v, us, h1, h2⟩ := q
    refine ⟨v, us, h1, ?_⟩
    have := ins_w t h.1 σ v H _ h2
    have mono : ∀ (t : Tgt) {σ : L2.St} {v : V} {H : Hp} {R R' : L2.St → Hp → Prop}, gT K t v σ H R → (∀ σ H, R σ H → R' σ H) → gT K t v σ H R' := fun t σ v H R R' => gT_mono t
    refine mono t this fun σ1 H1 ⟨w, q⟩ => ?_
    have := inss_w ts h.2 σ1 us H1 R q
    rw [w] at this
    exact this
end
section
variable {G : Gm} {W : WX} {σ : L2.St} {H : Hp} {Q : VK}
theorem lc_w {mi : EM (List D)} {t : Tgt} {cond : EM Bool} {elt : EM D} {own : List Nat} (hf : Tgt.off G.io t) (ho : ∀ i ∈ G.io, i ∉ own) (hown : Tgt.ins own t)
    (h : tE G W (mLc mi t cond elt own) σ H Q) : tLc (tI G W mi) (gT G.C.K t) (tT G W0 cond) (tE G W0 elt) own σ H Q := by
  obtain ⟨a, env, rfl, rel, post⟩ := h
  refine ⟨a, env, rfl, rel, post.bind.imp fun ds e b st r p => ?_⟩
  dsimp only at p
  split at p
  · rename_i z
    refine ⟨z.1, fun J hJ A hA => ?_⟩
    have fA : b.F A = none := by
      cases q : b.F A with
      | none => rfl
      | some u => have := r.ok.sub A u q; rw [hA] at this; cases this
    have tA : b.t A = none := by
      cases q : b.t A with
      | none => rfl
      | some u => obtain ⟨_, u, h⟩ := r.ok.own A u q; rw [hA] at h; cases h
    -- the rest's post, told of a state of the loop
    let K : List D × EnvD → Res (D × EnvD) := fun (l, e') => .ok (.lst true l, restE e e' own)
    refine ⟨fun i m H => m = ds.length - i ∧ i ≤ ds.length ∧ ∃ c acc e1, c.H = H ∧ GrowL G.C b c A acc ∧ acc.length ≤ i ∧ e1.length = e.length ∧ RelE G c (wipe σ own) (wipeE e1 own) ∧
      PostR G W σ b ((loopL t cond elt own (ds.drop i) acc e1).bind K) fun d _ b => ∀ v, Rep G.C b 0 [] v d → Q v b.H, ⟨_, rfl, Nat.zero_le _, putA b A (.lst []), [], e, rfl, ?_, Nat.zero_le _, rfl, ?_, p⟩, ?_⟩
    · refine ⟨fun x o h t => ?_, putA_ok r.ok fA, fA, tA, ⟨[], upd_same, by simp [RepL]⟩, rfl⟩
      have ne : x ≠ A := by rintro rfl; rw [hA] at h; cases h
      exact ⟨by show upd b.H A _ x = _; rw [upd_ne ne]; exact h, t, rfl⟩
    · exact putA_rel (r.wiped ho) fA tA
    · rintro i m H ⟨rfl, hi, c, acc, e1, rfl, gl, hacc, hel, rc, pc⟩
      obtain ⟨hgo, hstop⟩ := hJ c gl.ok gl.st
      by_cases hlt : i < ds.length
      · obtain ⟨d, hd⟩ : ∃ d, ds[i]? = some d := ⟨_, List.getElem?_eq_getElem hlt⟩
        obtain ⟨h1, h2⟩ := hgo i d hd
        have hdrop : ds.drop i = d :: ds.drop (i + 1) := by
          rw [List.drop_eq_getElem_cons hlt]
          rw [List.getElem?_eq_getElem hlt] at hd
          cases hd; rfl
        rw [hdrop] at pc
        simp only [loopL] at pc
        refine .inr ⟨h1, fun H' => ∃ c acc e1, c.H = H' ∧ GrowL G.C b c A acc ∧ acc.length ≤ i + 1 ∧ e1.length = e.length ∧ RelE G c (wipe σ own) (wipeE e1 own) ∧
          PostR G W σ b ((loopL t cond elt own (ds.drop (i + 1)) acc e1).bind K) fun d _ b => ∀ v, Rep G.C b 0 [] v d → Q v b.H, fun H' q => ⟨ds.length - (i + 1), by omega, rfl, hlt, q⟩, fun x H' y => ?_⟩
        obtain ⟨c1, rfl, gr, ok1, rp⟩ := h2 x H' y
        cases ht : mTg t d (wipeE e1 own) with
        | none => rw [ht] at pc; exact (show False from pc).elim
        | some e2 =>
          rw [ht] at pc
          dsimp only at pc
          have gl1 := gl.next gr.step ok1
          refine gT_mono t (ins_w t hown _ x c1.H (fun σ2 H2 => H2 = c1.H ∧ RelE G c1 σ2 e2) (tg_w t hf (rc.grow gr ok1) (fzL_mem z.1 d (List.mem_of_getElem? hd)) rp ht fun σ2 r2 => ⟨rfl, r2⟩)) fun σ2 H2 ⟨hw, hH, r2⟩ => ?_
          subst hH
          rw [wipe_wipe] at hw
          refine ⟨hw, c1, e2, rfl, r2, ?_⟩
          have hlen : ∀ {c : Wd} {e' : EnvD}, RelE G c σ2 e' → e'.length = e.length := fun {c e'} r' => by
            have := congrArg List.length hw
            rw [wipe_length, wipe_length] at this
            rw [r'.len, this, r.len]
          cases hc : cond e2 with
          | bad => rw [hc] at pc; exact (show False from pc).elim
          | exc x e3 => rw [hc] at pc; exact (show False from pc).elim
          | ok be =>
            obtain ⟨bb, e3⟩ := be
            rw [hc] at pc
            intro c2 st2 r3
            cases bb with
            | false =>
              rw [if_neg Bool.false_ne_true]
              exact ⟨c2, acc, e3, rfl, gl1.next st2 r3.ok, Nat.le_succ_of_le hacc, hlen r3, r3.rewiped hw ho, pc⟩
            | true =>
              rw [if_pos rfl]
              refine ⟨c2, e3, rfl, r3, ?_⟩
              dsimp only at pc
              cases he : elt e3 with
              | bad => rw [he] at pc; exact (show False from pc).elim
              | exc x e4 => rw [he] at pc; exact (show False from pc).elim
              | ok ye =>
                obtain ⟨y, e4⟩ := ye
                rw [he] at pc
                intro c3 st3 r4 v rv
                have gl3 := (gl1.next st2 r3.ok).next st3 r4.ok
                obtain ⟨vs, k1, k2⟩ := gl3.h
                obtain ⟨zy, rq⟩ := frzQ_rep (s := 0) (q := []) r4.ok rv
                have gl4 := (gl3.next (frzW_step (r := 0)) (frzW_ok r4.ok)).push (vs := vs) hA k1 zy rq
                refine ⟨vs, k1, ?_, putA (frzW c3 0) A (.lst (vs ++ [v])), acc ++ [frzQ y], e4, rfl, gl4, ?_, hlen r4, ?_, pc⟩
                · rw [k2.len]; exact small1000 (by omega)
                · rw [List.length_append]; simp only [List.length_cons, List.length_nil]; omega
                · exact putA_rel ((r4.rewiped hw ho).frz0) (gl3.next (frzW_step (r := 0)) (frzW_ok r4.ok)).f (gl3.next (frzW_step (r := 0)) (frzW_ok r4.ok)).t
      · have e2 : i = ds.length := by omega
        subst e2
        rw [List.drop_length] at pc
        refine .inl ⟨hstop, ?_⟩
        obtain ⟨vs, k1, k2⟩ := gl.h
        have pc : ∀ b', Step b b' → RelE G b' σ (restE e e1 own) → ∀ v, Rep G.C b' 0 [] v (.lst true acc) → Q v b'.H := pc
        have rel' := r.unwiped rc gl.st hel
        refine pc (tagA c A) (fun x o h t => ?_) ?_ (.ref A) ?_
        · obtain ⟨g1, g2, g3⟩ := gl.st x o h t
          have ne : x ≠ A := by rintro rfl; rw [hA] at h; cases h
          exact ⟨g1, by show (if x = A then some (0, []) else c.t x) = none; rw [if_neg ne]; exact g2, g3⟩
        · exact ⟨tagA_ok gl.ok gl.f k1, rel'.len, fun i d h => let ⟨v, e, q⟩ := rel'.slot i d h; ⟨v, e, tagA_to gl.t q⟩, rel'.prm⟩
        · simp only [Rep]
          refine ⟨A, vs, rfl, ?_, ?_⟩
          · rw [if_pos trivial]
            exact ⟨by show (if A = A then some (0, []) else c.t A) = _; rw [if_pos rfl], k1⟩
          · exact repL_to (fun d j v _ h => tagA_to gl.t h) gl.z k2
  · exact (show False from p).elim
end
end Mi
namespace Mi
open PySem PySem.Spec PyProof.Rows L2

/-! ### the context -/
structure St0 (X : Cx) (G : Gm) : Prop where
  p : X.prog = G.C.P
  w : X.w = G.C.w
  k : X.K = G.C.K
  m : X.mg = G.C.mg
  n : X.N.Nodup
  u : X.A.units + 64 < cLine
structure Go (X : Cx) (G : Gm) (W : WX) (lv : Nat) : Prop extends St0 X G where
  tk : Takes X W
  pw : PassesOwn (model X.prog X.w) X.A X.env X.xe
  rm : Room lv X.A
  cm : X.calm = true
theorem Go.blk {X : Cx} {G : Gm} {W : WX} {lv : Nat} (g : Go X G W lv) (s : Shared) (H : Hp) (scope : Scope) (e : Env) (fp : List Addr) : Go (X.blk s H scope e fp) G W0 lv :=
  { p := g.p, w := g.w, k := g.k, m := g.m, n := g.n, u := g.u, tk := takes0, pw := PassesOwn.never, rm := g.rm, cm := g.cm }
theorem Go.tr {X : Cx} {G : Gm} {W W' : WX} {lv : Nat} {pn : List (Addr × Obj)} {xe : Value → Shared → Prop} (g : Go X G W lv) (tk : Takes (X.tr pn xe) W') (pw : PassesOwn (model X.prog X.w) X.A X.env xe) : Go (X.tr pn xe) G W' lv :=
  { p := g.p, w := g.w, k := g.k, m := g.m, n := g.n, u := g.u, tk := tk, pw := pw, rm := g.rm, cm := g.cm }
theorem Go.suite {X : Cx} {G : Gm} {W : WX} {lv : Nat} (g : Go X G W lv) (a : Addr) (pn : List (Addr × Obj)) : St0 (X.suite a pn) G :=
  { p := g.p, w := g.w, k := g.k, m := g.m, n := g.n, u := g.u }

/-! ### isinstance of a built-in -/
inductive TyK where
  | tInt | tBool | tStr | tTup | tLst | tDic
def TyK.nm : TyK → String
  | .tInt => "int" | .tBool => "bool" | .tStr => "str" | .tTup => "tuple" | .tLst => "list" | .tDic => "dict"
def tyD : D → Option String
  | .non => some "NoneType" | .bl _ => some "bool" | .int _ => some "int" | .str _ => some "str" | .tup _ => some "tuple"
  | .lst _ _ => some "list" | .scr _ => some "list" | .dic _ _ _ => some "dict" | _ => none
def isK : TyK → D → Option Bool
  | _, .ty _ => none
  | _, .fn _ => none
  | _, .ins _ _ _ _ => none
  | .tInt, .int _ => some true
  | .tInt, .bl _ => some true
  | .tBool, .bl _ => some true
  | .tStr, .str _ => some true
  | .tTup, .tup _ => some true
  | .tLst, .lst _ _ => some true
  | .tLst, .scr _ => some true
  | .tDic, .dic _ _ _ => some true
  | _, _ => some false
theorem isK_kit {k : TyK} {d : D} {b : Bool} (h : isK k d = some b) : ∃ t, tyD d = some t ∧ kitB t k.nm = some b := by
  cases k <;> cases d <;> simp only [isK] at h <;> first | (cases h; done) | (cases h; exact ⟨_, rfl, by decide +kernel⟩)
theorem rep_ty {C : KM} {a : Wd} {r : Nat} {p : List Nat} {v : V} {d : D} {t : String} (k : Ok a) (h : tyD d = some t) (q : Rep C a r p v d) : TyX C.K a.H v (.type t) := by
  cases d <;> simp only [tyD] at h <;> (try (cases h; done)) <;> cases h
  case non => cases rep_non q; exact .base .non
  case bl b => cases rep_bl q; exact .base (.bl b)
  case int b => cases rep_int q; exact .base (.int b)
  case str b => cases rep_str q; exact .base (.str b)
  case tup l =>
    obtain ⟨x, vs, rfl, h1, h2⟩ := rep_tup k q
    rcases h1 with h1 | h1
    · rcases h1 with h1 | ⟨o, h1⟩
      · exact .base (.tup h1)
      · exact .fTuple h1
    · obtain ⟨o, _, _, h1, h2, _⟩ := h1
      exact .kTuple h1 h2
  case lst o l =>
    obtain ⟨x, vs, rfl, h1, h2⟩ := rep_lst k q
    exact .base (.lst h1)
  case scr l =>
    obtain ⟨x, rfl, h1⟩ := rep_scr k q
    rcases h1 with h1 | h1
    · rcases h1 with h1 | ⟨o, h1⟩
      · exact .base (.lst h1)
      · exact .base (.frz h1)
    · obtain ⟨o, _, _, h1, h2, _⟩ := h1
      exact .kList h1 h2
  case dic o ks ws =>
    obtain ⟨x, h, kv, vs, rfl, h1, h2, h3⟩ := rep_dic k q
    cases h2
    exact .base (.dK h1)
def mIsi (k : TyK) (ma : EM Arg) : EM D := fun env => (ma env).bind fun (x, e) => match x.get e with
  | some d => mLift ((isK k d).map .bl) e
  | none => .bad
/-! ### further readings -/
def mChain (g g' : D → D → Option D) (ma mb mc : EM Arg) : EM D := fun env => (ma env).bind fun (x, e1) => (mb e1).bind fun (y, e2) =>
  match x.get e2, y.get e2 with
  | some d1, some d2 => match (g d1 d2).bind D.bool with
    | some true => (mc e2).bind fun (z, e3) => match y.get e3, z.get e3 with
      | some d2', some d3 => mLift (g' d2' d3) e3
      | _, _ => .bad
    | some false => .ok (.bl false, e2)
    | none => .bad
  | _, _ => .bad
def mNoP : EM (Option Int) := fun env => .ok (none, env)
def mPart (m : EM D) : EM (Option Int) := fun env => (m env).bind fun (d, e) => match d with
  | .int i => .ok (some i, e)
  | _ => .bad
def mSl (ma : EM Arg) (ml mh : EM (Option Int)) : EM D := fun env => (ma env).bind fun (x, e1) => (ml e1).bind fun (lo, e2) => (mh e2).bind fun (hi, e3) =>
  match x.get e3 with
  | some d => mLift (slD d lo hi) e3
  | none => .bad
def tO (G : Gm) (W : WX) (m : EM (Option Int)) : TO := fun σ H Q => ∃ a env, a.H = H ∧ RelE G a σ env ∧ PostR G W σ a (m env) fun x _ b => Q x b.H
/- xs[k] = v, xs in slot j -/
def setQ (d i y : D) : Option D := match d, i with
  | .lst true l, .int k => (ixN l.length k).map fun n => .lst true (l.set n y)
  | _, _ => none
def mSet (j : Nat) (mi mv : EM D) : EM FlowD := fun env => (mv env).bind fun (y, e1) =>
  match e1[j]? with
  | some (some _) => (mFrz mi e1).bind fun (x, e2) => match e2[j]?, x.get e2 with
    | some (some d), some i => match setQ d i (frzQ y) with
      | some d' => .ok (.next, e2.set j (some d'))
      | none => .bad
    | _, _ => .bad
  | _ => .bad
theorem repL_map {C : KM} {a b : Wd} {r s : Nat} {p q : List Nat} (h : ∀ d j v, Rep C a r (j :: p) v d → Rep C b s (j :: q) v d) : ∀ {l : List D} {n : Nat} {vs : List V}, RepL C a r p n vs l → RepL C b s q n vs l
  | [], n, vs, e => e
  | d :: l, n, vs, ⟨v, us, e, h1, h2⟩ => ⟨v, us, e, h d n v h1, repL_map h h2⟩
theorem repL_set {C : KM} {a : Wd} {r : Nat} {p : List Nat} {y : D} {v : V} (hy : ∀ k, Rep C a r (k :: p) v y) : ∀ {l : List D} {m n : Nat} {vs : List V}, RepL C a r p m vs l → RepL C a r p m (vs.set n v) (l.set n y)
  | [], m, n, vs, e => by simp only [RepL] at e; subst e; simp [RepL]
  | d :: l, m, 0, vs, ⟨u, us, e, h1, h2⟩ => by subst e; exact ⟨v, us, rfl, hy m, h2⟩
  | d :: l, m, n + 1, vs, ⟨u, us, e, h1, h2⟩ => by subst e; exact ⟨u, us.set n v, rfl, h1, repL_set hy h2⟩
section
variable {G : Gm} {W : WX} {σ : L2.St} {H : Hp} {Q : VK} {ma mb mc : EM Arg}
theorem isi_w {k : TyK} (h : tE G W (mIsi k ma) σ H Q) : tCB (rIsi G.C.K) (tCons (tArg G W ma) (tCons (tC (.ty k.nm)) tNil)) σ H Q := by
  obtain ⟨a, env, rfl, rel, post⟩ := h
  refine tArg_of rel post fun x e b v st r ar p => ?_
  dsimp only at p
  cases hx : x.get e with
  | none => rw [hx] at p; exact (show False from p).elim
  | some d =>
    rw [hx] at p
    dsimp only at p
    obtain ⟨d', hd, k'⟩ := p.lift r
    obtain ⟨r1, p1⟩ := ar.rep r hx
    cases hk : isK k d with
    | none => rw [hk] at hd; cases hd
    | some bb =>
      rw [hk] at hd; cases hd
      obtain ⟨t, h1, h2⟩ := isK_kit hk
      exact ⟨v, .ty k.nm, .type t, .type k.nm, bb, rfl, .ty _, rep_ty r.ok h1 p1, kit_ty h2, k' b (Grow.refl b) r.ok _ rep_ofbl⟩
theorem chain_w {g g' : D → D → Option D} (h : tE G W (mChain g g' ma mb mc) σ H Q) : tChain (rD G.C g) (rD G.C g') (tArg G W ma) (tArg G W mb) (tArg G W mc) σ H Q := by
  obtain ⟨a, env, rfl, rel, post⟩ := h
  refine tArg_of rel post fun x e1 b v s1 rel1 ar1 post1 => ?_
  refine tArg_of rel1 post1 fun y e2 c u s2 rel2 ar2 post2 => ?_
  have ar1 := ar1.step rel1.ok s2
  dsimp only at post2
  cases hx : x.get e2 with
  | none => simp only [hx] at post2; exact (show False from post2).elim
  | some d1 =>
    cases hy : y.get e2 with
    | none => simp only [hx, hy] at post2; exact (show False from post2).elim
    | some d2 =>
      simp only [hx, hy] at post2
      cases hg : g d1 d2 with
      | none => simp only [hg] at post2; exact (show False from post2).elim
      | some dd =>
        cases hb : dd.bool with
        | none => simp only [hg, Option.bind_some, hb] at post2; exact (show False from post2).elim
        | some bb =>
          simp only [hg, Option.bind_some, hb] at post2
          cases D.bool_eq hb
          obtain ⟨r1, p1⟩ := ar1.rep rel2 hx
          obtain ⟨r2, p2⟩ := ar2.rep rel2 hy
          refine ⟨c, d1, d2, r1, r2, _, rfl, rel2.ok, p1, p2, hg, fun z b' gr ok rp => ?_⟩
          cases rep_bl rp
          have rel3 := rel2.grow gr ok
          refine ⟨bb, rfl, ?_⟩
          cases bb with
          | false =>
            rw [if_neg Bool.false_ne_true]
            exact post2 b' gr.step rel3 _ rep_ofbl
          | true =>
            rw [if_pos rfl]
            refine tArg_of rel3 (PostR.step gr.step post2) fun z e3 c3 u3 s3 rel4 ar3 post3 => ?_
            dsimp only at post3
            have ar2 := (ar2.step rel2.ok gr.step).step ok s3
            cases hy : y.get e3 with
            | none => simp only [hy] at post3; exact (show False from post3).elim
            | some d2' =>
              cases hz : z.get e3 with
              | none => simp only [hy, hz] at post3; exact (show False from post3).elim
              | some d3 =>
                simp only [hy, hz] at post3
                obtain ⟨d, hd, k⟩ := post3.lift rel4
                obtain ⟨r3, p3⟩ := ar2.rep rel4 hy
                obtain ⟨r4, p4⟩ := ar3.rep rel4 hz
                exact ⟨c3, d2', d3, r3, r4, d, rfl, rel4.ok, p3, p4, hd, fun z b' gr ok rp => k b' gr ok z rp⟩
theorem noP_w {R : Option Int → Hp → Prop} (h : tO G W mNoP σ H R) : tNoPart σ H R := by
  obtain ⟨a, env, rfl, rel, post⟩ := h
  exact post a (Step.refl a) rel
theorem part_w {m : EM D} {R : Option Int → Hp → Prop} (h : tO G W (mPart m) σ H R) : tPart (tE G W m) σ H R := by
  obtain ⟨a, env, rfl, rel, post⟩ := h
  refine tE_of rel post fun x e b v st r rp p => ?_
  dsimp only at p
  cases x <;> dsimp only at p <;> first | exact (show False from p).elim | skip
  cases rep_int rp
  exact ⟨_, rfl, p b (Step.refl b) r⟩
theorem sl_w {ml mh : EM (Option Int)} (h : tE G W (mSl ma ml mh) σ H Q) : tSl (rSD G.C) (tArg G W ma) (tO G W ml) (tO G W mh) σ H Q := by
  obtain ⟨a, env, rfl, rel, post⟩ := h
  refine tArg_of rel post fun x e1 b v s1 rel1 ar1 post1 => ?_
  refine ⟨b, e1, rfl, rel1, post1.bind.imp fun lo e2 c s2 rel2 post2 => ?_⟩
  refine ⟨c, e2, rfl, rel2, post2.bind.imp fun hi e3 c3 s3 rel3 post3 => ?_⟩
  dsimp only at post3
  have ar1 := (ar1.step rel1.ok s2).step rel2.ok s3
  cases hx : x.get e3 with
  | none => rw [hx] at post3; exact (show False from post3).elim
  | some d1 =>
    rw [hx] at post3
    dsimp only at post3
    obtain ⟨d, hd, k⟩ := post3.lift rel3
    obtain ⟨r1, p1⟩ := ar1.rep rel3 hx
    exact ⟨c3, d1, r1, d, rfl, rel3.ok, p1, hd, fun z b' gr ok rp => k b' gr ok z rp⟩
/- the slot's own list changed at a place -/
theorem RelE.put {a : Wd} {env : EnvD} {j : Nat} {l : List D} {y : D} {v : V} {n s : Nat} {q : List Nat} (r : RelE G a σ env) (h : env[j]? = some (some (.lst true l))) (z : fz y = true) (hy : Rep G.C a s q v y) :
    ∃ x vs, σ[j]? = some (some (.ref x)) ∧ a.H x = some (.lst vs) ∧ vs.length = l.length ∧ Step a ⟨a.F, upd a.H x (.lst (vs.set n v)), a.t⟩ ∧ RelE G ⟨a.F, upd a.H x (.lst (vs.set n v)), a.t⟩ σ (env.set j (some (.lst true (l.set n y)))) := by
  obtain ⟨w, h1, h2⟩ := r.slot j _ h
  simp only [Rep] at h2
  obtain ⟨x, vs, rfl, hx, hl⟩ := h2
  rw [if_pos trivial] at hx
  obtain ⟨tx, hx⟩ := hx
  have ne : ∀ {y : Addr} {t : Option Tag}, a.t y = t → t ≠ some (j + 1, []) → y ≠ x := fun e ht => by rintro rfl; rw [tx] at e; exact ht e.symm
  have fx : a.F x = none := (r.ok.own x _ tx).1
  have up : ∀ {y : Addr}, y ≠ x → upd a.H x (.lst (vs.set n v)) y = a.H y := fun e => upd_ne e
  have ok' : Ok ⟨a.F, upd a.H x (.lst (vs.set n v)), a.t⟩ := by
    refine ⟨fun y o e => ?_, fun y t e => ?_⟩
    · have : y ≠ x := by rintro rfl; have e : a.F y = some o := e; rw [fx] at e; cases e
      show upd a.H x _ y = _
      rw [up this]; exact r.ok.sub y o e
    · obtain ⟨g1, o, g2⟩ := r.ok.own y t e
      by_cases q : y = x
      · subst q; exact ⟨g1, _, upd_same⟩
      · exact ⟨g1, o, by show upd a.H x _ y = _; rw [up q]; exact g2⟩
  have mv : ∀ {d : D} {r p} {v1 : V}, (∀ z, (r, z ++ p) ≠ (j + 1, ([] : List Nat))) → Rep G.C a r p v1 d → Rep G.C ⟨a.F, upd a.H x (.lst (vs.set n v)), a.t⟩ r p v1 d := fun {d r p v1} hne h => by
    have := Rep.to (C := G.C) (a := a) (b := ⟨a.F, upd a.H x (.lst (vs.set n v)), a.t⟩) (r := r) (s := r) (p := p) (q := p) (fun _ _ h => h) (fun y z o h e => ⟨h, by
      show upd a.H x _ y = _
      rw [up (ne h (by intro q; exact hne z (Option.some.inj q)))]; exact e⟩) d [] v1
    exact this h
  refine ⟨x, vs, h1, hx, hl.len, fun y o e t => ⟨by show upd a.H x _ y = _; rw [up (ne t (by simp))]; exact e, t, rfl⟩, ⟨ok', by rw [List.length_set]; exact r.len, fun i d e => ?_, r.prm⟩⟩
  by_cases ij : j = i
  · subst ij
    have hj : j < env.length := (List.getElem?_eq_some_iff.mp h).1
    rw [List.getElem?_set_self hj] at e
    cases e
    refine ⟨.ref x, h1, ?_⟩
    simp only [Rep]
    refine ⟨x, vs.set n v, rfl, ?_, ?_⟩
    · rw [if_pos trivial]; exact ⟨tx, upd_same⟩
    · exact repL_set (fun k => Rep.fz (a := a) (b := ⟨a.F, upd a.H x (.lst (vs.set n v)), a.t⟩) (fun _ _ h => h) y _ _ v z hy) (repL_map (fun d k v1 h => mv (by simp) h) hl)
  · rw [List.getElem?_set_ne ij] at e
    obtain ⟨w, e1, e2⟩ := r.slot i d e
    exact ⟨w, e1, mv (by intro z q; exact ij (Nat.succ.inj (congrArg Prod.fst q)).symm) e2⟩
theorem set_w {j : Nat} {mi mv : EM D} {D : Ends} (h : tS G W (mSet j mi mv) D σ H) : tAsg (tE G W mv) (gSub (tVar j) (tE G W mi) rSetL) D σ H := by
  obtain ⟨a, env, rfl, rel, post⟩ := h
  refine tE_ofS rel post fun y e1 b v st r1 rv p1 => ?_
  dsimp only at p1
  split at p1
  · rename_i dj hj0
    obtain ⟨zy, ry⟩ := frzQ_rep (s := 0) (q := []) r1.ok rv
    have r1' := r1.frz0
    obtain ⟨w, hw, _⟩ := r1.slot j _ hj0
    refine ⟨w, hw, ?_⟩
    show tE G W mi σ (frzW b 0).H _
    refine (frz_w (m := mi) (Q := fun i H2 => rSetL w i v H2 fun H3 => D.nx σ H3) ?_)
    refine tArg_ofS r1' (PostS.step frzW_step p1) fun x e2 c u s2 r2 ar p2 => ?_
    dsimp only at p2
    split at p2
    · rename_i d i hj hi
      cases hs : setQ d i (frzQ y) with
      | none => rw [hs] at p2; exact (show False from p2).elim
      | some d' =>
        rw [hs] at p2
        dsimp only at p2
        obtain ⟨ri, pi⟩ := ar.rep r2 hi
        unfold setQ at hs
        split at hs
        · rename_i l k
          cases rep_int pi
          cases hk : ixN l.length k with
          | none => rw [hk] at hs; cases hs
          | some n =>
            rw [hk] at hs; cases hs
            obtain ⟨xx, vs, g1, g2, g3, g4, g5⟩ := r2.put (n := n) (s := 0) (q := []) hj zy (ry.step r1'.ok s2 zy)
            rw [hw] at g1; cases g1
            refine ⟨xx, vs, k, n, rfl, rfl, g2, by rw [g3]; exact hk, p2 _ σ g4 g5⟩
        · cases hs
    · exact (show False from p2).elim
  · exact (show False from p1).elim
end
end Mi
namespace L2
open PySem PySem.Spec PyProof.Rows
theorem PE.weak {X : Cx} {e : Expr} {t u : TE} (h : PE X e t) (w : ∀ σ H Q, u σ H Q → t σ H Q) : PE X e u := Mi.PE.weak h w
theorem PT.weak {X : Cx} {e : Expr} {t u : TT} (h : PT X e t) (w : ∀ σ H Q, u σ H Q → t σ H Q) : PT X e u := Mi.PT.weak h w
theorem PW.weak {X : Cx} {e : Expr} {t u : TT} (h : PW X e t) (w : ∀ σ H Q, u σ H Q → t σ H Q) : PW X e u := Mi.PW.weak h w
theorem PA.weak {X : Cx} {e : List Expr} {t u : TA} (h : PA X e t) (w : ∀ σ H Q, u σ H Q → t σ H Q) : PA X e u := Mi.PA.weak h w
theorem PS.weak {X : Cx} {e : Stmt} {t u : TS} (h : PS X e t) (w : ∀ D σ H, u D σ H → t D σ H) : PS X e u := Mi.PS.weak h w
theorem PSs.weak {X : Cx} {e : List Stmt} {t u : TS} (h : PSs X e t) (w : ∀ D σ H, u D σ H → t D σ H) : PSs X e u := Mi.PSs.weak h w
theorem PI.weak {X : Cx} {tg e : Expr} {t u : TI} (h : PI X tg e t) (w : ∀ σ H R, u σ H R → t σ H R) : PI X tg e u := Mi.PI.weak h w
end L2
namespace Mi
open PySem PySem.Spec PyProof.Rows L2

/-! ### rules: expressions -/
section
variable {X : Cx} {G : Gm} {W : WX} {lv : Nat} {a b c e : Expr} {es : List Expr} {ma mb mc : EM Arg} {m n : EM D} {ms : List (EM Arg)} {mas : EM (List Arg)} {pos p : Pos} {x : Str}
theorem r_int {i : Int} {j} : PE X (.Constant (.int i) j pos) (tE G W (mC (.int i))) := pe_int.weak fun _ _ _ q => c_w (fun _ _ => by simp [Rep]) q
theorem r_str {i : Str} {j} : PE X (.Constant (.str i) j pos) (tE G W (mC (.str i))) := pe_str.weak fun _ _ _ q => c_w (fun _ _ => by simp [Rep]) q
theorem r_bl {i : Bool} {j} : PE X (.Constant (.bool i) j pos) (tE G W (mC (.bl i))) := pe_bl.weak fun _ _ _ q => c_w (fun _ _ => by simp [Rep]) q
theorem r_non {j} : PE X (.Constant .none j pos) (tE G W (mC .non)) := pe_non.weak fun _ _ _ q => c_w (fun _ _ => by simp [Rep]) q
theorem r_frz (h : PE X e (tE G W m)) : PE X e (tArg G W (mFrz m)) := h.weak fun _ _ _ q => frz_w q
theorem r_varA (i : Nat) (hN : X.N[i]? = some x) (hv : Vis X.env.scope x) (hd : (x == ("__debug__" : Str)) = false := by decide) (hcd : (x == ("__classdict__" : Str)) = false := by decide) : PE X (.Name x pos) (tArg G W (mVarA i)) :=
  (pe_var hN hv hd hcd).weak fun _ _ _ q => varA_w q
theorem r_varE (i : Nat) (hN : X.N[i]? = some x) (hv : Vis X.env.scope x) (hd : (x == ("__debug__" : Str)) = false := by decide) (hcd : (x == ("__classdict__" : Str)) = false := by decide) : PE X (.Name x pos) (tE G W (mVarE i)) :=
  (pe_var hN hv hd hcd).weak fun _ _ _ q => varE_w q
theorem r_varM (np i : Nat) (hN : X.N[i]? = some x) (hv : Vis X.env.scope x) (hd : (x == ("__debug__" : Str)) = false := by decide) (hcd : (x == ("__classdict__" : Str)) = false := by decide) : PE X (.Name x pos) (tE G W (mVarM np i)) :=
  (pe_var hN hv hd hcd).weak fun _ _ _ q => varM_w q
/- a module's constant -/
theorem r_gInt (s : St0 X G) {i : Int} (hm : ∃ t, G.C.mg x = some (.int i t)) (hg : Gl X x) (hd : (x == ("__debug__" : Str)) = false := by decide) : PE X (.Name x pos) (tE G W (mC (.int i))) := by
  obtain ⟨t, hm⟩ := hm
  exact (pe_glob (v := .int i) hg (by rw [s.m]; exact hm) ⟨_, rfl⟩ hd).weak fun _ _ _ q => c_w (fun _ _ => by simp [Rep]) q
theorem r_gStr (s : St0 X G) {i : Str} (hm : ∃ t, G.C.mg x = some (.str i t)) (hg : Gl X x) (hd : (x == ("__debug__" : Str)) = false := by decide) : PE X (.Name x pos) (tE G W (mC (.str i))) := by
  obtain ⟨t, hm⟩ := hm
  exact (pe_glob (v := .str i) hg (by rw [s.m]; exact hm) ⟨_, rfl⟩ hd).weak fun _ _ _ q => c_w (fun _ _ => by simp [Rep]) q
theorem r_tup {k} (h : PA X es (tArgs G W mas)) : PE X (.Tuple es k pos) (tE G W (mTup mas)) := (pe_tup h).weak fun _ _ _ q => tup_w q
theorem r_lst (h : PA X es (tArgs G W mas)) : PE X (.List es pos) (tE G W (mLst mas)) := (pe_lst h).weak fun _ _ _ q => lst_w q
theorem r_dic0 : PE X (.Dict [] [] pos) (tE G W mDic0) := pe_dnewK.weak fun _ _ _ q => dic0_w q
theorem r_nil : PA X [] (tArgs G W (mArgs [])) := pa_nil.weak fun _ _ _ q => args_nil_w q
theorem r_cons (ha : PE X e (tArg G W ma)) (hr : PA X es (tArgs G W (mArgs ms))) (hs : starEach (e :: es) X.env = (false, eval e X.env) :: starEach es X.env := by rfl) : PA X (e :: es) (tArgs G W (mArgs (ma :: ms))) :=
  (pa_cons ha hr hs).weak fun _ _ _ q => args_cons_w q
theorem r_bin (s : St0 X G) {op : Operator} {g : D → D → Option D} (h : binD op = some g) (ha : PE X a (tArg G W ma)) (hb : PE X b (tArg G W mb)) : PE X (.BinOp a op b pos) (tE G W (mBin g ma mb)) :=
  (pe_op (op_binD s.k.symm h) ha hb).weak fun _ _ _ q => bin_w q
theorem r_neg (ha : PE X a (tArg G W ma)) : PE X (.UnaryOp .USub a pos) (tE G W (mUn negD ma)) := (pe_un un_negD ha).weak fun _ _ _ q => un_w q
def cmpD : CmpOp → Option (D → D → Option D)
  | .Eq => some eqD | .NotEq => some neD | .Lt => some ltD | .LtE => some leD | .Gt => some gtD | .GtE => some geD
  | .In => some inD | .NotIn => some ninD | .Is => some isD | .IsNot => some nisD
theorem op_cmpD (s : St0 X G) {op : CmpOp} {g : D → D → Option D} (h : cmpD op = some g) : OpR X (compareOp op) (rD G.C g) := by
  have u1 : X.A.units + 1 < cLine := by have := s.u; omega
  cases op <;> cases h
  · exact op_eqDD s.k.symm s.u
  · exact op_neDD s.k.symm s.u
  · exact op_ltD
  · exact op_leD
  · exact op_gtD
  · exact op_geD
  · exact op_isD s.k.symm
  · exact op_nisD s.k.symm
  · exact op_inD s.k.symm u1
  · exact op_ninD s.k.symm u1
theorem r_cmp (s : St0 X G) {op : CmpOp} {g : D → D → Option D} (h : cmpD op = some g) (ha : PE X a (tArg G W ma)) (hb : PE X b (tArg G W mb)) (hm : behindInMarks op b = false := by first | rfl | exact nobehind _ (by decide) (by decide)) : PE X (.Compare a [op] [b] pos) (tE G W (mBin g ma mb)) :=
  (pe_cmpR (op_cmpD s h) ha hb hm).weak fun _ _ _ q => bin_w q
theorem rt_cmp (s : St0 X G) {op : CmpOp} {g : D → D → Option D} (h : cmpD op = some g) (ha : PE X a (tArg G W ma)) (hb : PE X b (tArg G W mb)) (hm : behindInMarks op b = false := by first | rfl | exact nobehind _ (by decide) (by decide)) : PT X (.Compare a [op] [b] pos) (tT G W (mTB (mBin g ma mb))) :=
  (pt_cmpR (op_cmpD s h) ha hb hm).weak fun _ _ _ q => bin_w (tb_w q)
theorem r_chain (s : St0 X G) {op op' : CmpOp} {g g' : D → D → Option D} (h : cmpD op = some g) (h' : cmpD op' = some g') (ha : PE X a (tArg G W ma)) (hb : PE X b (tArg G W mb)) (hc : PE X c (tArg G W mc)) (hm : lastMarks [op, op'] [b, c] = false := by with_unfolding_all rfl) :
    PE X (.Compare a [op, op'] [b, c] pos) (tE G W (mChain g g' ma mb mc)) := (pe_chain (op_cmpD s h) (op_cmpD s h') ha hb hc hm).weak fun _ _ _ q => chain_w q
theorem rt_chain (s : St0 X G) {op op' : CmpOp} {g g' : D → D → Option D} (h : cmpD op = some g) (h' : cmpD op' = some g') (ha : PE X a (tArg G W ma)) (hb : PE X b (tArg G W mb)) (hc : PE X c (tArg G W mc)) (hm : lastMarks [op, op'] [b, c] = false := by with_unfolding_all rfl) :
    PT X (.Compare a [op, op'] [b, c] pos) (tT G W (mTB (mChain g g' ma mb mc))) := (pt_chain (op_cmpD s h) (op_cmpD s h') ha hb hc hm).weak fun _ _ _ q => chain_w (tb_w q)
/-! values of and, or, not, if -/
theorem r_one {op} (h : PE X a (tE G W m)) : PE X (.BoolOp op [a] pos) (tE G W m) := pe_one h
theorem r_and (ha : PE X a (tE G W m)) (hb : PE X (.BoolOp .And (b :: es) pos) (tE G W n)) : PE X (.BoolOp .And (a :: b :: es) pos) (tE G W (mAndV m n)) := (pe_and ha hb).weak fun _ _ _ q => andV_w q
theorem r_or (ha : PE X a (tE G W m)) (hb : PE X (.BoolOp .Or (b :: es) pos) (tE G W n)) : PE X (.BoolOp .Or (a :: b :: es) pos) (tE G W (mOrV m n)) := (pe_or ha hb).weak fun _ _ _ q => orV_w q
theorem r_not (ha : PE X a (tE G W m)) : PE X (.UnaryOp .Not a pos) (tE G W (mNotV m)) := (pe_not ha).weak fun _ _ _ q => notV_w q
variable {mt nt : EM Bool}
theorem r_ifE (hc : PT X c (tT G W mt)) (ha : PE X a (tE G W m)) (hb : PE X b (tE G W n)) : PE X (.IfExp c a b pos) (tE G W (mIfE mt m n)) := (pe_ifExp hc ha hb).weak fun _ _ _ q => ifE_w q
/-! tests -/
theorem rt_and1 (h : PT X a (tT G W mt)) : PW X (.BoolOp .And [a] pos) (tT G W mt) := pw_and1 h
theorem rt_or1 (h : PT X a (tT G W mt)) : PW X (.BoolOp .Or [a] pos) (tT G W mt) := pw_or1 h
theorem rt_and (h : PT X a (tT G W mt)) (hb : PW X (.BoolOp .And (b :: es) pos) (tT G W nt)) : PW X (.BoolOp .And (a :: b :: es) pos) (tT G W (mAndT mt nt)) := (pw_and h hb).weak fun _ _ _ q => and_w q
theorem rt_or (h : PT X a (tT G W mt)) (hb : PW X (.BoolOp .Or (b :: es) pos) (tT G W nt)) : PW X (.BoolOp .Or (a :: b :: es) pos) (tT G W (mOrT mt nt)) := (pw_or h hb).weak fun _ _ _ q => or_w q
theorem rt_not (h : PT X a (tT G W mt)) : PT X (.UnaryOp .Not a pos) (tT G W (mNotT mt)) := (pt_not h).weak fun _ _ _ q => not_w q
theorem rt_bl (h : PE X e (tE G W m)) (he : ∀ whole, isTrue e X.env whole = (do let v ← whole; standAt e.pos; holding [v] (truthy v)) := by intro _; rfl) : PT X e (tT G W (mTB m)) := (pt_val h he).weak fun _ _ _ q => tb_w q
theorem rt_tru (s : St0 X G) (h : PE X e (tArg G W ma)) (he : ∀ whole, isTrue e X.env whole = (do let v ← whole; standAt e.pos; holding [v] (truthy v)) := by intro _; rfl) : PT X e (tT G W (mTru ma)) := (pt_truth h he).weak fun _ _ _ q => by
  have := tru_w q
  rw [s.k]; exact this
/-! subscripts -/
theorem r_ix (s : St0 X G) (ha : PE X a (tArg G W ma)) (hb : PE X b (tArg G W mb)) (hs : PlainIx b := by intro _ _; rfl) : PE X (.Subscript a b pos) (tE G W (mBin ixD ma mb)) := (pe_ix (ix_D s.k.symm (by have := s.u; omega)) ha hb hs).weak fun _ _ _ q => bin_w q
variable {lo hi : Option Expr} {ml mh : EM (Option Int)} {p2 : Pos}
theorem PO.weak {o : Option Expr} {t u : TO} (h : PO X o t) (w : ∀ σ H Q, u σ H Q → t σ H Q) : PO X o u := ⟨fun pins s σ H Q I q => h.run pins s σ H Q I (w σ H Q q)⟩
theorem r_noP : PO X none (tO G W mNoP) := PO.weak po_none fun _ _ _ q => noP_w q
theorem r_part (h : PE X e (tE G W m)) : PO X (some e) (tO G W (mPart m)) := PO.weak (po_some h) fun _ _ _ q => part_w q
theorem r_sl (s : St0 X G) (ha : PE X a (tArg G W ma)) (hl : PO X lo (tO G W ml)) (hh : PO X hi (tO G W mh)) : PE X (.Subscript a (.Slice lo hi none p2) pos) (tE G W (mSl ma ml mh)) := (pe_slice (sl_D s.k.symm) ha hl hh).weak fun _ _ _ q => sl_w q
/-! builtins -/
theorem r_isi (s : St0 X G) (k : TyK) {tn : Str} {p3 : Pos} (ha : PE X a (tArg G W ma)) (h1 : G.C.mg "isinstance" = none) (h2 : G.C.mg tn = none) (hg : Gl X "isinstance") (hgt : Gl X tn) (hv : bootBuiltins tn = some (.type k.nm)) (hv1 : bootBuiltins "isinstance" = some (.builtin "isinstance"))
    (hn : tn ≠ "__name__" := by decide) (hd : (tn == ("__debug__" : Str)) = false := by decide)
    (hs : starEach [a, .Name tn p3] X.env = (false, eval a X.env) :: starEach [.Name tn p3] X.env := by rfl) (hpl : (backTo pos (starEach [Expr.Name tn p3] X.env)).any (·.1) = false := by rfl) :
    PE X (.Call (.Name "isinstance" p) [a, .Name tn p3] [] pos) (tE G W (mIsi k ma)) :=
  (pe_callB call_isi hg (by rw [s.m]; exact h1) hv1 (pa_cons ha (pa_cons (pe_bltn hgt (by rw [s.m]; exact h2) hv (show RelV (.ty k.nm) _ from rfl) hn hd) pa_nil) hs) (by decide) (by decide) hs hpl).weak fun _ _ _ q => by
    have := isi_w q
    rw [s.k]; exact this
theorem r_cb (s : St0 X G) {id : String} {g : List D → Option D} (hc : CallR X (.builtin id) (cD G.C g)) (hm : G.C.mg x = none) (hv : bootBuiltins x = some (.builtin id)) (hg : Gl X x) (ha : PA X (e :: es) (tArgs G W mas)) (hn : x ≠ "__name__" := by decide) (hdb : (x == ("__debug__" : Str)) = false := by decide)
    (he : starEach (e :: es) X.env = (false, eval e X.env) :: starEach es X.env := by rfl) (hpl : (backTo pos (starEach es X.env)).any (·.1) = false := by rfl) : PE X (.Call (.Name x p) (e :: es) [] pos) (tE G W (mCB g mas)) :=
  (pe_callB hc hg (by rw [s.m]; exact hm) hv ha hn hdb he hpl).weak fun _ _ _ q => cb_w q
theorem r_cty (s : St0 X G) {id : String} {g : List D → Option D} (hc : CallR X (.type id) (cD G.C g)) (hm : G.C.mg x = none) (hv : bootBuiltins x = some (.type id)) (hg : Gl X x) (ha : PA X (e :: es) (tArgs G W mas)) (hn : x ≠ "__name__" := by decide) (hdb : (x == ("__debug__" : Str)) = false := by decide)
    (he : starEach (e :: es) X.env = (false, eval e X.env) :: starEach es X.env := by rfl) (hpl : (backTo pos (starEach es X.env)).any (·.1) = false := by rfl) : PE X (.Call (.Name x p) (e :: es) [] pos) (tE G W (mCB g mas)) :=
  (pe_callTy hc hg (by rw [s.m]; exact hm) hv ha hn hdb he hpl).weak fun _ _ _ q => cb_w q
end

/-! ### rules: own defs -/
structure Fn (C : KM) (k : Nat) (x : Str) (g : List D → Res (D × EnvD)) : Prop where
  ex : ∃ (a : Addr) (fd : FuncData) (ps : List Str), C.mg x = some (.ref a) ∧ PySem.W.keepIn C.K (.ref a) = true ∧ Binds C.K fd ps [] ∧ ∀ base : Heap, C.K.In base → base.Ns mainGlobals C.mg → FnOk C.P C.w C.K C.mg base (L2.CX C.P C.w) k a fd ps (spD C g)
section
variable {X : Cx} {G : Gm} {W : WX} {lv j : Nat} {e : Expr} {es : List Expr} {mas : EM (List Arg)} {pos p : Pos} {x : Str} {g : List D → Res (D × EnvD)}
theorem Fn.call (F : Fn G.C j x g) (s : Go X G W lv) (h : j ≤ lv) : ∃ a, G.C.mg x = some (.ref a) ∧ PySem.W.keepIn G.C.K (.ref a) = true ∧ CallOk G.C X g (.ref a) := by
  obtain ⟨a, fd, ps, h1, h2, h3, h4⟩ := F.ex
  refine ⟨a, h1, h2, fun W' tk pins s0 σ H us vs Q I r hsp => ?_⟩
  have hk : G.C.K.In X.base := by rw [← s.k]; exact I.ok.mod.kin
  have hb : X.base.Ns mainGlobals G.C.mg := by rw [← s.m]; exact I.ok.mod.glob
  have F' := h4 X.base hk hb
  have e1 := s.p; have e2 := s.w; have e3 := s.k; have e4 := s.m
  rw [← e1, ← e2, ← e3, ← e4] at F'
  rw [← e3] at h3
  exact run_fnS (E := WE W') F' (s.rm.mono h) h3 (passAt tk σ) I r hsp
theorem r_call (s : Go X G W lv) (F : Fn G.C j x g) (hj : j ≤ lv) (hg : Gl X x) (ha : PA X (e :: es) (tArgs G W mas)) (hdb : (x == ("__debug__" : Str)) = false := by decide) (he : starEach (e :: es) X.env = (false, eval e X.env) :: starEach es X.env := by rfl)
    (hpl : (backTo pos (starEach es X.env)).any (·.1) = false := by rfl) : PE X (.Call (.Name x p) (e :: es) [] pos) (tE G W (mCall g mas)) := by
  obtain ⟨a, h1, h2, h3⟩ := F.call s hj
  exact pe_callD h3 s.tk hg (by rw [s.m]; exact h1) (by rw [s.k]; exact h2) ha hdb he hpl
theorem r_call0 (s : Go X G W lv) (F : Fn G.C j x g) (hj : j ≤ lv) (hg : Gl X x) (hdb : (x == ("__debug__" : Str)) = false := by decide) : PE X (.Call (.Name x p) [] [] pos) (tE G W (mCall g (mArgs []))) := by
  obtain ⟨a, h1, h2, h3⟩ := F.call s hj
  exact pe_callD0 h3 s.tk hg (by rw [s.m]; exact h1) (by rw [s.k]; exact h2) hdb
end

/-! ### rules: walks, targets -/
section
variable {X : Cx} {G : Gm} {W : WX} {lv : Nat} {a b e tg : Expr} {es : List Expr} {ma : EM Arg} {mas : EM (List Arg)} {pos p : Pos} {x : Str}
theorem ri_rng1 (s : St0 X G) (h1 : G.C.mg "range" = none) (hg : Gl X "range") (ha : PA X [a] (tArgs G W mas)) (hs : starEach [a] X.env = [(false, eval a X.env)] := by rfl) : PI X tg (.Call (.Name "range" p) [a] [] pos) (tI G W (mIt mas rng1)) :=
  (pi_range1 hg (by rw [s.m]; exact h1) ha hs).weak fun _ _ _ q => rng1_w q
theorem ri_rng2 (s : St0 X G) (h1 : G.C.mg "range" = none) (hg : Gl X "range") (ha : PA X [a, b] (tArgs G W mas)) (hs : starEach [a, b] X.env = [(false, eval a X.env), (false, eval b X.env)] := by rfl) (hs2 : starEach [b] X.env = [(false, eval b X.env)] := by rfl) : PI X tg (.Call (.Name "range" p) [a, b] [] pos) (tI G W (mIt mas rng2)) :=
  (pi_range2 hg (by rw [s.m]; exact h1) ha hs hs2).weak fun _ _ _ q => rng2_w q
theorem ri_val (s : St0 X G) (ha : PE X e (tArg G W ma)) : PI X tg e (tI G W (mIt1 ma)) :=
  (pi_or (pi_list ha) (pi_or (pi_tup ha) (pi_str ha))).weak fun _ _ _ q => by
    have := it1_w q
    rw [s.k]; exact this
theorem rg_nm (s : St0 X G) (i : Nat) (hi : X.N[i]? = some x) (hx : Loc X.env.scope x) (hf : X.fn x = true ∨ X.env.scope.names.lookup x = some .local := by first | exact .inl rfl | exact .inr rfl) : PG X (.Name x pos) (gT G.C.K (.nm i)) := by
  have := pg_name (pos := pos) s.n hi hx hf
  simpa only [gT] using this
theorem rg_nil : PGs X [] (gTs G.C.K []) := by simpa only [gTs] using pgs_nil
theorem rg_cons {t : Tgt} {ts : List Tgt} (h1 : PG X e (gT G.C.K t)) (h2 : PGs X es (gTs G.C.K ts)) (hs : (assignEach (e :: es) X.env).map (·.2) = assign e X.env :: (assignEach es X.env).map (·.2) := by rfl) : PGs X (e :: es) (gTs G.C.K (t :: ts)) := by
  simpa only [gTs] using pgs_cons h1 h2 hs
theorem rg_tup (s : St0 X G) (cm : X.calm = true) {k : Nat} {ts : List Tgt} (h : PGs X es (gTs G.C.K ts)) (hn : (assignEach es X.env).length = ts.length := by rfl) (hst : (assignEach es X.env).findIdx? (·.1) = none := by rfl) : PG X (.Tuple es k pos) (gT G.C.K (.tp ts)) := by
  have := pg_tup (pos := pos) (k := k) (n := ts.length) cm h hn hst
  rw [s.k] at this
  simpa only [gT] using this
end
end Mi
namespace Mi
open PySem PySem.Spec PyProof.Rows L2

/-! ### rules: statements -/
section
variable {X : Cx} {G : Gm} {W : WX} {lv : Nat} {a b c e tg : Expr} {es : List Expr} {st : Stmt} {sts sus : List Stmt} {m n : EM D} {ma : EM Arg} {mas : EM (List Arg)} {mt : EM Bool} {ms ns : EM FlowD} {mi : EM (List D)} {pos p : Pos} {x : Str}
theorem rs_nil : PSs X [] (tS G W mNext) := pss_nil.weak fun _ _ _ q => next_w q
theorem rs_cons (h1 : PS X st (tS G W ms)) (h2 : PSs X sts (tS G W ns)) : PSs X (st :: sts) (tS G W (mSeq ms ns)) := (pss_cons h1 h2).weak fun _ _ _ q => seq_w q
theorem rs_one (h1 : PS X st (tS G W ms)) : PSs X [st] (tS G W ms) := pss_one h1
theorem rs_pass : PS X (.Pass pos) (tS G W mNext) := ps_pass.weak fun _ _ _ q => next_w q
theorem rs_brk : PS X (.Break pos) (tS G W mBrk) := ps_break.weak fun _ _ _ q => brk_w q
theorem rs_cnt : PS X (.Continue pos) (tS G W mCnt) := ps_continue.weak fun _ _ _ q => cnt_w q
theorem rs_if (hc : PT X c (tT G W mt)) (ha : PSs X sts (tS G W ms)) (hb : PSs X sus (tS G W ns)) : PS X (.If c sts sus pos) (tS G W (mIfS mt ms ns)) := (ps_if hc ha hb).weak fun _ _ _ q => ifS_w q
theorem rs_ret (h : PE X e (tE G W m)) : PS X (.Return (some e) pos) (tS G W (mRet m)) := (ps_ret h).weak fun _ _ _ q => ret_w q
theorem rs_retN : PS X (.Return none pos) (tS G W mRetN) := ps_retN.weak fun _ _ _ q => retN_w q
theorem rs_expr (h : PE X e (tE G W m)) (hs : swapsWith e none pos.line X.env = pure false := by rfl) : PS X (.Expr e pos) (tS G W (mDrop m)) := (ps_expr h hs).weak fun _ _ _ q => drop_w q
theorem rs_set (s : St0 X G) (i : Nat) {pos' : Pos} (hio : i ∉ G.io) (hi : X.N[i]? = some x) (hx : Loc X.env.scope x) (he : PE X e (tE G W m)) (hs : swapsWith e (some (.Name x pos')) pos.line X.env = pure false := by rfl)
    (hf : X.fn x = true ∨ X.env.scope.names.lookup x = some .local := by first | exact .inl rfl | exact .inr rfl) : PS X (.Assign [.Name x pos'] e pos) (tS G W (mAsg i m)) := (ps_set s.n hi hx he hs hf).weak fun _ _ _ q => asg_w hio q
theorem rs_setT (t : Tgt) (hio : Tgt.off G.io t) (he : PE X e (tE G W m)) (hg : PG X tg (gT G.C.K t)) (hs : swapsWithSole [tg] e pos.line X.env = pure false := by rfl) (hw : swappedStores [tg] e X.env = pure none := by rfl)
    (h1 : (assignEach [tg] X.env).map (·.2) = [assign tg X.env] := by rfl) : PS X (.Assign [tg] e pos) (tS G W (mAsgT t m)) := (ps_asg he hg hs hw h1).weak fun _ _ _ q => asgT_w hio q
theorem rs_par (s : St0 X G) (cm : X.calm = true) (i j : Nat) {y : Str} {px py pt : Pos} {kt k2 pt2} (ioi : i ∉ G.io) (ioj : j ∉ G.io) (hi : X.N[i]? = some x) (hj : X.N[j]? = some y) (hij : i ≠ j)
    (hx : X.env.scope.names.lookup x = some .local) (hy : X.env.scope.names.lookup y = some .local) (ha : PA X [a, b] (tArgs G W mas)) (hw : swappedStores [.Tuple [.Name x px, .Name y py] kt pt] (.Tuple [a, b] k2 pt2) X.env = pure (some [x, y]))
    (hs : swapsWithSole [.Tuple [.Name x px, .Name y py] kt pt] (.Tuple [a, b] k2 pt2) pos.line X.env = pure false := by rfl) : PS X (.Assign [.Tuple [.Name x px, .Name y py] kt pt] (.Tuple [a, b] k2 pt2) pos) (tS G W (mPar i j mas)) :=
  (ps_par cm s.n hi hj hij hx hy ha hw hs).weak fun _ _ _ q => par_w ioi ioj q
theorem rs_put (j : Nat) {pos' : Pos} (hN : X.N[j]? = some x) (hv : Vis X.env.scope x) (hi : PE X a (tE G W n)) (he : PE X e (tE G W m)) (hs : swapsWithSole [.Subscript (.Name x p) a pos'] e pos.line X.env = pure false := by rfl) (hw : swappedStores [.Subscript (.Name x p) a pos'] e X.env = pure none := by rfl)
    (h1 : (assignEach [.Subscript (.Name x p) a pos'] X.env).map (·.2) = [assign (.Subscript (.Name x p) a pos') X.env] := by rfl)
    (ha : ∀ v, assign (.Subscript (.Name x p) a pos') X.env v = (do
      let ov ← holding [v] (eval (.Name x p) X.env)
      let iv ← holding [v, ov] (eval a X.env)
      standAt pos'
      holding [v, ov, iv] (setItem ov iv v)
      release [v, ov, iv] []) := by intro _; rfl) (hd : (x == ("__debug__" : Str)) = false := by decide) (hcd : (x == ("__classdict__" : Str)) = false := by decide) : PS X (.Assign [.Subscript (.Name x p) a pos'] e pos) (tS G W (mSet j n m)) :=
  (ps_asg he (pg_sub (pe_var hN hv hd hcd) hi set_list ha) hs hw h1).weak fun _ _ _ q => set_w q
theorem rs_for (s : Go X G W lv) (t : Tgt) (hio : Tgt.off G.io t) (hi : PI X tg e (tI G W mi)) (hg : PG X tg (gT G.C.K t)) (hb : PSs X sts (tS G W ms)) (hs : ∀ x, foldedSetIterable e X.env x = pure x := by intro _; rfl) : PS X (.For tg e sts [] pos) (tS G W (mFor mi t ms)) :=
  (ps_for s.pw s.cm hi hg hb hs).weak fun _ _ _ q => for_w hio q
theorem rs_while (s : Go X G W lv) (fuel : EnvD → Nat) (hc : PT X c (tT G W mt)) (hb : PSs X sts (tS G W ms)) : PS X (.While c sts [] pos) (tS G W (mWhile fuel mt ms)) :=
  (ps_while s.pw hc hb).weak fun _ _ _ q => while_w q
/-! comprehensions -/
theorem rts_nil : PTs X [] (tT G W mYes) := ⟨fun pins s σ H Q I h => pts_nil.run pins s σ H Q I (by
  obtain ⟨a, env, rfl, rel, post⟩ := h
  exact post a (Step.refl a) rel)⟩
theorem rts_one (h : PT X c (tT G W mt)) : PTs X [c] (tT G W mt) := pts_one h
theorem r_lc {elt : Expr} {ifs : List Expr} {scope : Scope} (s : Go X G W lv) (own : List (Str × Nat)) (t : Tgt) (hio : Tgt.off G.io t) (hio2 : ∀ i ∈ G.io, i ∉ own.map (·.2)) (hown : Tgt.ins (own.map (·.2)) t) (hi : PI X tg e (tI G W mi)) (ok : BlkOk X.N X.env.scope scope own)
    (hg : ∀ (s : Shared) (H : Hp) (C : Addr) (cl : List (Str × Addr)) (fp : List Addr), PG (X.blk s H scope (compEnvC scope cl C X.env) fp) tg (gT G.C.K t))
    (ht : ∀ (s : Shared) (H : Hp) (C : Addr) (cl : List (Str × Addr)) (fp : List Addr), Go (X.blk s H scope (compEnvC scope cl C X.env) fp) G W0 lv → PTs (X.blk s H scope (compEnvC scope cl C X.env) fp) ifs (tT G W0 mt))
    (he : ∀ (s : Shared) (H : Hp) (C : Addr) (cl : List (Str × Addr)) (fp : List Addr), Go (X.blk s H scope (compEnvC scope cl C X.env) fp) G W0 lv → PE (X.blk s H scope (compEnvC scope cl C X.env) fp) elt (tE G W0 m)) (hs : ∀ x, foldedSetIterable e X.env x = pure x := by intro _; rfl) :
    PE X (.ListComp elt [⟨tg, e, ifs, 0⟩] scope pos) (tE G W (mLc mi t mt m (own.map (·.2)))) :=
  (pe_lc s.cm s.n hi ok hg (fun s0 H C cl fp => ht s0 H C cl fp (s.blk ..)) (fun s0 H C cl fp => he s0 H C cl fp (s.blk ..)) hs).weak fun _ _ _ q => lc_w hio hio2 hown q
theorem rs_lc {elt : Expr} {ifs : List Expr} {scope : Scope} {py : Pos} (s : Go X G W lv) (i : Nat) (own : List (Str × Nat)) (t : Tgt) (hioi : i ∉ G.io) (hio : Tgt.off G.io t) (hio2 : ∀ i ∈ G.io, i ∉ own.map (·.2)) (hown : Tgt.ins (own.map (·.2)) t)
    (hy : X.N[i]? = some x) (hyl : X.env.scope.names.lookup x = some .local) (hsw : swapsWith (.ListComp elt [⟨tg, e, ifs, 0⟩] scope p) (some (.Name x py)) pos.line X.env = pure true) (hi : PI X tg e (tI G W mi)) (ok : BlkOk X.N X.env.scope scope own)
    (hg : ∀ (s : Shared) (H : Hp) (C : Addr) (cl : List (Str × Addr)) (fp : List Addr), PG (X.blk s H scope (compEnvC scope cl C X.env) fp) tg (gT G.C.K t))
    (ht : ∀ (s : Shared) (H : Hp) (C : Addr) (cl : List (Str × Addr)) (fp : List Addr), Go (X.blk s H scope (compEnvC scope cl C X.env) fp) G W0 lv → PTs (X.blk s H scope (compEnvC scope cl C X.env) fp) ifs (tT G W0 mt))
    (he : ∀ (s : Shared) (H : Hp) (C : Addr) (cl : List (Str × Addr)) (fp : List Addr), Go (X.blk s H scope (compEnvC scope cl C X.env) fp) G W0 lv → PE (X.blk s H scope (compEnvC scope cl C X.env) fp) elt (tE G W0 m)) (hs : ∀ x, foldedSetIterable e X.env x = pure x := by intro _; rfl) :
    PS X (.Assign [.Name x py] (.ListComp elt [⟨tg, e, ifs, 0⟩] scope p) pos) (tS G W (mAsg i (mLc mi t mt m (own.map (·.2))))) :=
  (ps_setLc s.cm s.n hy hyl hsw hi ok hg (fun s0 H C cl fp => ht s0 H C cl fp (s.blk ..)) (fun s0 H C cl fp => he s0 H C cl fp (s.blk ..)) hs).weak fun D σ H q => by
    obtain ⟨a, env, h1, rel, post⟩ := asg_w hioi q
    exact lc_w hio hio2 hown ⟨a, env, h1, rel, post⟩
end

/-! ### exceptions -/
def mExc (x : Str) : EM FlowD := fun env => .exc ⟨x, [], []⟩ env
/- an own class over ValueError, no __init__ -/
structure ExcC (C : KM) (x : Str) : Prop where
  ex : ∃ a, C.mg x = some (.ref a) ∧ PySem.W.excIn C.K a [.type "ValueError", .type "Exception", .type "BaseException", .type "object"] "ValueError.__new__" = true ∧ PySem.W.keepIn C.K (.ref a) = true ∧ PySem.W.subIn C.K (.ref a) (.type "BaseException") = some true ∧ PySem.W.typeIn C.K (.ref a) = some (.type "type")
def calmR (r : Res (FlowD × EnvD)) : Res (FlowD × EnvD) := match r with
  | .ok x => .ok x
  | _ => .bad
def mTry (yes no : List Str) (body suite : EM FlowD) : EM FlowD := fun env => match body env with
  | .exc x e => if x.cls ∈ yes then calmR (suite e) else if x.cls ∈ no then .exc x e else .bad
  | r => r
section
variable {X : Cx} {G : Gm} {W : WX} {lv : Nat} {pos p pos' : Pos} {x : Str}
theorem pmk_own0 {C : Addr} {bmB : List Value} {B newId initId : String} (F : ExcBaseFacts B newId initId bmB) (q : PySem.W.excIn X.K C bmB newId = true) (gC : X.mg x = some (.ref C)) (kC : PySem.W.keepIn X.K (.ref C) = true) (r : Raises X (.ref C)) (hg : Gl X x)
    (hdb : (x == ("__debug__" : Str)) = false := by decide) : PMk X (.Call (.Name x p) [] [] pos) (fun _ H Q => Q (.ref C) none H) := by
  intro pins s σ H Q I h
  refine wpAny_Call_Name_kw (ld_glob I hg gC ?_ hdb)
  obtain ⟨hp1, g1, d1, tk1, os1⟩ := s
  refine PySem.W.callWith_K0 I.kIn kC ?_
  show wpAny _ _ (call (.ref C) []) _ _ _
  obtain ⟨bm, N, nm, qn, bs, hdct, sn, sub, ab, col, dd, k0, k1, k2, k3, k5, mN, hC, hN, hni, T⟩ := exc_obj I.kIn q
  refine wpAny_call_exc_subT F T hC hN hni (fun h' e hm => ?_) (Nat.zero_le _)
  exact mk_of I hm r h (I.hok.gone hm.new)
theorem rs_raise0 (s : Go X G W lv) (E : ExcC G.C x) (hg : Gl X x) (hdb : (x == ("__debug__" : Str)) = false := by decide) : PS X (.Raise (some (.Call (.Name x p) [] [] pos)) none pos') (tS G W (mExc x)) := by
  obtain ⟨a, h1, h2, h3, h4, h5⟩ := E.ex
  rw [← s.k] at h2 h3 h4 h5
  rw [← s.m] at h1
  refine (ps_raise s.cm s.tk (pmk_own0 PySem.F.excBase_ValueError h2 h1 h3 (raises_own h4 h5) hg hdb)).weak fun D σ H q => ?_
  obtain ⟨a', env, rfl, rel, post⟩ := q
  exact post a' σ (.ref a) none (Step.refl a') rel ⟨by rw [← s.m]; exact h1, .inl ⟨rfl, rfl, rfl⟩⟩
theorem rs_try {c : Value} {body : List Stmt} {b0 : Stmt} {suite : List Stmt} {np : Pos} {ms ns : EM FlowD} (s : Go X G W lv) (hst : X.stack = X.env :: X.outer) (hf : X.env.frame = some X.env.locals) (hc : Names X x c) (yes no : List Str)
    (hy : ∀ n ∈ yes, ∀ u, G.C.mg n = some u → PySem.W.exmOne G.C.K u c = some true) (hn : ∀ n ∈ no, ∀ u, G.C.mg n = some u → PySem.W.exmOne G.C.K u c = some false)
    (hb : ∀ (W' : WX) (pn : List (Addr × Obj)) (xe : Value → Shared → Prop), Go (X.tr pn xe) G W' lv → PSs (X.tr pn xe) body (tS G W' ms))
    (hsu : ∀ (a : Addr) (pn : List (Addr × Obj)), St0 (X.suite a pn) G → PSs (X.suite a pn) (b0 :: suite) (tS G W0 ns)) :
    PS X (.Try body [.ExceptHandler (some (.Name x np)) none (b0 :: suite) pos'] [] [] pos) (tS G W (mTry yes no ms ns)) := by
  refine (ps_try_only hst hf hc s.tk (fun W' pn xe tk pw => hb W' pn xe (s.tr tk pw)) (fun a oe cls d pn _ _ => hsu a ((a, oe) :: pn) (s.suite a _))).weak fun D σ H q => ?_
  obtain ⟨a, env, rfl, rel, post⟩ := q
  refine ⟨a, env, rfl, rel, ?_⟩
  unfold mTry at post
  cases hm : ms env with
  | bad => rw [hm] at post; exact post
  | ok fe =>
    obtain ⟨f, e⟩ := fe
    rw [hm] at post
    cases f <;> exact post
  | exc y e =>
    rw [hm] at post
    dsimp only at post
    split at post
    · rename_i hin
      intro b σ' cls dd st r er
      refine ⟨true, by rw [s.k]; exact hy _ hin _ er.1, fun _ u _ => ?_, fun z => Bool.noConfusion z⟩
      refine ⟨b, e, rfl, r, PostS.step st ?_⟩
      cases hs : ns e with
      | bad => rw [hs] at post; exact post
      | exc z e2 => rw [hs] at post; exact (show False from post).elim
      | ok fe =>
        obtain ⟨f, e2⟩ := fe
        rw [hs] at post
        cases f <;> exact post
    · split at post
      · rename_i hin
        intro b σ' cls dd st r er
        exact ⟨false, by rw [s.k]; exact hn _ hin _ er.1, fun z => Bool.noConfusion z, fun _ => post b σ' cls dd st r er⟩
      · exact (show False from post).elim
end

/-! ### a def -/
def ownOk (io : List Nat) : List D → Nat → Bool
  | [], _ => true
  | d :: ds, i => (fz d || io.contains i) && ownOk io ds (i + 1)
def outsD (np : Nat) (io : List Nat) (e : EnvD) : EnvD := (List.range np).map fun i => if io.contains i then (e[i]?).join else none
def runD (np n : Nat) (io : List Nat) (m : EM FlowD) : List D → Res (D × EnvD) := fun ds =>
  if ds.length = np ∧ ownOk io ds 0 = true then
    match m (ds.map some ++ List.replicate (n - np) none) with
    | .ok (.ret d, e) => .ok (d, outsD np io e)
    | .ok (.next, e) => .ok (.non, outsD np io e)
    | .exc x e => .exc x (outsD np io e)
    | _ => .bad
  else .bad
theorem outs_rep {G : Gm} {b : Wd} {σ : L2.St} {e : EnvD} (r : RelE G b σ e) {np : Nat} (hv : np ≤ G.vs0.length) : OutRep G.C b G.vs0 (outsD np G.io e) := fun i d h => by
  unfold outsD at h
  rw [List.getElem?_map] at h
  by_cases hi : i < np
  · rw [List.getElem?_range hi] at h
    have h : (if G.io.contains i then (e[i]?).join else none) = some d := Option.some.inj h
    split at h
    · rename_i hio
      have hio : i ∈ G.io := by simpa using hio
      cases he : e[i]? with
      | none => rw [he] at h; cases h
      | some o =>
        rw [he] at h
        have h : o = some d := h
        subst h
        obtain ⟨v, h1, h2⟩ := r.slot i d he
        have hl : i < G.vs0.length := Nat.lt_of_lt_of_le hi hv
        have h3 := r.prm i hio _ (List.getElem?_eq_getElem hl)
        rw [h1] at h3; cases h3
        exact ⟨_, List.getElem?_eq_getElem hl, h2⟩
    · cases h
  · rw [List.getElem?_eq_none (by simpa using hi)] at h; cases h
abbrev CxD (C : KM) (base : Heap) (N : List Str) (qual : Str) (sc : Scope) (f : Addr) (cd : Value) (A : Around) (outer : List Env) (s : Shared) (H : Hp) (E : XK) : Cx := cxOf (L2.CX C.P C.w) C.P C.w C.K C.mg base N qual sc f cd A outer s H E
theorem fn_def {C : KM} {N ps : List Str} {st : Stmt} {x : Str} {f : Addr} {fd : FuncData} {lv : Nat} (io : List Nat) (m : EM FlowD) (F : Fun C.K x x st f fd) (S : FnScope N ps (defScope st)) (hb : Binds C.K fd ps []) (hm : C.mg x = some (.ref f))
    (body : ∀ (base : Heap) (cdv : Value) (A : Around) (outer : List Env) (s : Shared) (H : Hp) (E : XK) (vs : List V) (W : WX), Go (CxD C base N x (defScope st) f cdv A outer s H E) ⟨C, vs, io⟩ W lv → PSs (CxD C base N x (defScope st) f cdv A outer s H E) (defBody st) (tS ⟨C, vs, io⟩ W m)) :
    Fn C (lv + 1) x (runD ps.length N.length io m) := by
  refine ⟨f, fd, ps, hm, F.kp, hb, fun base _ _ => ?_⟩
  have hpl : ps.length ≤ N.length := by have := congrArg List.length S.pre; rw [List.length_take] at this; omega
  refine F.okX S (fun vs H Q E h => ?_) fun cdv A outer s H vs Q E hr h => ?_
  · obtain ⟨a, ds, _, _, hl, _, h⟩ := h
    unfold runD at h
    by_cases z : ds.length = ps.length ∧ ownOk io ds 0 = true
    · rw [← hl, z.1]
    · rw [if_neg z] at h; exact h.elim
  · obtain ⟨a, ds, rfl, ok, hl, hrep, h⟩ := h
    have go : Go (CxD C base N x (defScope st) f cdv A outer s a.H E) ⟨C, vs, io⟩ (fun cls d _ H => E cls d H) lv :=
      { p := rfl, w := rfl, k := rfl, m := rfl, n := S.nd, u := by have := hr.un; show (A.deeper _).units + 64 < cLine; omega, tk := takes_of rfl rfl rfl rfl, pw := passes_of rfl, rm := hr, cm := rfl }
    refine ⟨_, body base cdv A outer s a.H E vs _ go, ?_⟩
    unfold runD at h
    by_cases z : ds.length = ps.length ∧ ownOk io ds 0 = true
    · rw [if_pos z] at h
      have hlen : vs.length = ps.length := by rw [← hl, z.1]
      refine ⟨a, ds.map some ++ List.replicate (N.length - ps.length) none, rfl, ⟨ok, ?_, fun i d e => ?_, fun i hi v hv => ?_⟩, ?_⟩
      · unfold L2.start
        rw [List.length_append, List.length_append, List.length_map, List.length_map, List.length_replicate, List.length_replicate, z.1, hlen]
      · have hi : i < ds.length := by
          by_cases hi : i < ds.length
          · exact hi
          · rw [List.getElem?_append_right (by simpa using hi), List.getElem?_replicate] at e
            split at e <;> cases e
        have e2 : ds[i]? = some d := by
          rw [List.getElem?_append_left (by simpa using hi), List.getElem?_map] at e
          cases q : ds[i]? with
          | none => rw [q] at e; cases e
          | some d' => rw [q] at e; cases e; rfl
        obtain ⟨v, h1, h2⟩ := hrep i d e2
        refine ⟨v, ?_, h2⟩
        unfold L2.start
        rw [List.getElem?_append_left (by rw [List.length_map]; exact (List.getElem?_eq_some_iff.mp h1).1), List.getElem?_map, h1]; rfl
      · have hv : vs[i]? = some v := hv
        unfold L2.start
        rw [List.getElem?_append_left (by rw [List.length_map]; exact (List.getElem?_eq_some_iff.mp hv).1), List.getElem?_map, hv]; rfl
      · cases hm : m (ds.map some ++ List.replicate (N.length - ps.length) none) with
        | bad => rw [hm] at h; exact h.elim
        | exc y e => rw [hm] at h; exact fun b σ cls dd st r er => h b cls dd st r.ok (outs_rep r (Nat.le_of_eq hlen.symm)) er
        | ok fe =>
          obtain ⟨fl, e⟩ := fe
          rw [hm] at h
          cases fl with
          | next => exact fun b σ st r => h b .non st r.ok (outs_rep r (Nat.le_of_eq hlen.symm)) (by simp [Rep])
          | ret d => exact fun b σ v st r rp => h b v st r.ok (outs_rep r (Nat.le_of_eq hlen.symm)) rp
          | brk => exact h.elim
          | cont => exact h.elim
    · rw [if_neg z] at h; exact h.elim
end Mi
namespace Mi
open PySem PySem.Spec PyProof.Rows L2
/-! ### {k: v} -/
def mDic1 (mk mv : EM Arg) : EM D := fun env => (mk env).bind fun (x, e1) => (mv e1).bind fun (y, e2) => match x.get e2, y.get e2 with
  | some d1, some d2 => match keyD d1 with
    | some _ => if fz d2 = true then .ok (.dic true [d1] [d2], e2) else .bad
    | none => .bad
  | _, _ => .bad
theorem keyD_fz {d : D} {k : Key} (h : keyD d = some k) : fz d = true := by
  cases d <;> simp [keyD] at h <;> rfl
theorem dic1_w {G : Gm} {W : WX} {σ : L2.St} {H : Hp} {Q : VK} {mk mv : EM Arg} (h : tE G W (mDic1 mk mv) σ H Q) : tDisp [(tArg G W mk, tArg G W mv)] σ H Q := by
  obtain ⟨a, env, rfl, rel, post⟩ := h
  intro A hA
  have fA : a.F A = none := by
    cases q : a.F A with
    | none => rfl
    | some u => have := rel.ok.sub A u q; rw [hA] at this; cases this
  have tA : a.t A = none := by
    cases q : a.t A with
    | none => rfl
    | some u => obtain ⟨_, u, h⟩ := rel.ok.own A u q; rw [hA] at h; cases h
  have st0 : Step a (putA a A (.dK [])) := fun x o h t => by
    have ne : x ≠ A := by rintro rfl; rw [hA] at h; cases h
    exact ⟨by show upd a.H A _ x = _; rw [upd_ne ne]; exact h, t, rfl⟩
  have rel0 := putA_rel (o := .dK []) rel fA tA
  refine ⟨putA a A (.dK []), env, rfl, rel0, ?_⟩
  unfold mDic1 at post
  cases hm : mk env with
  | bad => rw [hm] at post; exact (show False from post).elim
  | exc x e => rw [hm] at post; exact PostR.step (K := fun x e b => ∀ v, ArgRep G.C b σ x v → _) (r := .exc x e) st0 post
  | ok xe =>
    obtain ⟨x, e1⟩ := xe
    rw [hm] at post
    intro b s1 rel1 v ar1
    refine ⟨b, e1, rfl, rel1, ?_⟩
    dsimp only [Res.bind] at post
    cases hn : mv e1 with
    | bad => rw [hn] at post; exact (show False from post).elim
    | exc y e => rw [hn] at post; exact PostR.step (K := fun x e b => ∀ v, ArgRep G.C b σ x v → _) (r := .exc y e) (st0.trans s1) post
    | ok ye =>
      obtain ⟨y, e2⟩ := ye
      rw [hn] at post
      intro c s2 rel2 u ar2
      have ar1 := ar1.step rel1.ok s2
      dsimp only [Res.bind] at post
      obtain ⟨g1, g2, g3⟩ := s1 A _ (show upd a.H A (.dK []) A = some (.dK []) from upd_same) tA
      obtain ⟨k1, k2, k3⟩ := s2 A _ g1 g2
      have k3 : c.F A = none := k3.trans (g3.trans fA)
      refine ⟨k1, ?_⟩
      cases hx : x.get e2 with
      | none => simp only [hx] at post; exact (show False from post).elim
      | some d1 =>
        cases hy : y.get e2 with
        | none => simp only [hx, hy] at post; exact (show False from post).elim
        | some d2 =>
          simp only [hx, hy] at post
          cases hk : keyD d1 with
          | none => simp only [hk] at post; exact (show False from post).elim
          | some k =>
            simp only [hk] at post
            split at post
            · rename_i zd
              obtain ⟨r1, p1⟩ := ar1.rep rel2 hx
              obtain ⟨r2, p2⟩ := ar2.rep rel2 hy
              have ev := keyD_rep hk p1
              refine ⟨[(k, u)], by rw [ev]; rfl, by simp, ?_⟩
              show Q (.ref A) (upd c.H A (.dK [(k, u)]))
              have post : ∀ b', Step a b' → RelE G b' σ e2 → ∀ v, Rep G.C b' 0 [] v (.dic true [d1] [d2]) → Q v b'.H := post
              have rel3 : RelE G (putA c A (.dK [(k, u)])) σ e2 := putA_rel rel2 k3 k2
              refine post (tagA (putA c A (.dK [(k, u)])) A) (fun z o h t => ?_) ?_ (.ref A) ?_
              · have ne : z ≠ A := by rintro rfl; rw [hA] at h; cases h
                obtain ⟨q1, q2, q3⟩ := (st0.trans (s1.trans s2)) z o h t
                exact ⟨by show upd c.H A _ z = _; rw [upd_ne ne]; exact q1, by show (if z = A then some (0, []) else c.t z) = none; rw [if_neg ne]; exact q2, q3⟩
              · exact ⟨tagA_ok (o := .dK [(k, u)]) rel3.ok k3 upd_same, rel3.len, fun i d h => let ⟨v, e, q⟩ := rel3.slot i d h; ⟨v, e, tagA_to (A := A) (c := putA c A (.dK [(k, u)])) k2 q⟩, rel3.prm⟩
              · have fr : ∀ z o, c.F z = some o → (tagA (putA c A (.dK [(k, u)])) A).F z = some o := fun z o h => h
                simp only [Rep]
                refine ⟨A, .dK [(k, u)], [kV k], [u], rfl, ?_, .dk [(k, u)], by simp [fzL, keyD_fz hk], ?_, ?_⟩
                · rw [if_pos trivial]
                  exact ⟨by show (if A = A then some (0, []) else c.t A) = _; rw [if_pos rfl], upd_same⟩
                · refine ⟨kV k, [], rfl, ?_, by simp [RepL]⟩
                  rw [ev] at p1
                  exact Rep.fz (a := c) (b := tagA (putA c A (.dK [(k, u)])) A) fr d1 _ _ _ (keyD_fz hk) p1
                · exact ⟨u, [], rfl, Rep.fz (a := c) (b := tagA (putA c A (.dK [(k, u)])) A) fr d2 _ _ _ zd p2, by simp [RepL]⟩
            · exact (show False from post).elim
theorem r_dic1 {X : Cx} {G : Gm} {W : WX} {ke ve : Expr} {mk mv : EM Arg} {pos : Pos} (s : St0 X G) (hk : PE X ke (tArg G W mk)) (hv : PE X ve (tArg G W mv)) : PE X (.Dict [some ke] [ve] pos) (tE G W (mDic1 mk mv)) :=
  (pe_disp (pps_cons hk hv pps_nil) rfl rfl (by simp) (by simp)).weak fun _ _ _ q => dic1_w q
theorem fn_ok {C : KM} {N ps : List Str} {st : Stmt} {x : Str} {f : Addr} {fd : FuncData} {lv : Nat} (io : List Nat) (m : EM FlowD) (F : Fun C.K x x st f fd) (S : FnScope N ps (defScope st)) (base : Heap)
    (body : ∀ (base : Heap) (cdv : Value) (A : Around) (outer : List Env) (s : Shared) (H : Hp) (E : XK) (vs : List V) (W : WX), Go (CxD C base N x (defScope st) f cdv A outer s H E) ⟨C, vs, io⟩ W lv → PSs (CxD C base N x (defScope st) f cdv A outer s H E) (defBody st) (tS ⟨C, vs, io⟩ W m)) :
    FnOk C.P C.w C.K C.mg base (L2.CX C.P C.w) (lv + 1) f fd ps (spD C (runD ps.length N.length io m)) := by
  have hpl : ps.length ≤ N.length := by have := congrArg List.length S.pre; rw [List.length_take] at this; omega
  refine F.okX S (fun vs H Q E h => ?_) fun cdv A outer s H vs Q E hr h => ?_
  · obtain ⟨a, ds, _, _, hl, _, h⟩ := h
    unfold runD at h
    by_cases z : ds.length = ps.length ∧ ownOk io ds 0 = true
    · rw [← hl, z.1]
    · rw [if_neg z] at h; exact h.elim
  · obtain ⟨a, ds, rfl, ok, hl, hrep, h⟩ := h
    have go : Go (CxD C base N x (defScope st) f cdv A outer s a.H E) ⟨C, vs, io⟩ (fun cls d _ H => E cls d H) lv :=
      { p := rfl, w := rfl, k := rfl, m := rfl, n := S.nd, u := by have := hr.un; show (A.deeper _).units + 64 < cLine; omega, tk := takes_of rfl rfl rfl rfl, pw := passes_of rfl, rm := hr, cm := rfl }
    refine ⟨_, body base cdv A outer s a.H E vs _ go, ?_⟩
    unfold runD at h
    by_cases z : ds.length = ps.length ∧ ownOk io ds 0 = true
    · rw [if_pos z] at h
      have hlen : vs.length = ps.length := by rw [← hl, z.1]
      refine ⟨a, ds.map some ++ List.replicate (N.length - ps.length) none, rfl, ⟨ok, ?_, fun i d e => ?_, fun i hi v hv => ?_⟩, ?_⟩
      · unfold L2.start
        rw [List.length_append, List.length_append, List.length_map, List.length_map, List.length_replicate, List.length_replicate, z.1, hlen]
      · have hi : i < ds.length := by
          by_cases hi : i < ds.length
          · exact hi
          · rw [List.getElem?_append_right (by simpa using hi), List.getElem?_replicate] at e
            split at e <;> cases e
        have e2 : ds[i]? = some d := by
          rw [List.getElem?_append_left (by simpa using hi), List.getElem?_map] at e
          cases q : ds[i]? with
          | none => rw [q] at e; cases e
          | some d' => rw [q] at e; cases e; rfl
        obtain ⟨v, h1, h2⟩ := hrep i d e2
        refine ⟨v, ?_, h2⟩
        unfold L2.start
        rw [List.getElem?_append_left (by rw [List.length_map]; exact (List.getElem?_eq_some_iff.mp h1).1), List.getElem?_map, h1]; rfl
      · have hv : vs[i]? = some v := hv
        unfold L2.start
        rw [List.getElem?_append_left (by rw [List.length_map]; exact (List.getElem?_eq_some_iff.mp hv).1), List.getElem?_map, hv]; rfl
      · cases hm : m (ds.map some ++ List.replicate (N.length - ps.length) none) with
        | bad => rw [hm] at h; exact h.elim
        | exc y e => rw [hm] at h; exact fun b σ cls dd st r er => h b cls dd st r.ok (outs_rep r (Nat.le_of_eq hlen.symm)) er
        | ok fe =>
          obtain ⟨fl, e⟩ := fe
          rw [hm] at h
          cases fl with
          | next => exact fun b σ st r => h b .non st r.ok (outs_rep r (Nat.le_of_eq hlen.symm)) (by simp [Rep])
          | ret d => exact fun b σ v st r rp => h b v st r.ok (outs_rep r (Nat.le_of_eq hlen.symm)) rp
          | brk => exact h.elim
          | cont => exact h.elim
    · rw [if_neg z] at h; exact h.elim
theorem exm_sub {K : PySem.W.Frag} {S T : Addr} {b : Bool} (h1 : PySem.W.subIn K (.ref T) (.type "BaseException") = some true) (h2 : PySem.W.isClsIn K T = true) (h3 : PySem.W.typeIn K (.ref T) = some (.type "type")) (h4 : PySem.W.subIn K (.ref S) (.ref T) = some b) : PySem.W.exmOne K (.ref S) (.ref T) = some b := by
  have e1 : (PySem.W.subIn K (.ref T) (.type "BaseException") == some true) = true := by rw [h1]; rfl
  have e2 : ((PySem.W.clsIn K T).isSome && PySem.W.typeIn K (.ref T) == some (.type "type")) = true := by
    have h2' : (PySem.W.clsIn K T).isSome = true := h2
    rw [h2', h3] <;> rfl
  show (if (PySem.W.subIn K (.ref T) (.type "BaseException") == some true) = true then (if ((PySem.W.clsIn K T).isSome && PySem.W.typeIn K (.ref T) == some (.type "type")) = true then PySem.W.subIn K (.ref S) (.ref T) else none) else none) = some b
  rw [if_pos e1, if_pos e2]
  exact h4
def scriptW (H : Hp) : Wd := ⟨H, H, fun _ => none⟩
theorem law_walk {l : PySem.W.OpenLaw} {k : Nat} {g : List D → Res (D × EnvD)} {q : Program} {loose : List Str} {XP : (Str → Option Value) → Heap → Prop} {YP : World → Heap → Prop} {d : DefRec} {K : Params → PySem.W.Frag} (hn : l.most = some 63) (hdf : d.params.defaults = []) (hr : Room k callerA)
    (hY : ∀ (w : World) (h : Heap), YP w h → (K w.params).In h)
    (F : ∀ (w : World) (mg : Str → Option Value) (fa : Addr) (h : Heap), (K w.params).In h → h.Ns mainGlobals mg → mg d.name = some (.ref fa) →
      ∃ fd : FuncData, (∀ (s : Shared) (u : Value), BindsTo s fd ⟨[u], []⟩ [("_law_script", u)]) ∧ ∀ base : Heap, (K w.params).In base → base.Ns mainGlobals mg → FnOk l.prog w (K w.params) mg base (L2.CX l.prog w) k fa fd ["_law_script"] (spD ⟨l.prog, w, K w.params, mg⟩ g))
    (hg : ∀ ns : List Int, ns.length ≤ 63 → (∀ z ∈ ns, Builtin.Int.intBits z ≤ 1048576) → ∃ outs, g [.scr ns] = .ok (.bl true, outs)) :
    PySem.W.WalkO q loose XP YP l.row.toRowW d [] (fun f vs => PySem.call f vs) := by
  refine L2.walk_ofB (n := 63) (k := k) (x := "_law_script") (CX := fun w => L2.CX l.prog w) (sp := fun w vs H Q _ => ∃ (a : Addr) (ns : List Int), vs = [.ref a] ∧ SqL (K w.params) H a (ns.map V.int) ∧ ns.length ≤ 63 ∧ (∀ z ∈ ns, Builtin.Int.intBits z ≤ 1048576) ∧ ∀ H', Q (.bl true) H') hn (by decide) hdf hr hY (fun w mg fa h h1 h2 h3 => ?_)
    (fun w H a ns hl hb _ hS => ⟨a, ns, rfl, hS, hl, hb, fun _ => rfl⟩) fun w H s e s' h => ?_
  · obtain ⟨fd, h4, h5⟩ := F w mg fa h h1 h2 h3
    refine ⟨fd, h4, fun base h6 h7 => (h5 base h6 h7).imp fun vs H Q E ⟨a, ns, e, hS, hl, hb, q⟩ => ?_⟩
    subst e
    obtain ⟨outs, hr⟩ := hg ns hl hb
    refine ⟨scriptW H, [.scr ns], rfl, ⟨fun _ _ h => h, fun _ _ h => by cases h⟩, rfl, fun i d e => ?_, ?_⟩
    · cases i with
      | zero => simp at e; subst e; exact ⟨_, rfl, by simp only [Rep]; exact ⟨a, rfl, hS⟩⟩
      | succ i => simp at e
    · rw [hr]
      intro b v _ _ _ rp
      cases rep_bl rp
      exact q b.H
  · obtain ⟨_, _, _, _, _, _, _, _, _, _, _, _, z⟩ := h
    exact z.elim
end Mi
namespace Mi
open PySem PySem.Spec PyProof.Rows L2

/-! ### what a mirror answers: rows for simp; a continuation is a name with its arguments, so that simp goes on only where the first part is told -/
section
variable {α β : Type} {e env : EnvD} {m n : EM D} {ma mb mc : EM Arg} {mas : EM (List Arg)} {mt nt : EM Bool} {ms ns : EM FlowD} {d d1 d2 : D} {x y : Arg} {b : Bool} {i j : Nat}
theorem bind_ext {r : Res α} {k k' : α → Res β} (h : ∀ x, k x = k' x) : r.bind k = r.bind k' := by rw [funext h]
@[simp] theorem bind_ok (x : α) (k : α → Res β) : Res.bind (.ok x) k = k x := rfl
@[simp] theorem bind_exc (x : Exc) (e : EnvD) (k : α → Res β) : Res.bind (.exc x e) k = .exc x e := rfl
@[simp] theorem bind_bad (k : α → Res β) : Res.bind .bad k = .bad := rfl
def kSeq (k : EM FlowD) : FlowD × EnvD → Res (FlowD × EnvD) := fun (f, e) => match f with
  | .next => k e
  | .brk => .ok (.brk, e)
  | .cont => .ok (.cont, e)
  | .ret d => .ok (.ret d, e)
@[simp] theorem e_seq : mSeq ms ns env = (ms env).bind (kSeq ns) := rfl
@[simp] theorem kSeq_next : kSeq ns (.next, e) = ns e := rfl
@[simp] theorem kSeq_ret : kSeq ns (.ret d, e) = .ok (.ret d, e) := rfl
@[simp] theorem kSeq_brk : kSeq ns (.brk, e) = .ok (.brk, e) := rfl
@[simp] theorem kSeq_cont : kSeq ns (.cont, e) = .ok (.cont, e) := rfl
@[simp] theorem e_next : mNext env = .ok (.next, env) := rfl
@[simp] theorem e_brk : mBrk env = .ok (.brk, env) := rfl
@[simp] theorem e_cnt : mCnt env = .ok (.cont, env) := rfl
def kIf {α : Type} (m n : EM α) : Bool × EnvD → Res (α × EnvD) := fun (b, e) => if b = true then m e else n e
@[simp] theorem e_ifS : mIfS mt ms ns env = (mt env).bind (kIf ms ns) := rfl
@[simp] theorem e_ifE : mIfE mt m n env = (mt env).bind (kIf m n) := rfl
@[simp] theorem kIf_t {m n : EM α} : kIf m n (true, e) = m e := rfl
@[simp] theorem kIf_f {m n : EM α} : kIf m n (false, e) = n e := rfl
def kRet : D × EnvD → Res (FlowD × EnvD) := fun (d, e) => .ok (.ret d, e)
@[simp] theorem e_ret : mRet m env = (m env).bind kRet := rfl
@[simp] theorem kRet_ok : kRet (d, e) = .ok (.ret d, e) := rfl
@[simp] theorem e_retN : mRetN env = .ok (.ret .non, env) := rfl
def kDrop : D × EnvD → Res (FlowD × EnvD) := fun (_, e) => .ok (.next, e)
@[simp] theorem e_drop : mDrop m env = (m env).bind kDrop := rfl
@[simp] theorem kDrop_ok : kDrop (d, e) = .ok (.next, e) := rfl
def kAsg (i : Nat) : D × EnvD → Res (FlowD × EnvD) := fun (d, e) => .ok (.next, e.set i (some d))
@[simp] theorem e_asg : mAsg i m env = (m env).bind (kAsg i) := rfl
@[simp] theorem kAsg_ok : kAsg i (d, e) = .ok (.next, e.set i (some d)) := rfl
def oFlow : Option EnvD → Res (FlowD × EnvD)
  | some e => .ok (.next, e)
  | none => .bad
def kAsgT (t : Tgt) : D × EnvD → Res (FlowD × EnvD) := fun (d, e) => oFlow (mTg t (frzQ d) e)
@[simp] theorem e_asgT {t : Tgt} : mAsgT t m env = (m env).bind (kAsgT t) := by
  unfold mAsgT
  refine bind_ext fun x => ?_
  obtain ⟨d, e⟩ := x
  show _ = oFlow (mTg t (frzQ d) e)
  dsimp only
  cases mTg t (frzQ d) e <;> rfl
@[simp] theorem kAsgT_ok {t : Tgt} : kAsgT t (d, e) = oFlow (mTg t (frzQ d) e) := rfl
@[simp] theorem oFlow_some : oFlow (some e) = .ok (.next, e) := rfl
def kPar (i j : Nat) : List Arg × EnvD → Res (FlowD × EnvD) := fun (xs, e) => match Arg.gets e xs with
  | some [d1, d2] => if fz d1 = true ∧ fz d2 = true then .ok (.next, (e.set i (some d1)).set j (some d2)) else .bad
  | _ => .bad
@[simp] theorem e_par : mPar i j mas env = (mas env).bind (kPar i j) := rfl
def pV (i j : Nat) (e : EnvD) : Option (List D) → Res (FlowD × EnvD)
  | some [d1, d2] => if fz d1 = true ∧ fz d2 = true then .ok (.next, (e.set i (some d1)).set j (some d2)) else .bad
  | _ => .bad
@[simp] theorem kPar_g {xs : List Arg} : kPar i j (xs, e) = pV i j e (Arg.gets e xs) := by
  unfold kPar pV; rfl
@[simp] theorem pV_ok : pV i j e (some [d1, d2]) = if fz d1 = true ∧ fz d2 = true then .ok (.next, (e.set i (some d1)).set j (some d2)) else .bad := rfl
theorem kPar_ok {xs : List Arg} (h : Arg.gets e xs = some [d1, d2]) (h1 : fz d1 = true) (h2 : fz d2 = true) : kPar i j (xs, e) = .ok (.next, (e.set i (some d1)).set j (some d2)) := by
  unfold kPar; simp only [h]; rw [if_pos ⟨h1, h2⟩]
def kFrz : D × EnvD → Res (Arg × EnvD) := fun (d, e) => .ok (.val (frzQ d), e)
@[simp] theorem e_frz : mFrz m env = (m env).bind kFrz := rfl
@[simp] theorem kFrz_ok : kFrz (d, e) = .ok (.val (frzQ d), e) := rfl
@[simp] theorem e_c : mC d env = .ok (d, env) := rfl
def vA (i : Nat) (env : EnvD) : Option (Option D) → Res (Arg × EnvD)
  | some (some _) => .ok (.var i, env)
  | _ => .bad
@[simp] theorem e_varA : mVarA i env = vA i env (env[i]?) := by
  unfold mVarA vA; rfl
@[simp] theorem vA_ok : vA i env (some (some d)) = .ok (.var i, env) := rfl
def vE (i : Nat) (env : EnvD) : Option (Option D) → Res (D × EnvD)
  | some (some d) => if fz d = true then .ok (d, env) else .ok (frz d, env.set i (some (frz d)))
  | _ => .bad
@[simp] theorem e_varE : mVarE i env = vE i env (env[i]?) := by
  unfold mVarE vE; rfl
@[simp] theorem vE_ok (h : fz d = true) : vE i env (some (some d)) = .ok (d, env) := by unfold vE; simp [h]
def vM (np i : Nat) (env : EnvD) : Option (Option D) → Res (D × EnvD)
  | some (some d) => if fz d = true then .ok (d, env) else if i < np then .ok (frz d, env.set i (some (frz d))) else .ok (d, env.set i none)
  | _ => .bad
@[simp] theorem e_varM : mVarM j i env = vM j i env (env[i]?) := by
  unfold mVarM vM; rfl
@[simp] theorem vM_ok (h : fz d = true) : vM j i env (some (some d)) = .ok (d, env) := by unfold vM; simp [h]
theorem vM_mv (h : fz d = false) (h2 : ¬ i < j) : vM j i env (some (some d)) = .ok (d, env.set i none) := by unfold vM; simp [h, h2]
@[simp] theorem get_val : Arg.get e (.val d) = some d := rfl
def gV : Option (Option D) → Option D
  | some (some d) => some d
  | _ => none
@[simp] theorem get_var : Arg.get e (.var i) = gV (e[i]?) := by
  show (match e[i]? with | some (some d) => some d | _ => none) = _
  unfold gV; rfl
@[simp] theorem gV_ok : gV (some (some d)) = some d := rfl
@[simp] theorem mLift_ok : mLift (some d) e = .ok (d, e) := rfl
@[simp] theorem mLift_no : mLift none e = .bad := rfl
def bV (g : D → D → Option D) (e : EnvD) : Option D → Option D → Res (D × EnvD)
  | some d1, some d2 => mLift (g d1 d2) e
  | _, _ => .bad
def kBin2 (g : D → D → Option D) (x : Arg) : Arg × EnvD → Res (D × EnvD) := fun (y, e) => bV g e (x.get e) (y.get e)
def kBin1 (g : D → D → Option D) (mb : EM Arg) : Arg × EnvD → Res (D × EnvD) := fun (x, e) => (mb e).bind (kBin2 g x)
@[simp] theorem e_bin {g : D → D → Option D} : mBin g ma mb env = (ma env).bind (kBin1 g mb) := by
  unfold mBin
  refine bind_ext fun x => ?_
  obtain ⟨x, e1⟩ := x
  show _ = (mb e1).bind (kBin2 g x)
  refine bind_ext fun y => ?_
  obtain ⟨y, e2⟩ := y
  show _ = bV g e2 (x.get e2) (y.get e2)
  dsimp only
  cases x.get e2 <;> cases y.get e2 <;> rfl
@[simp] theorem kBin1_ok {g : D → D → Option D} : kBin1 g mb (x, e) = (mb e).bind (kBin2 g x) := rfl
@[simp] theorem kBin2_ok {g : D → D → Option D} : kBin2 g x (y, e) = bV g e (x.get e) (y.get e) := rfl
@[simp] theorem bV_ok {g : D → D → Option D} : bV g e (some d1) (some d2) = mLift (g d1 d2) e := rfl
def uV (g : D → Option D) (e : EnvD) : Option D → Res (D × EnvD)
  | some d1 => mLift (g d1) e
  | _ => .bad
def kUn (g : D → Option D) : Arg × EnvD → Res (D × EnvD) := fun (x, e) => uV g e (x.get e)
@[simp] theorem e_un {g : D → Option D} : mUn g ma env = (ma env).bind (kUn g) := by
  unfold mUn
  refine bind_ext fun x => ?_
  obtain ⟨x, e1⟩ := x
  show _ = uV g e1 (x.get e1)
  dsimp only
  cases x.get e1 <;> rfl
@[simp] theorem kUn_ok {g : D → Option D} : kUn g (x, e) = uV g e (x.get e) := rfl
@[simp] theorem uV_ok {g : D → Option D} : uV g e (some d) = mLift (g d) e := rfl
def lV (g : List D → Option D) (e : EnvD) : Option (List D) → Res (D × EnvD)
  | some ds => mLift (g ds) e
  | _ => .bad
def kCB (g : List D → Option D) : List Arg × EnvD → Res (D × EnvD) := fun (xs, e) => lV g e (Arg.gets e xs)
@[simp] theorem e_cb {g : List D → Option D} : mCB g mas env = (mas env).bind (kCB g) := by
  unfold mCB
  refine bind_ext fun x => ?_
  obtain ⟨x, e1⟩ := x
  show _ = lV g e1 (Arg.gets e1 x)
  dsimp only
  cases Arg.gets e1 x <;> rfl
@[simp] theorem kCB_ok {g : List D → Option D} {xs : List Arg} : kCB g (xs, e) = lV g e (Arg.gets e xs) := rfl
@[simp] theorem lV_ok {g : List D → Option D} {ds : List D} : lV g e (some ds) = mLift (g ds) e := rfl
def oCons : Option D → Option (List D) → Option (List D)
  | some d, some ds => some (d :: ds)
  | _, _ => none
@[simp] theorem gets_nil : Arg.gets e [] = some [] := rfl
@[simp] theorem gets_cons {xs : List Arg} : Arg.gets e (x :: xs) = oCons (x.get e) (Arg.gets e xs) := by
  unfold oCons
  rw [Arg.gets] <;> rfl
@[simp] theorem oCons_ok {ds : List D} : oCons (some d) (some ds) = some (d :: ds) := rfl
def kA2 (x : Arg) : List Arg × EnvD → Res (List Arg × EnvD) := fun (xs, e) => .ok (x :: xs, e)
def kA1 (ms : List (EM Arg)) : Arg × EnvD → Res (List Arg × EnvD) := fun (x, e) => (mArgs ms e).bind (kA2 x)
@[simp] theorem e_args0 : mArgs [] env = .ok ([], env) := rfl
@[simp] theorem e_args {ms : List (EM Arg)} : mArgs (ma :: ms) env = (ma env).bind (kA1 ms) := rfl
@[simp] theorem kA1_ok {ms : List (EM Arg)} : kA1 ms (x, e) = (mArgs ms e).bind (kA2 x) := rfl
@[simp] theorem kA2_ok {xs : List Arg} : kA2 x (xs, e) = .ok (x :: xs, e) := rfl
/-! tests -/
@[simp] theorem bool_bl : D.bool (.bl b) = some b := rfl
@[simp] theorem mLiftT_ok : mLiftT (some b) e = .ok (b, e) := rfl
def kTB : D × EnvD → Res (Bool × EnvD) := fun (d, e) => mLiftT d.bool e
@[simp] theorem e_tb : mTB m env = (m env).bind kTB := rfl
@[simp] theorem kTB_ok : kTB (.bl b, e) = .ok (b, e) := rfl
def kNotT : Bool × EnvD → Res (Bool × EnvD) := fun (c, e) => .ok (!c, e)
@[simp] theorem e_notT : mNotT mt env = (mt env).bind kNotT := rfl
@[simp] theorem kNotT_ok : kNotT (b, e) = .ok (!b, e) := rfl
def kAndT (n : EM Bool) : Bool × EnvD → Res (Bool × EnvD) := fun (c, e) => if c = true then n e else .ok (false, e)
def kOrT (n : EM Bool) : Bool × EnvD → Res (Bool × EnvD) := fun (c, e) => if c = true then .ok (true, e) else n e
@[simp] theorem e_andT : mAndT mt nt env = (mt env).bind (kAndT nt) := rfl
@[simp] theorem e_orT : mOrT mt nt env = (mt env).bind (kOrT nt) := rfl
@[simp] theorem kAndT_t : kAndT nt (true, e) = nt e := rfl
@[simp] theorem kAndT_f : kAndT nt (false, e) = .ok (false, e) := rfl
@[simp] theorem kOrT_t : kOrT nt (true, e) = .ok (true, e) := rfl
@[simp] theorem kOrT_f : kOrT nt (false, e) = nt e := rfl
def aV (n : EM D) (e : EnvD) : Option Bool → Res (D × EnvD)
  | some true => n e
  | some false => .ok (.bl false, e)
  | none => .bad
def oV (n : EM D) (e : EnvD) : Option Bool → Res (D × EnvD)
  | some true => .ok (.bl true, e)
  | some false => n e
  | none => .bad
def kAndV (n : EM D) : D × EnvD → Res (D × EnvD) := fun (c, e) => aV n e c.bool
def kOrV (n : EM D) : D × EnvD → Res (D × EnvD) := fun (c, e) => oV n e c.bool
@[simp] theorem e_andV : mAndV m n env = (m env).bind (kAndV n) := by
  unfold mAndV
  refine bind_ext fun x => ?_
  obtain ⟨x, e1⟩ := x
  show _ = aV n e1 x.bool
  dsimp only
  rcases x.bool with _ | _ | _ <;> rfl
@[simp] theorem e_orV : mOrV m n env = (m env).bind (kOrV n) := by
  unfold mOrV
  refine bind_ext fun x => ?_
  obtain ⟨x, e1⟩ := x
  show _ = oV n e1 x.bool
  dsimp only
  rcases x.bool with _ | _ | _ <;> rfl
@[simp] theorem kAndV_t : kAndV n (.bl true, e) = n e := rfl
@[simp] theorem kAndV_f : kAndV n (.bl false, e) = .ok (.bl false, e) := rfl
@[simp] theorem kOrV_t : kOrV n (.bl true, e) = .ok (.bl true, e) := rfl
@[simp] theorem kOrV_f : kOrV n (.bl false, e) = n e := rfl
def kNotV : D × EnvD → Res (D × EnvD) := fun (c, e) => mLift (c.bool.map fun b => .bl (!b)) e
@[simp] theorem e_notV : mNotV m env = (m env).bind kNotV := by
  unfold mNotV
  refine bind_ext fun x => ?_
  obtain ⟨x, e1⟩ := x
  show _ = mLift (x.bool.map fun b => .bl (!b)) e1
  dsimp only
  cases x.bool <;> rfl
@[simp] theorem kNotV_ok : kNotV (.bl b, e) = .ok (.bl (!b), e) := rfl
def tV (e : EnvD) : Option D → Res (Bool × EnvD)
  | some d => mLiftT (truD d) e
  | none => .bad
def kTru : Arg × EnvD → Res (Bool × EnvD) := fun (x, e) => tV e (x.get e)
@[simp] theorem e_tru : mTru ma env = (ma env).bind kTru := by
  unfold mTru
  refine bind_ext fun x => ?_
  obtain ⟨x, e1⟩ := x
  show _ = tV e1 (x.get e1)
  dsimp only
  cases x.get e1 <;> rfl
@[simp] theorem kTru_ok : kTru (x, e) = tV e (x.get e) := rfl
@[simp] theorem tV_ok : tV e (some d) = mLiftT (truD d) e := rfl
@[simp] theorem e_yes : mYes env = .ok (true, env) := rfl
/-! displays -/
def dV (f : List D → D) (e : EnvD) : Option (List D) → Res (D × EnvD)
  | some ds => if fzL ds = true ∧ ds.length ≤ 1000 then .ok (f ds, e) else .bad
  | none => .bad
def kDsp (f : List D → D) : List Arg × EnvD → Res (D × EnvD) := fun (xs, e) => dV f e (Arg.gets e xs)
@[simp] theorem e_tup : mTup mas env = (mas env).bind (kDsp .tup) := by
  unfold mTup
  refine bind_ext fun x => ?_
  obtain ⟨x, e1⟩ := x
  show _ = dV .tup e1 (Arg.gets e1 x)
  dsimp only
  cases Arg.gets e1 x <;> rfl
@[simp] theorem e_lst : mLst mas env = (mas env).bind (kDsp (.lst true)) := by
  unfold mLst
  refine bind_ext fun x => ?_
  obtain ⟨x, e1⟩ := x
  show _ = dV (.lst true) e1 (Arg.gets e1 x)
  dsimp only
  cases Arg.gets e1 x <;> rfl
@[simp] theorem kDsp_ok {f : List D → D} {xs : List Arg} : kDsp f (xs, e) = dV f e (Arg.gets e xs) := rfl
@[simp] theorem dV_ok {f : List D → D} {ds : List D} : dV f e (some ds) = if fzL ds = true ∧ ds.length ≤ 1000 then .ok (f ds, e) else .bad := rfl
@[simp] theorem e_dic0 : mDic0 env = .ok (.dic true [] [], env) := rfl
def kCall (g : List D → Res (D × EnvD)) : List Arg × EnvD → Res (D × EnvD) := fun (xs, e) => mCallR g xs e
@[simp] theorem e_call {g : List D → Res (D × EnvD)} : mCall g mas env = (mas env).bind (kCall g) := rfl
def cV (xs : List Arg) (ds : List D) (e : EnvD) : Res (D × EnvD) → Res (D × EnvD)
  | .ok (d, outs) => .ok (d, putBack xs ds outs e)
  | .exc x outs => .exc x (putBack xs ds outs e)
  | .bad => .bad
theorem kCall_ok {g : List D → Res (D × EnvD)} {xs : List Arg} {ds : List D} (h : Arg.gets e xs = some ds) (h2 : (ownVars xs ds).Nodup) : kCall g (xs, e) = cV xs ds e (g ds) := by
  show mCallR g xs e = _
  unfold mCallR cV
  rw [h]; dsimp only; rw [if_pos h2] <;> rfl
@[simp] theorem cV_ok {xs : List Arg} {ds : List D} {outs : EnvD} : cV xs ds e (.ok (d, outs)) = .ok (d, putBack xs ds outs e) := rfl
@[simp] theorem cV_exc {xs : List Arg} {ds : List D} {outs : EnvD} {z : Exc} : cV xs ds e (.exc z outs) = .exc z (putBack xs ds outs e) := rfl
def gCall (g : List D → Res (D × EnvD)) (xs : List Arg) (e : EnvD) : Option (List D) → Res (D × EnvD)
  | some ds => if (ownVars xs ds).Nodup then cV xs ds e (g ds) else .bad
  | none => .bad
@[simp] theorem kCall_g {g : List D → Res (D × EnvD)} {xs : List Arg} : kCall g (xs, e) = gCall g xs e (Arg.gets e xs) := by
  show mCallR g xs e = _
  unfold mCallR gCall
  cases Arg.gets e xs with
  | none => rfl
  | some ds =>
    dsimp only
    by_cases h : (ownVars xs ds).Nodup
    · rw [if_pos h, if_pos h]; rfl
    · rw [if_neg h, if_neg h]
@[simp] theorem gCall_ok {g : List D → Res (D × EnvD)} {xs : List Arg} {ds : List D} : gCall g xs e (some ds) = if (ownVars xs ds).Nodup then cV xs ds e (g ds) else .bad := rfl
def iV (k : TyK) (e : EnvD) : Option D → Res (D × EnvD)
  | some d => mLift ((isK k d).map .bl) e
  | none => .bad
def kIsi (k : TyK) : Arg × EnvD → Res (D × EnvD) := fun (x, e) => iV k e (x.get e)
@[simp] theorem e_isi {k : TyK} : mIsi k ma env = (ma env).bind (kIsi k) := by
  unfold mIsi
  refine bind_ext fun x => ?_
  obtain ⟨x, e1⟩ := x
  show _ = iV k e1 (x.get e1)
  dsimp only
  cases x.get e1 <;> rfl
@[simp] theorem kIsi_ok {k : TyK} : kIsi k (x, e) = iV k e (x.get e) := rfl
@[simp] theorem iV_ok {k : TyK} : iV k e (some d) = mLift ((isK k d).map .bl) e := rfl
/-! chains -/
def chV3 (g' : D → D → Option D) (y : Arg) : Arg × EnvD → Res (D × EnvD) := fun (z, e) => bV g' e (y.get e) (z.get e)
def chV2 (g' : D → D → Option D) (mc : EM Arg) (y : Arg) (e : EnvD) : Option Bool → Res (D × EnvD)
  | some true => (mc e).bind (chV3 g' y)
  | some false => .ok (.bl false, e)
  | none => .bad
def chV1 (g g' : D → D → Option D) (mc : EM Arg) (y : Arg) (e : EnvD) : Option D → Option D → Res (D × EnvD)
  | some d1, some d2 => chV2 g' mc y e ((g d1 d2).bind D.bool)
  | _, _ => .bad
def kCh2 (g g' : D → D → Option D) (mc : EM Arg) (x : Arg) : Arg × EnvD → Res (D × EnvD) := fun (y, e) => chV1 g g' mc y e (x.get e) (y.get e)
def kCh1 (g g' : D → D → Option D) (mb mc : EM Arg) : Arg × EnvD → Res (D × EnvD) := fun (x, e) => (mb e).bind (kCh2 g g' mc x)
@[simp] theorem e_chain {g g' : D → D → Option D} : mChain g g' ma mb mc env = (ma env).bind (kCh1 g g' mb mc) := by
  unfold mChain
  refine bind_ext fun x => ?_
  obtain ⟨x, e1⟩ := x
  show _ = (mb e1).bind (kCh2 g g' mc x)
  refine bind_ext fun y => ?_
  obtain ⟨y, e2⟩ := y
  show _ = chV1 g g' mc y e2 (x.get e2) (y.get e2)
  dsimp only
  cases x.get e2 with
  | none => rfl
  | some d1 =>
    cases y.get e2 with
    | none => rfl
    | some d2 =>
      show _ = chV2 g' mc y e2 ((g d1 d2).bind D.bool)
      dsimp only
      rcases (g d1 d2).bind D.bool with _ | _ | _
      · rfl
      · rfl
      · show (mc e2).bind _ = (mc e2).bind (chV3 g' y)
        refine bind_ext fun z => ?_
        obtain ⟨z, e3⟩ := z
        show _ = bV g' e3 (y.get e3) (z.get e3)
        dsimp only
        cases y.get e3 <;> cases z.get e3 <;> rfl
@[simp] theorem kCh1_ok {g g' : D → D → Option D} : kCh1 g g' mb mc (x, e) = (mb e).bind (kCh2 g g' mc x) := rfl
@[simp] theorem kCh2_ok {g g' : D → D → Option D} : kCh2 g g' mc x (y, e) = chV1 g g' mc y e (x.get e) (y.get e) := rfl
@[simp] theorem chV1_ok {g g' : D → D → Option D} : chV1 g g' mc y e (some d1) (some d2) = chV2 g' mc y e ((g d1 d2).bind D.bool) := rfl
@[simp] theorem chV2_t {g' : D → D → Option D} : chV2 g' mc y e (some true) = (mc e).bind (chV3 g' y) := rfl
@[simp] theorem chV2_f {g' : D → D → Option D} : chV2 g' mc y e (some false) = .ok (.bl false, e) := rfl
@[simp] theorem chV3_ok {g' : D → D → Option D} : chV3 g' y (x, e) = bV g' e (y.get e) (x.get e) := rfl
/-! slices -/
def kSl3 (x : Arg) (lo : Option Int) : Option Int × EnvD → Res (D × EnvD) := fun (hi, e) => uV (fun d => slD d lo hi) e (x.get e)
def kSl2 (mh : EM (Option Int)) (x : Arg) : Option Int × EnvD → Res (D × EnvD) := fun (lo, e) => (mh e).bind (kSl3 x lo)
def kSl1 (ml mh : EM (Option Int)) : Arg × EnvD → Res (D × EnvD) := fun (x, e) => (ml e).bind (kSl2 mh x)
variable {ml mh : EM (Option Int)} {lo hi : Option Int}
@[simp] theorem e_sl : mSl ma ml mh env = (ma env).bind (kSl1 ml mh) := by
  unfold mSl
  refine bind_ext fun x => ?_
  obtain ⟨x, e1⟩ := x
  show _ = (ml e1).bind (kSl2 mh x)
  refine bind_ext fun y => ?_
  obtain ⟨y, e2⟩ := y
  show _ = (mh e2).bind (kSl3 x y)
  refine bind_ext fun z => ?_
  obtain ⟨z, e3⟩ := z
  show _ = uV (fun d => slD d y z) e3 (x.get e3)
  dsimp only
  cases x.get e3 <;> rfl
@[simp] theorem kSl1_ok : kSl1 ml mh (x, e) = (ml e).bind (kSl2 mh x) := rfl
@[simp] theorem kSl2_ok : kSl2 mh x (lo, e) = (mh e).bind (kSl3 x lo) := rfl
@[simp] theorem kSl3_ok : kSl3 x lo (hi, e) = uV (fun d => slD d lo hi) e (x.get e) := rfl
@[simp] theorem e_noP : mNoP env = .ok (none, env) := rfl
def kPart : D × EnvD → Res (Option Int × EnvD) := fun (d, e) => match d with
  | .int i => .ok (some i, e)
  | _ => .bad
@[simp] theorem e_part : mPart m env = (m env).bind kPart := rfl
@[simp] theorem kPart_ok {z : Int} : kPart (.int z, e) = .ok (some z, e) := rfl
/-! stores -/
def sV (j : Nat) (y : D) (e : EnvD) : Option (Option D) → Option D → Res (FlowD × EnvD)
  | some (some d), some i => oFlow ((setQ d i (frzQ y)).map fun d' => e.set j (some d'))
  | _, _ => .bad
def kSet2 (j : Nat) (y : D) : Arg × EnvD → Res (FlowD × EnvD) := fun (x, e) => sV j y e (e[j]?) (x.get e)
def kSetV (j : Nat) (mi : EM D) (y : D) (e : EnvD) : Option (Option D) → Res (FlowD × EnvD)
  | some (some _) => (mFrz mi e).bind (kSet2 j y)
  | _ => .bad
def kSet1 (j : Nat) (mi : EM D) : D × EnvD → Res (FlowD × EnvD) := fun (y, e) => kSetV j mi y e (e[j]?)
@[simp] theorem e_set : mSet j m n env = (n env).bind (kSet1 j m) := by
  unfold mSet
  refine bind_ext fun x => ?_
  obtain ⟨y, e1⟩ := x
  show _ = kSetV j m y e1 (e1[j]?)
  dsimp only
  rcases e1[j]? with _ | _ | d
  · rfl
  · rfl
  · show (mFrz m e1).bind _ = (mFrz m e1).bind (kSet2 j y)
    refine bind_ext fun z => ?_
    obtain ⟨z, e2⟩ := z
    show _ = sV j y e2 (e2[j]?) (z.get e2)
    dsimp only
    rcases e2[j]? with _ | _ | d'
    · rfl
    · rfl
    · cases z.get e2 with
      | none => rfl
      | some i =>
        show _ = oFlow ((setQ d' i (frzQ y)).map fun d'' => e2.set j (some d''))
        dsimp only
        cases setQ d' i (frzQ y) <;> rfl
@[simp] theorem kSet1_ok : kSet1 j m (d, e) = kSetV j m d e (e[j]?) := rfl
@[simp] theorem kSetV_ok : kSetV j m d1 e (some (some d)) = (mFrz m e).bind (kSet2 j d1) := rfl
@[simp] theorem kSet2_ok : kSet2 j d (x, e) = sV j d e (e[j]?) (x.get e) := rfl
@[simp] theorem sV_ok {i : D} : sV j d1 e (some (some d)) (some i) = oFlow ((setQ d i (frzQ d1)).map fun d' => e.set j (some d')) := rfl
/-! loops -/
def kFor (t : Tgt) (body : EM FlowD) : List D × EnvD → Res (FlowD × EnvD) := fun (ds, e) => if fzL ds = true then loopF t body ds e else .bad
@[simp] theorem e_for {mi : EM (List D)} {t : Tgt} : mFor mi t ms env = (mi env).bind (kFor t ms) := rfl
theorem kFor_ok {ds : List D} {t : Tgt} (h : fzL ds = true) : kFor t ms (ds, e) = loopF t ms ds e := by
  show (if fzL ds = true then _ else _) = _
  rw [if_pos h]
@[simp] theorem e_while {fuel : EnvD → Nat} : mWhile fuel mt ms env = whileF mt ms (fuel env) env := rfl
def rV (f : List D → Option (List D)) (e : EnvD) : Option (List D) → Res (List D × EnvD)
  | some ds => match f ds with
    | some l => .ok (l, e)
    | none => .bad
  | none => .bad
def kIt (f : List D → Option (List D)) : List Arg × EnvD → Res (List D × EnvD) := fun (xs, e) => rV f e (Arg.gets e xs)
@[simp] theorem e_it {f : List D → Option (List D)} : mIt mas f env = (mas env).bind (kIt f) := by
  unfold mIt
  refine bind_ext fun x => ?_
  obtain ⟨x, e1⟩ := x
  show _ = rV f e1 (Arg.gets e1 x)
  dsimp only
  cases Arg.gets e1 x <;> rfl
@[simp] theorem kIt_ok {f : List D → Option (List D)} {xs : List Arg} : kIt f (xs, e) = rV f e (Arg.gets e xs) := rfl
theorem rV_ok {f : List D → Option (List D)} {ds l : List D} (h : f ds = some l) : rV f e (some ds) = .ok (l, e) := by
  show (match f ds with | some l => _ | none => _) = _
  rw [h]
def sqV (e : EnvD) : Option D → Res (List D × EnvD)
  | some d => match seqI [d] with
    | some l => .ok (l, e)
    | none => .bad
  | none => .bad
def kIt1 : Arg × EnvD → Res (List D × EnvD) := fun (x, e) => sqV e (x.get e)
@[simp] theorem e_it1 : mIt1 ma env = (ma env).bind kIt1 := by
  unfold mIt1
  refine bind_ext fun x => ?_
  obtain ⟨x, e1⟩ := x
  show _ = sqV e1 (x.get e1)
  dsimp only
  cases x.get e1 <;> rfl
@[simp] theorem kIt1_ok : kIt1 (x, e) = sqV e (x.get e) := rfl
theorem sqV_ok {l : List D} (h : seqI [d] = some l) : sqV e (some d) = .ok (l, e) := by
  show (match seqI [d] with | some l => _ | none => _) = _
  rw [h]
def kLc2 (e : EnvD) (own : List Nat) : List D × EnvD → Res (D × EnvD) := fun (l, e') => .ok (.lst true l, restE e e' own)
def kLc (t : Tgt) (cond : EM Bool) (elt : EM D) (own : List Nat) : List D × EnvD → Res (D × EnvD) := fun (ds, e) => if fzL ds = true ∧ ds.length ≤ 1000 then (loopL t cond elt own ds [] e).bind (kLc2 e own) else .bad
@[simp] theorem e_lc {mi : EM (List D)} {t : Tgt} {own : List Nat} : mLc mi t mt m own env = (mi env).bind (kLc t mt m own) := rfl
theorem kLc_ok {ds : List D} {t : Tgt} {own : List Nat} (h1 : fzL ds = true) (h2 : ds.length ≤ 1000) : kLc t mt m own (ds, e) = (loopL t mt m own ds [] e).bind (kLc2 e own) := by
  show (if fzL ds = true ∧ ds.length ≤ 1000 then _ else _) = _
  rw [if_pos ⟨h1, h2⟩]
@[simp] theorem kLc2_ok {e' : EnvD} {own : List Nat} {l : List D} : kLc2 e own (l, e') = .ok (.lst true l, restE e e' own) := rfl
@[simp] theorem e_exc {s : Str} : mExc s env = .exc ⟨s, [], []⟩ env := rfl
def kTry (yes no : List Str) (suite : EM FlowD) : Res (FlowD × EnvD) → Res (FlowD × EnvD)
  | .exc x e => if x.cls ∈ yes then calmR (suite e) else if x.cls ∈ no then .exc x e else .bad
  | r => r
@[simp] theorem e_try {yes no : List Str} : mTry yes no ms ns env = kTry yes no ns (ms env) := by
  unfold mTry kTry
  cases ms env <;> rfl
@[simp] theorem kTry_ok {yes no : List Str} {f : FlowD × EnvD} : kTry yes no ns (.ok f) = .ok f := rfl
@[simp] theorem kTry_exc {yes no : List Str} {z : Exc} : kTry yes no ns (.exc z e) = if z.cls ∈ yes then calmR (ns e) else if z.cls ∈ no then .exc z e else .bad := rfl
@[simp] theorem calmR_ok {f : FlowD × EnvD} : calmR (.ok f) = .ok f := rfl
def kWh2 (c : EM Bool) (body : EM FlowD) (n : Nat) : FlowD × EnvD → Res (FlowD × EnvD) := fun (f, e2) => match f with
  | .next => whileF c body n e2
  | .cont => whileF c body n e2
  | .brk => .ok (.next, e2)
  | .ret d => .ok (.ret d, e2)
def kWh (c : EM Bool) (body : EM FlowD) (n : Nat) : Bool × EnvD → Res (FlowD × EnvD) := fun (b, e1) => if b = true then (body e1).bind (kWh2 c body n) else .ok (.next, e1)
theorem e_wh {n : Nat} : whileF mt ms (n + 1) env = (mt env).bind (kWh mt ms n) := rfl
@[simp] theorem kWh_t {n : Nat} : kWh mt ms n (true, e) = (ms e).bind (kWh2 mt ms n) := rfl
@[simp] theorem kWh_f {n : Nat} : kWh mt ms n (false, e) = .ok (.next, e) := rfl
@[simp] theorem kWh2_next {n : Nat} : kWh2 mt ms n (.next, e) = whileF mt ms n e := rfl
@[simp] theorem kWh2_cont {n : Nat} : kWh2 mt ms n (.cont, e) = whileF mt ms n e := rfl
@[simp] theorem kWh2_brk {n : Nat} : kWh2 mt ms n (.brk, e) = .ok (.next, e) := rfl
@[simp] theorem kWh2_ret {n : Nat} : kWh2 mt ms n (.ret d, e) = .ok (.ret d, e) := rfl
def kLp (t : Tgt) (body : EM FlowD) (ds : List D) : FlowD × EnvD → Res (FlowD × EnvD) := fun (f, e2) => match f with
  | .next => loopF t body ds e2
  | .cont => loopF t body ds e2
  | .brk => .ok (.next, e2)
  | .ret d => .ok (.ret d, e2)
def lpV (t : Tgt) (body : EM FlowD) (ds : List D) : Option EnvD → Res (FlowD × EnvD)
  | some e1 => (body e1).bind (kLp t body ds)
  | none => .bad
theorem e_lp0 {t : Tgt} : loopF t ms [] e = .ok (.next, e) := rfl
theorem e_lp {t : Tgt} {ds : List D} : loopF t ms (d :: ds) e = lpV t ms ds (mTg t d e) := by
  rw [loopF]
  cases mTg t d e <;> rfl
@[simp] theorem lpV_ok {t : Tgt} {ds : List D} : lpV t ms ds (some e) = (ms e).bind (kLp t ms ds) := rfl
@[simp] theorem kLp_next {t : Tgt} {ds : List D} : kLp t ms ds (.next, e) = loopF t ms ds e := rfl
@[simp] theorem kLp_cont {t : Tgt} {ds : List D} : kLp t ms ds (.cont, e) = loopF t ms ds e := rfl
@[simp] theorem kLp_brk {t : Tgt} {ds : List D} : kLp t ms ds (.brk, e) = .ok (.next, e) := rfl
@[simp] theorem kLp_ret {t : Tgt} {ds : List D} : kLp t ms ds (.ret d, e) = .ok (.ret d, e) := rfl
@[simp] theorem tg_nm : mTg (.nm i) d e = some (e.set i (some d)) := by simp [mTg]
/-! data -/
@[simp] theorem fz_non : fz .non = true := by simp [fz]
@[simp] theorem fz_bl : fz (.bl b) = true := by simp [fz]
@[simp] theorem fz_int {z : Int} : fz (.int z) = true := by simp [fz]
@[simp] theorem fz_str {z : Str} : fz (.str z) = true := by simp [fz]
@[simp] theorem fz_scr {z : List Int} : fz (.scr z) = true := by simp [fz]
@[simp] theorem fz_tup {l : List D} : fz (.tup l) = fzL l := by simp [fz]
@[simp] theorem fz_lst {l : List D} : fz (.lst b l) = (!b && fzL l) := by simp [fz]
@[simp] theorem fz_dic {k l : List D} : fz (.dic b k l) = (!b && (fzL k && fzL l)) := by simp [fz]
@[simp] theorem fzL_nil : fzL [] = true := by simp [fzL]
@[simp] theorem fzL_cons {l : List D} : fzL (d :: l) = (fz d && fzL l) := by simp [fzL]
theorem frzQ_fz (h : fz d = true) : frzQ d = d := by unfold frzQ; rw [if_pos h]
@[simp] theorem frzQ_non : frzQ .non = .non := rfl
@[simp] theorem frzQ_bl : frzQ (.bl b) = .bl b := rfl
@[simp] theorem frzQ_int {z : Int} : frzQ (.int z) = .int z := rfl
@[simp] theorem frzQ_str {z : Str} : frzQ (.str z) = .str z := rfl
@[simp] theorem frzQ_scr {z : List Int} : frzQ (.scr z) = .scr z := rfl
theorem frz_lstt {l : List D} (h : fzL l = true) : frzQ (.lst true l) = .lst false l := by unfold frzQ; simp [frz, frzL_fz l h]
end
end Mi
namespace Mi
open PySem PySem.Spec PyProof.Rows L2

/-! ### several except clauses -/
abbrev Hd := List Str × List Str × EM FlowD
def hdsM : List Hd → Exc → EnvD → Res (FlowD × EnvD)
  | [], x, e => .exc x e
  | (y, n, s) :: r, x, e => if x.cls ∈ y then calmR (s e) else if x.cls ∈ n then hdsM r x e else .bad
def mTryM (hs : List Hd) (body : EM FlowD) : EM FlowD := fun env => match body env with
  | .exc x e => hdsM hs x e
  | r => r
inductive HdM (X : Cx) (G : Gm) : List ExceptHandler → List Hd → List (Value × (Addr → Value → Option Addr → TS)) → Prop
  | nil : HdM X G [] [] []
  | cons {x : Str} {c : Value} {b0 : Stmt} {suite : List Stmt} {np pos' : Pos} {hds : List ExceptHandler} {hs : List Hd} {l : List (Value × (Addr → Value → Option Addr → TS))} {yes no : List Str} {ns : EM FlowD} (hc : Names X x c)
      (hy : ∀ n ∈ yes, ∀ u, G.C.mg n = some u → PySem.W.exmOne G.C.K u c = some true) (hn : ∀ n ∈ no, ∀ u, G.C.mg n = some u → PySem.W.exmOne G.C.K u c = some false)
      (hsu : ∀ (a : Addr) (pn : List (Addr × Obj)), St0 (X.suite a pn) G → PSs (X.suite a pn) (b0 :: suite) (tS G W0 ns)) (r : HdM X G hds hs l) :
      HdM X G (.ExceptHandler (some (.Name x np)) none (b0 :: suite) pos' :: hds) ((yes, no, ns) :: hs) ((c, fun _ _ _ => tS G W0 ns) :: l)
theorem HdM.hds {X : Cx} {G : Gm} {W : WX} {lv : Nat} (s : Go X G W lv) : ∀ {hds : List ExceptHandler} {hs : List Hd} {l : List (Value × (Addr → Value → Option Addr → TS))}, HdM X G hds hs l → HdsOk X hds l := fun h => by
  induction h with
  | nil => exact .nil
  | cons hc hy hn hsu r ih => exact .cons hc (fun a oe cls d pn _ _ => hsu a ((a, oe) :: pn) (s.suite a _)) ih
theorem calm_post {G : Gm} {W W' : WX} {D : Ends} {b : Wd} {r : Res (FlowD × EnvD)} (h : PostS G W D b (calmR r)) : PostS G W' D b r := by
  cases r with
  | bad => exact (show False from h).elim
  | exc x e => exact (show False from h).elim
  | ok fe => obtain ⟨f, e⟩ := fe; cases f <;> exact h
theorem HdM.many {X : Cx} {G : Gm} {W : WX} {D : Ends} {lv : Nat} (s : Go X G W lv) {x : Exc} {e : EnvD} {b : Wd} {σ : L2.St} {cls : Value} {dd : Option Addr} (rel : RelE G b σ e) (er : ExcRep G.C b x cls dd) :
    ∀ {hds : List ExceptHandler} {hs : List Hd} {l : List (Value × (Addr → Value → Option Addr → TS))}, HdM X G hds hs l → PostS G W D b (hdsM hs x e) → wMany X.K W D l cls dd σ b.H := fun h => by
  induction h with
  | nil => exact fun p => p b σ cls dd (Step.refl b) rel er
  | @cons x' c b0 suite np pos' hds hs l yes no ns hc hy hn hsu r ih =>
    intro p
    unfold hdsM at p
    by_cases h1 : x.cls ∈ yes
    · rw [if_pos h1] at p
      exact ⟨true, by rw [s.k]; exact hy _ h1 _ er.1, fun _ u _ => ⟨b, e, rfl, rel, calm_post p⟩, fun z => Bool.noConfusion z⟩
    · rw [if_neg h1] at p
      by_cases h2 : x.cls ∈ no
      · rw [if_pos h2] at p
        exact ⟨false, by rw [s.k]; exact hn _ h2 _ er.1, fun z => Bool.noConfusion z, fun _ => ih p⟩
      · rw [if_neg h2] at p
        exact (show False from p).elim
theorem rs_tryM {X : Cx} {G : Gm} {W : WX} {lv : Nat} {pos : Pos} {body : List Stmt} {h0 : ExceptHandler} {hds : List ExceptHandler} {hs : List Hd} {l : List (Value × (Addr → Value → Option Addr → TS))} {ms : EM FlowD} (s : Go X G W lv) (hst : X.stack = X.env :: X.outer) (hf : X.env.frame = some X.env.locals)
    (hb : ∀ (W' : WX) (pn : List (Addr × Obj)) (xe : Value → Shared → Prop), Go (X.tr pn xe) G W' lv → PSs (X.tr pn xe) body (tS G W' ms)) (hh : HdM X G (h0 :: hds) hs l) :
    PS X (.Try body (h0 :: hds) [] [] pos) (tS G W (mTryM hs ms)) := by
  refine (ps_try_many hst hf s.tk (fun W' pn xe tk pw => hb W' pn xe (s.tr tk pw)) (hh.hds s)).weak fun D σ H q => ?_
  obtain ⟨a, env, rfl, rel, post⟩ := q
  refine ⟨a, env, rfl, rel, ?_⟩
  unfold mTryM at post
  cases hm : ms env with
  | bad => rw [hm] at post; exact post
  | ok fe =>
    obtain ⟨f, e⟩ := fe
    rw [hm] at post
    cases f <;> exact post
  | exc y e =>
    rw [hm] at post
    exact fun b σ' cls dd st r er => HdM.many s r er hh (PostS.step st post)
def kTryM (hs : List Hd) : Res (FlowD × EnvD) → Res (FlowD × EnvD)
  | .exc x e => hdsM hs x e
  | r => r
section
variable {env e : EnvD} {ms : EM FlowD} {hs : List Hd}
@[simp] theorem e_tryM : mTryM hs ms env = kTryM hs (ms env) := by
  unfold mTryM kTryM
  cases ms env <;> rfl
@[simp] theorem kTryM_ok {f : FlowD × EnvD} : kTryM hs (.ok f) = .ok f := rfl
@[simp] theorem kTryM_exc {z : Exc} : kTryM hs (.exc z e) = hdsM hs z e := rfl
end
end Mi
namespace Mi
open PySem PySem.Spec PyProof.Rows L2
def yes_NoNumber : List Str := ["NoNumber"]
def no_NoNumber : List Str := ["NoWorld"]
def yes_NoWorld : List Str := ["NoWorld"]
def no_NoWorld : List Str := ["NoNumber"]
def m__law_deck : EM FlowD :=
  mRet (mLst (mArgs [mFrz (mLc (mIt1 (mFrz (mSl (mVarA 0) (mNoP) (mPart (mC (.int 63)))))) (.nm 1) (mYes) (mCB intD (mArgs [mVarA 1])) [1]), mFrz (mC (.int 0)), mFrz (mC (.int 0)), mFrz (mC (.int 0))]))
def g__law_deck : List D → Res (D × EnvD) := runD 1 2 [0] m__law_deck
def m__law_pick : EM FlowD :=
  mSeq (mSet 0 (mC (.int 3)) (mBin addD (mFrz (mBin ixD (mVarA 0) (mFrz (mC (.int 3))))) (mFrz (mC (.int 1)))))
  (mSeq (mIfS (mTB (mBin gtD (mFrz (mBin ixD (mVarA 0) (mFrz (mC (.int 2))))) (mFrz (mC (.int 0))))) (mSeq (mAsg 2 (mBin modD (mFrz (mCB intD (mArgs [mFrz (mBin ixD (mVarA 0) (mFrz (mC (.int 2))))]))) (mVarA 1)))
  (mSeq (mSet 0 (mC (.int 2)) (mBin fdivD (mFrz (mCB intD (mArgs [mFrz (mBin ixD (mVarA 0) (mFrz (mC (.int 2))))]))) (mVarA 1)))
  (mRet (mVarM 2 2)))) (mNext))
  (mSeq (mAsg 3 (mBin ixD (mVarA 0) (mFrz (mC (.int 0)))))
  (mSeq (mAsg 4 (mC (.int 0)))
  (mSeq (mIfS (mTB (mBin gtD (mFrz (mCB lenD (mArgs [mVarA 3]))) (mFrz (mC (.int 0))))) (mAsg 4 (mBin ixD (mVarA 3) (mFrz (mBin modD (mFrz (mCB intD (mArgs [mFrz (mBin ixD (mVarA 0) (mFrz (mC (.int 1))))]))) (mFrz (mCB lenD (mArgs [mVarA 3]))))))) (mNext))
  (mSeq (mSet 0 (mC (.int 1)) (mBin addD (mFrz (mBin ixD (mVarA 0) (mFrz (mC (.int 1))))) (mFrz (mC (.int 1)))))
  (mSeq (mIfS (mAndT (mTB (mBin geD (mVarA 4) (mFrz (mBin powD (mFrz (mC (.int 10))) (mFrz (mC (.int 18))))))) (mTB (mBin leD (mFrz (mBin ixD (mVarA 0) (mFrz (mC (.int 1))))) (mFrz (mCB lenD (mArgs [mVarA 3])))))) (mSeq (mSet 0 (mC (.int 2)) (mBin fdivD (mFrz (mCB intD (mArgs [mVarA 4]))) (mVarA 1)))
  (mRet (mBin modD (mFrz (mCB intD (mArgs [mVarA 4]))) (mVarA 1)))) (mNext))
  (mSeq (mAsg 5 (mBin modD (mFrz (mBin mulD (mFrz (mCB intD (mArgs [mFrz (mBin addD (mFrz (mBin addD (mVarA 4) (mFrz (mBin mulD (mFrz (mC (.int 7919))) (mFrz (mBin ixD (mVarA 0) (mFrz (mC (.int 3))))))))) (mFrz (mC (.int 1))))]))) (mFrz (mC (.int 48271))))) (mFrz (mC (.int 2147483647)))))
  (mSeq (mAsg 5 (mBin modD (mFrz (mBin mulD (mVarA 5) (mFrz (mBin addD (mFrz (mBin fdivD (mVarA 5) (mFrz (mC (.int 1009))))) (mFrz (mC (.int 69621))))))) (mFrz (mC (.int 2147483647)))))
  (mSeq (mAsg 5 (mBin modD (mFrz (mBin mulD (mVarA 5) (mFrz (mBin addD (mFrz (mBin fdivD (mVarA 5) (mFrz (mC (.int 2003))))) (mFrz (mC (.int 40692))))))) (mFrz (mC (.int 2147483399)))))
  (mRet (mBin modD (mVarA 5) (mVarA 1))))))))))))
def g__law_pick : List D → Res (D × EnvD) := runD 2 6 [0, 1] m__law_pick
def m__law_long : EM FlowD :=
  mSeq (mAsg 1 (mC (.int 0)))
  (mSeq (mFor (mIt (mArgs [mFrz (mC (.int 4))]) rng1) (.nm 2) (mAsg 1 (mBin addD (mFrz (mBin mulD (mVarA 1) (mFrz (mBin powD (mFrz (mC (.int 10))) (mFrz (mC (.int 9))))))) (mFrz (mCall g__law_pick (mArgs [mVarA 0, mFrz (mBin powD (mFrz (mC (.int 10))) (mFrz (mC (.int 9))))]))))))
  (mRet (mBin mulD (mVarA 1) (mFrz (mBin subD (mFrz (mC (.int 1))) (mFrz (mBin mulD (mFrz (mC (.int 2))) (mFrz (mCall g__law_pick (mArgs [mVarA 0, mFrz (mC (.int 2))]))))))))))
def g__law_long : List D → Res (D × EnvD) := runD 1 3 [0] m__law_long
def m__law_integer : EM FlowD :=
  mSeq (mAsg 2 (mCall g__law_pick (mArgs [mVarA 0, mFrz (mC (.int 3))])))
  (mSeq (mIfS (mTB (mBin eqD (mVarA 2) (mFrz (mC (.int 0))))) (mRet (mBin subD (mFrz (mCall g__law_pick (mArgs [mVarA 0, mFrz (mC (.int 13))]))) (mFrz (mC (.int 6))))) (mNext))
  (mSeq (mIfS (mTB (mBin eqD (mVarA 2) (mFrz (mC (.int 1))))) (mRet (mBin subD (mFrz (mBin addD (mFrz (mBin mulD (mVarA 1) (mFrz (mBin subD (mFrz (mCall g__law_pick (mArgs [mVarA 0, mFrz (mC (.int 4001))]))) (mFrz (mC (.int 2000))))))) (mFrz (mCall g__law_pick (mArgs [mVarA 0, mFrz (mC (.int 3))]))))) (mFrz (mC (.int 1))))) (mNext))
  (mRet (mCall g__law_long (mArgs [mVarA 0])))))
def g__law_integer : List D → Res (D × EnvD) := runD 2 3 [0, 1] m__law_integer
def m_is_integer : EM FlowD :=
  mRet (mAndV (mIsi .tInt (mVarA 0)) (mNotV (mIsi .tBool (mVarA 0))))
def g_is_integer : List D → Res (D × EnvD) := runD 1 1 [0] m_is_integer
def m_is_within : EM FlowD :=
  mRet (mAndV (mCall g_is_integer (mArgs [mVarA 0])) (mChain leD leD (mVarA 1) (mVarA 0) (mVarA 2)))
def g_is_within : List D → Res (D × EnvD) := runD 3 3 [0, 1, 2] m_is_within
def m_is_world : EM FlowD :=
  mRet (mCall g_is_within (mArgs [mVarA 0, mFrz (mC (.int 0)), mFrz (mC (.int 1000))]))
def g_is_world : List D → Res (D × EnvD) := runD 1 1 [0] m_is_world
def m_check_world : EM FlowD :=
  mIfS (mNotT (mTB (mCall g_is_world (mArgs [mVarA 0])))) (mExc "NoWorld") (mNext)
def g_check_world : List D → Res (D × EnvD) := runD 1 1 [0] m_check_world
def m_told_in : EM FlowD :=
  mSeq (mIfS (mTB (mBin eqD (mVarA 0) (mFrz (mC (.int 0))))) (mRet (mVarM 2 1)) (mNext))
  (mSeq (mIfS (mTB (mBin eqD (mVarA 0) (mFrz (mC (.int 1))))) (mRet (mTup (mArgs [mFrz (mVarE 1), mFrz (mC (.int 1))]))) (mNext))
  (mRet (mBin modD (mVarA 1) (mVarA 0))))
def g_told_in : List D → Res (D × EnvD) := runD 2 2 [0, 1] m_told_in
def m_read_in : EM FlowD :=
  mSeq (mDrop (mCall g_check_world (mArgs [mVarA 0])))
  (mSeq (mIfS (mNotT (mTB (mCall g_is_integer (mArgs [mVarA 1])))) (mExc "NoNumber") (mNext))
  (mRet (mCall g_told_in (mArgs [mVarA 0, mVarA 1]))))
def g_read_in : List D → Res (D × EnvD) := runD 2 2 [0, 1] m_read_in
def m__law_refusal : EM FlowD :=
  mSeq (mAsg 2 (mC (.str "none")))
  (mSeq (mTryM [(yes_NoWorld, no_NoWorld, mAsg 2 (mC (.str "world"))), (yes_NoNumber, no_NoNumber, mAsg 2 (mC (.str "number")))] (mDrop (mCall g_read_in (mArgs [mVarA 0, mVarA 1]))))
  (mRet (mVarM 2 2)))
def g__law_refusal : List D → Res (D × EnvD) := runD 2 3 [0, 1] m__law_refusal
def m__law_plain : EM FlowD :=
  mSeq (mIfS (mTB (mBin eqD (mVarA 0) (mFrz (mC (.int 1))))) (mRet (mBin ixD (mVarA 1) (mFrz (mC (.int 0))))) (mNext))
  (mRet (mVarM 2 1))
def g__law_plain : List D → Res (D × EnvD) := runD 2 2 [0, 1] m__law_plain
def m__law_is_integer : EM FlowD :=
  mRet (mAndV (mIsi .tInt (mVarA 0)) (mNotV (mIsi .tBool (mVarA 0))))
def g__law_is_integer : List D → Res (D × EnvD) := runD 1 1 [0] m__law_is_integer
def m__law_is_told : EM FlowD :=
  mSeq (mIfS (mTB (mBin eqD (mVarA 0) (mFrz (mC (.int 1))))) (mSeq (mIfS (mOrT (mNotT (mTB (mIsi .tTup (mVarA 2)))) (mTB (mBin neD (mFrz (mCB lenD (mArgs [mVarA 2]))) (mFrz (mC (.int 2)))))) (mRet (mC (.bl false))) (mNext))
  (mRet (mAndV (mCall g__law_is_integer (mArgs [mFrz (mBin ixD (mVarA 2) (mFrz (mC (.int 0))))])) (mAndV (mCall g__law_is_integer (mArgs [mFrz (mBin ixD (mVarA 2) (mFrz (mC (.int 1))))])) (mAndV (mBin eqD (mFrz (mBin ixD (mVarA 2) (mFrz (mC (.int 0))))) (mVarA 1)) (mBin eqD (mFrz (mBin ixD (mVarA 2) (mFrz (mC (.int 1))))) (mFrz (mC (.int 1))))))))) (mNext))
  (mSeq (mIfS (mNotT (mTB (mCall g__law_is_integer (mArgs [mVarA 2])))) (mRet (mC (.bl false))) (mNext))
  (mSeq (mIfS (mTB (mBin eqD (mVarA 0) (mFrz (mC (.int 0))))) (mRet (mBin eqD (mVarA 2) (mVarA 1))) (mNext))
  (mRet (mAndV (mBin geD (mVarA 2) (mFrz (mC (.int 0)))) (mAndV (mBin ltD (mVarA 2) (mVarA 0)) (mBin eqD (mFrz (mBin modD (mFrz (mCB intD (mArgs [mFrz (mBin subD (mVarA 1) (mVarA 2))]))) (mVarA 0))) (mFrz (mC (.int 0)))))))))
def g__law_is_told : List D → Res (D × EnvD) := runD 3 3 [0, 1, 2] m__law_is_told
def m_common_divisor : EM FlowD :=
  mSeq (mWhile (fun (e : EnvD) => match e[1]? with | some (some (D.int i)) => i.natAbs + 1 | _ => 0) (mTB (mBin neD (mVarA 1) (mFrz (mC (.int 0))))) (mPar 0 1 (mArgs [mFrz (mVarE 1), mFrz (mBin modD (mVarA 0) (mVarA 1))])))
  (mRet (mCB absD (mArgs [mVarA 0])))
def g_common_divisor : List D → Res (D × EnvD) := runD 2 2 ([] : List Nat) m_common_divisor
def m_is_pair : EM FlowD :=
  mRet (mAndV (mIsi .tTup (mVarA 0)) (mBin eqD (mFrz (mCB lenD (mArgs [mVarA 0]))) (mFrz (mC (.int 2)))))
def g_is_pair : List D → Res (D × EnvD) := runD 1 1 [0] m_is_pair
def m_is_fraction : EM FlowD :=
  mSeq (mIfS (mOrT (mNotT (mTB (mCall g_is_pair (mArgs [mVarA 0])))) (mOrT (mNotT (mTB (mCall g_is_integer (mArgs [mFrz (mBin ixD (mVarA 0) (mFrz (mC (.int 0))))])))) (mOrT (mNotT (mTB (mCall g_is_integer (mArgs [mFrz (mBin ixD (mVarA 0) (mFrz (mC (.int 1))))])))) (mTB (mBin ltD (mFrz (mBin ixD (mVarA 0) (mFrz (mC (.int 1))))) (mFrz (mC (.int 1)))))))) (mRet (mC (.bl false))) (mNext))
  (mRet (mBin eqD (mFrz (mCall g_common_divisor (mArgs [mFrz (mBin ixD (mVarA 0) (mFrz (mC (.int 0)))), mFrz (mBin ixD (mVarA 0) (mFrz (mC (.int 1))))]))) (mFrz (mC (.int 1)))))
def g_is_fraction : List D → Res (D × EnvD) := runD 1 1 [0] m_is_fraction
def m_is_number_of : EM FlowD :=
  mSeq (mIfS (mTB (mBin eqD (mVarA 0) (mFrz (mC (.int 0))))) (mRet (mCall g_is_integer (mArgs [mVarA 1]))) (mNext))
  (mSeq (mIfS (mTB (mBin eqD (mVarA 0) (mFrz (mC (.int 1))))) (mRet (mCall g_is_fraction (mArgs [mVarA 1]))) (mNext))
  (mRet (mCall g_is_within (mArgs [mVarA 1, mFrz (mC (.int 0)), mFrz (mBin subD (mVarA 0) (mFrz (mC (.int 1))))]))))
def g_is_number_of : List D → Res (D × EnvD) := runD 2 2 [0, 1] m_is_number_of
def m_is_number : EM FlowD :=
  mSeq (mDrop (mCall g_check_world (mArgs [mVarA 0])))
  (mRet (mCall g_is_number_of (mArgs [mVarA 0, mVarA 1])))
def g_is_number : List D → Res (D × EnvD) := runD 2 2 [0, 1] m_is_number
def m__law_is_well : EM FlowD :=
  mSeq (mAsg 4 (mCall g_read_in (mArgs [mVarA 0, mVarA 1])))
  (mSeq (mAsg 5 (mCall g_read_in (mArgs [mVarA 0, mVarA 2])))
  (mSeq (mIfS (mOrT (mNotT (mTB (mCall g__law_is_told (mArgs [mVarA 0, mVarA 1, mVarA 4])))) (mNotT (mTB (mCall g__law_is_told (mArgs [mVarA 0, mVarA 2, mVarA 5]))))) (mRet (mC (.bl false))) (mNext))
  (mSeq (mIfS (mOrT (mTB (mBin nisD (mFrz (mCall g_is_number (mArgs [mVarA 0, mVarA 4]))) (mFrz (mC (.bl true))))) (mTB (mBin nisD (mFrz (mCall g_is_number (mArgs [mVarA 0, mVarA 5]))) (mFrz (mC (.bl true)))))) (mRet (mC (.bl false))) (mNext))
  (mSeq (mAsg 6 (mBin addD (mFrz (mCall g__law_plain (mArgs [mVarA 0, mVarA 4]))) (mFrz (mCall g__law_plain (mArgs [mVarA 0, mVarA 5])))))
  (mSeq (mIfS (mTB (mBin neD (mFrz (mCall g_read_in (mArgs [mVarA 0, mFrz (mBin addD (mVarA 1) (mVarA 2))]))) (mFrz (mCall g_read_in (mArgs [mVarA 0, mVarA 6]))))) (mRet (mC (.bl false))) (mNext))
  (mSeq (mIfS (mTB (mBin neD (mFrz (mCall g_read_in (mArgs [mVarA 0, mFrz (mBin mulD (mVarA 1) (mVarA 3))]))) (mFrz (mCall g_read_in (mArgs [mVarA 0, mFrz (mBin mulD (mFrz (mCall g__law_plain (mArgs [mVarA 0, mVarA 4]))) (mVarA 3))]))))) (mRet (mC (.bl false))) (mNext))
  (mSeq (mIfS (mAndT (mTB (mBin gtD (mVarA 0) (mFrz (mC (.int 1))))) (mOrT (mTB (mBin neD (mFrz (mCall g_read_in (mArgs [mVarA 0, mFrz (mBin addD (mVarA 1) (mFrz (mBin mulD (mVarA 0) (mVarA 3))))]))) (mVarA 4))) (mTB (mBin neD (mFrz (mCall g_read_in (mArgs [mVarA 0, mVarA 4]))) (mVarA 4))))) (mRet (mC (.bl false))) (mNext))
  (mRet (mC (.bl true))))))))))
def g__law_is_well : List D → Res (D × EnvD) := runD 4 7 [0, 1, 2, 3] m__law_is_well
def m_law : EM FlowD :=
  mSeq (mAsg 1 (mCall g__law_deck (mArgs [mVarA 0])))
  (mSeq (mAsg 2 (mLst (mArgs [mFrz (mBin addD (mFrz (mC (.int 2))) (mFrz (mCall g__law_pick (mArgs [mVarA 1, mFrz (mC (.int 11))])))), mFrz (mBin addD (mFrz (mC (.int 2))) (mFrz (mCall g__law_pick (mArgs [mVarA 1, mFrz (mC (.int 11))])))), mFrz (mBin addD (mFrz (mC (.int 2))) (mFrz (mCall g__law_pick (mArgs [mVarA 1, mFrz (mC (.int 999))])))), mFrz (mBin addD (mFrz (mC (.int 2))) (mFrz (mCall g__law_pick (mArgs [mVarA 1, mFrz (mC (.int 999))]))))])))
  (mSeq (mAsg 3 (mBin addD (mFrz (mLst (mArgs [mFrz (mC (.int 0)), mFrz (mC (.int 1))]))) (mVarA 2)))
  (mSeq (mAsg 4 (mBin ixD (mFrz (mLst (mArgs [mFrz (mUn negD (mFrz (mC (.int 1)))), mFrz (mC (.int 1001)), mFrz (mC (.bl true)), mFrz (mC (.bl false)), mFrz (mC .non), mFrz (mC (.str "4")), mFrz (mTup (mArgs [mFrz (mC (.int 2))])), mFrz (mLst (mArgs [mFrz (mC (.int 3))])), mFrz (mBin powD (mFrz (mC (.int 10))) (mFrz (mC (.int 39)))), mFrz (mUn negD (mFrz (mBin powD (mFrz (mC (.int 10))) (mFrz (mC (.int 39)))))), mFrz (mDic0)]))) (mFrz (mCall g__law_pick (mArgs [mVarA 1, mFrz (mC (.int 11))])))))
  (mSeq (mAsg 5 (mBin ixD (mFrz (mLst (mArgs [mFrz (mC (.bl true)), mFrz (mC (.bl false)), mFrz (mC .non), mFrz (mC (.str "4")), mFrz (mTup (mArgs [mFrz (mC (.int 2)), mFrz (mC (.int 1))])), mFrz (mLst (mArgs [mFrz (mC (.int 3))])), mFrz (mDic0), mFrz (mTup (mArgs []))]))) (mFrz (mCall g__law_pick (mArgs [mVarA 1, mFrz (mC (.int 8))])))))
  (mSeq (mAsg 6 (mCall g__law_integer (mArgs [mVarA 1, mFrz (mBin ixD (mVarA 2) (mFrz (mC (.int 0))))])))
  (mSeq (mFor (mIt (mArgs [mFrz (mBin addD (mFrz (mCB minD (mArgs [mFrz (mCB lenD (mArgs [mVarA 0])), mFrz (mC (.int 63))]))) (mFrz (mC (.int 2))))]) rng1) (.nm 7) (mSeq (mAsg 8 (mCall g__law_integer (mArgs [mVarA 1, mFrz (mBin ixD (mVarA 2) (mFrz (mCall g__law_pick (mArgs [mVarA 1, mFrz (mC (.int 4))]))))])))
  (mSeq (mAsg 9 (mBin subD (mFrz (mCall g__law_pick (mArgs [mVarA 1, mFrz (mC (.int 199))]))) (mFrz (mC (.int 99)))))
  (mSeq (mIfS (mNotT (mTB (mCB allD (mArgs [mFrz (mLc (mIt1 (mFrz (mVarE 3))) (.nm 10) (mYes) (mCall g__law_is_well (mArgs [mVarA 10, mVarA 8, mVarA 6, mVarA 9])) [10])])))) (mRet (mC (.bl false))) (mNext))
  (mAsg 6 (mVarE 8))))))
  (mSeq (mAsg 10 (mBin ixD (mVarA 3) (mFrz (mCall g__law_pick (mArgs [mVarA 1, mFrz (mC (.int 6))])))))
  (mSeq (mIfS (mOrT (mTB (mBin neD (mFrz (mCall g__law_refusal (mArgs [mVarA 4, mVarA 5]))) (mFrz (mC (.str "world"))))) (mTB (mBin neD (mFrz (mCall g__law_refusal (mArgs [mVarA 4, mVarA 6]))) (mFrz (mC (.str "world")))))) (mRet (mC (.bl false))) (mNext))
  (mRet (mAndV (mBin eqD (mFrz (mCall g__law_refusal (mArgs [mVarA 10, mVarA 5]))) (mFrz (mC (.str "number")))) (mBin eqD (mFrz (mCall g__law_refusal (mArgs [mVarA 10, mVarA 6]))) (mFrz (mC (.str "none"))))))))))))))
def g_law : List D → Res (D × EnvD) := runD 1 11 [0] m_law
end Mi
namespace Mi
open PySem PySem.Spec PyProof.Rows L2
def isInt : D → Bool
  | .int _ => true
  | _ => false
theorem s_is_integer {d : D} {t : String} (h : tyD d = some t) (z : fz d = true) : g_is_integer [d] = .ok (.bl (isInt d), [some d]) := by
  cases d <;> simp [tyD] at h <;> simp_all [g_is_integer, runD, ownOk, m_is_integer, isK, outsD, isInt, List.range, List.range.loop]
theorem s_law_is_integer {d : D} {t : String} (h : tyD d = some t) (z : fz d = true) : g__law_is_integer [d] = .ok (.bl (isInt d), [some d]) := by
  cases d <;> simp [tyD] at h <;> simp_all [g__law_is_integer, runD, ownOk, m__law_is_integer, isK, outsD, isInt, List.range, List.range.loop]

def dk (cells : List Int) (a b c : Int) : D := .lst true [.lst false (cells.map .int), .int a, .int b, .int c]
@[simp] theorem fzL_mapint (l : List Int) : fzL (l.map D.int) = true := fzL_ints l
@[simp] theorem fz_dk {cells a b c} : fz (dk cells a b c) = false := by simp [dk]
@[simp] theorem addD_i {i j : Int} : addD (.int i) (.int j) = some (.int (i + j)) := rfl
@[simp] theorem subD_i {i j : Int} : subD (.int i) (.int j) = some (.int (i - j)) := rfl
@[simp] theorem negD_i {i : Int} : negD (.int i) = some (.int (-i)) := rfl
@[simp] theorem intD_i {i : Int} : intD [.int i] = some (.int i) := rfl
@[simp] theorem ltD_i {i j : Int} : ltD (.int i) (.int j) = some (.bl (decide (i < j))) := rfl
@[simp] theorem leD_i {i j : Int} : leD (.int i) (.int j) = some (.bl (decide (i ≤ j))) := rfl
@[simp] theorem gtD_i {i j : Int} : gtD (.int i) (.int j) = some (.bl (decide (j < i))) := rfl
@[simp] theorem geD_i {i j : Int} : geD (.int i) (.int j) = some (.bl (decide (j ≤ i))) := rfl
@[simp] theorem eqD_i {i j : Int} : eqD (.int i) (.int j) = some (.bl (decide (i = j))) := by show some (D.bl (i == j)) = _; by_cases h : i = j <;> simp [h]
@[simp] theorem neD_i {i j : Int} : neD (.int i) (.int j) = some (.bl (!decide (i = j))) := by show some (D.bl (!(i == j))) = _; by_cases h : i = j <;> simp [h]
theorem modD_i {i j : Int} (h : 0 < j) : modD (.int i) (.int j) = some (.int (i % j)) := by simp [modD, h]
theorem fdivD_i {i j : Int} (h : 0 < j) (h2 : j.natAbs.log2 < 9000) : fdivD (.int i) (.int j) = some (.int (i / j)) := by simp [fdivD, h, h2]
theorem mulD_i {i j : Int} (h : j.natAbs < 18446744073709551616 ∨ i.natAbs < 18446744073709551616) : mulD (.int i) (.int j) = some (.int (i * j)) := by
  unfold mulD
  dsimp only
  rcases h with h | h <;> simp [h]
@[simp] theorem lenD_l {b : Bool} {l : List D} : lenD [.lst b l] = some (.int l.length) := rfl
theorem pow_18 : powD (.int 10) (.int 18) = some (.int 1000000000000000000) := by simp [powD]
@[simp] theorem ixD_dk0 {cells a b c} : ixD (dk cells a b c) (.int 0) = some (.lst false (cells.map .int)) := by
  unfold dk; simp [ixD, atI, ixN, pick]
@[simp] theorem ixD_dk1 {cells a b c} : ixD (dk cells a b c) (.int 1) = some (.int a) := by
  unfold dk; simp [ixD, atI, ixN, pick]
@[simp] theorem ixD_dk2 {cells a b c} : ixD (dk cells a b c) (.int 2) = some (.int b) := by
  unfold dk; simp [ixD, atI, ixN, pick]
@[simp] theorem ixD_dk3 {cells a b c} : ixD (dk cells a b c) (.int 3) = some (.int c) := by
  unfold dk; simp [ixD, atI, ixN, pick]
@[simp] theorem setQ_dk1 {cells a b c z} : setQ (dk cells a b c) (.int 1) (.int z) = some (dk cells z b c) := by
  unfold dk; simp [setQ, ixN]
@[simp] theorem setQ_dk2 {cells a b c z} : setQ (dk cells a b c) (.int 2) (.int z) = some (dk cells a z c) := by
  unfold dk; simp [setQ, ixN]
@[simp] theorem setQ_dk3 {cells a b c z} : setQ (dk cells a b c) (.int 3) (.int z) = some (dk cells a b z) := by
  unfold dk; simp [setQ, ixN]
theorem ixD_cells {b : Bool} {cells : List Int} {i : Int} (h : 0 ≤ i) (h2 : i < cells.length) : ∃ z, ixD (.lst b (cells.map .int)) (.int i) = some (.int z) := by
  have e : i.toNat < cells.length := by omega
  refine ⟨cells[i.toNat], ?_⟩
  simp [ixD, atI, ixN, h, h2, pick, e]
theorem deck_loop (s : D) : ∀ (l : List Int) (acc : List D) (x : Option D), ∃ y, loopL (.nm 1) mYes (mCB intD (mArgs [mVarA 1])) [1] (l.map .int) acc [some s, x] = .ok (acc ++ l.map .int, [some s, y])
  | [], acc, x => ⟨x, by simp [loopL]⟩
  | z :: l, acc, x => by
    obtain ⟨y, h⟩ := deck_loop s l (acc ++ [.int z]) (some (.int z))
    refine ⟨y, ?_⟩
    simp [loopL, mTg, wipeE] at h ⊢
    exact h
theorem cut_len (l : List Int) (lo hi : Option Int) : (cutD l lo hi).length ≤ l.length := by
  unfold cutD
  rw [List.length_take, List.length_drop]; omega
theorem s_law_deck {ns : List Int} (h : ns.length ≤ 63) : ∃ cells, g__law_deck [.scr ns] = .ok (dk cells 0 0 0, [some (.scr ns)]) := by
  refine ⟨cutD ns none (some 63), ?_⟩
  have hl := cut_len ns none (some 63)
  obtain ⟨y, hy⟩ := deck_loop (.scr ns) (cutD ns none (some 63)) [] none
  have hs : seqI [.lst false ((cutD ns none (some 63)).map D.int)] = some ((cutD ns none (some 63)).map D.int) := by simp [seqI]
  simp [g__law_deck, runD, ownOk, m__law_deck, slD, frz_lstt, sqV_ok hs, kLc_ok (fzL_mapint _) (show ((cutD ns none (some 63)).map D.int).length ≤ 1000 by rw [List.length_map]; omega), hy, restE, restV, outsD, List.range, List.range.loop, dk]
theorem mul_48 (x : Int) : mulD (.int x) (.int 48271) = some (.int (x * 48271)) := mulD_i (.inl (by decide))
theorem mul_79 (x : Int) : mulD (.int 7919) (.int x) = some (.int (7919 * x)) := mulD_i (.inr (by decide))
theorem mul_a (x : Int) : mulD (.int (x % 2147483647)) (.int (x % 2147483647 / 1009 + 69621)) = some (.int (x % 2147483647 * (x % 2147483647 / 1009 + 69621))) := mulD_i (.inr (by omega))
theorem mul_b (x : Int) : mulD (.int (x % 2147483647)) (.int (x % 2147483647 / 2003 + 40692)) = some (.int (x % 2147483647 * (x % 2147483647 / 2003 + 40692))) := mulD_i (.inr (by omega))
theorem mod_a (x : Int) : modD (.int x) (.int 2147483647) = some (.int (x % 2147483647)) := modD_i (by decide)
theorem mod_b (x : Int) : modD (.int x) (.int 2147483399) = some (.int (x % 2147483399)) := modD_i (by decide)
theorem div_a (x : Int) : fdivD (.int x) (.int 1009) = some (.int (x / 1009)) := fdivD_i (by decide) (by decide)
theorem div_b (x : Int) : fdivD (.int x) (.int 2003) = some (.int (x / 2003)) := fdivD_i (by decide) (by decide)
def rnd (z c : Int) : Int := ((z + 7919 * (c + 1) + 1) * 48271 % 2147483647 * ((z + 7919 * (c + 1) + 1) * 48271 % 2147483647 / 1009 + 69621) % 2147483647 * ((z + 7919 * (c + 1) + 1) * 48271 % 2147483647 * ((z + 7919 * (c + 1) + 1) * 48271 % 2147483647 / 1009 + 69621) % 2147483647 / 2003 + 40692)) % 2147483399
theorem s_law_pick (cells : List Int) (a b c : Int) {m : Int} (hm : 0 < m) (hm2 : m.natAbs.log2 < 9000) : ∃ r a' b' c', g__law_pick [dk cells a b c, .int m] = .ok (.int r, [some (dk cells a' b' c'), some (.int m)]) ∧ 0 ≤ r ∧ r < m := by
  by_cases hb : 0 < b
  · refine ⟨b % m, a, b / m, c + 1, ?_, Int.emod_nonneg _ (by omega), Int.emod_lt_of_pos _ hm⟩
    simp [g__law_pick, runD, ownOk, m__law_pick, hb, modD_i hm, fdivD_i hm hm2, outsD, List.range, List.range.loop]
  · have tail : ∀ x : Int, 0 ≤ x % m ∧ x % m < m := fun x => ⟨Int.emod_nonneg _ (by omega), Int.emod_lt_of_pos _ hm⟩
    by_cases h0 : 0 < cells.length
    · have h0' : (0 : Int) < cells.length := by omega
      obtain ⟨z, hz⟩ := ixD_cells (b := false) (Int.emod_nonneg a (show (cells.length : Int) ≠ 0 by omega)) (Int.emod_lt_of_pos a h0')
      by_cases h1 : 1000000000000000000 ≤ z
      · by_cases h2 : a + 1 ≤ cells.length
        · refine ⟨z % m, a + 1, z / m, c + 1, ?_, tail _⟩
          simp [g__law_pick, runD, ownOk, m__law_pick, hb, h0, hz, h1, h2, pow_18, modD_i hm, modD_i h0', fdivD_i hm hm2, outsD, List.range, List.range.loop]
        · refine ⟨rnd z c % m, a + 1, b, c + 1, ?_, tail _⟩
          · simp [rnd, g__law_pick, runD, ownOk, m__law_pick, hb, h0, hz, h1, h2, pow_18, modD_i hm, modD_i h0', fdivD_i hm hm2, outsD, List.range, List.range.loop, mul_48, mul_79, mul_a, mul_b, mod_a, mod_b, div_a, div_b]
      · refine ⟨rnd z c % m, a + 1, b, c + 1, ?_, tail _⟩
        · simp [rnd, g__law_pick, runD, ownOk, m__law_pick, hb, h0, hz, h1, pow_18, modD_i hm, modD_i h0', fdivD_i hm hm2, outsD, List.range, List.range.loop, mul_48, mul_79, mul_a, mul_b, mod_a, mod_b, div_a, div_b]
    · have h0' : cells.length = 0 := by omega
      refine ⟨rnd 0 c % m, a + 1, b, c + 1, ?_, tail _⟩
      · simp [rnd, g__law_pick, runD, ownOk, m__law_pick, hb, h0', pow_18, modD_i hm, fdivD_i hm hm2, outsD, List.range, List.range.loop, mul_48, mul_79, mul_a, mul_b, mod_a, mod_b, div_a, div_b]
end Mi
namespace Mi
open PySem PySem.Spec PyProof.Rows L2
/- a thing: frozen, of a type that isinstance knows -/
def okT (d : D) : Prop := fz d = true ∧ (tyD d).isSome = true
def okTh (d : D) : Prop := okT d ∧ (∀ l, d = .tup l → ∀ x ∈ l, okT x) ∧ ∀ a b, d = .tup [.int a, .int b] → b < 2 ^ 199
theorem s_is_int {d : D} (h : okT d) : g_is_integer [d] = .ok (.bl (isInt d), [some d]) := by
  obtain ⟨z, h⟩ := h
  cases e : tyD d with
  | none => rw [e] at h; cases h
  | some t => exact s_is_integer e z
theorem s_law_is_int {d : D} (h : okT d) : g__law_is_integer [d] = .ok (.bl (isInt d), [some d]) := by
  obtain ⟨z, h⟩ := h
  cases e : tyD d with
  | none => rw [e] at h; cases h
  | some t => exact s_law_is_integer e z
theorem fz_int' (z : Int) : okT (.int z) := ⟨by simp, rfl⟩
def within (d : D) (lo hi : Int) : Bool := match d with
  | .int i => decide (lo ≤ i) && decide (i ≤ hi)
  | _ => false
theorem s_is_within {d : D} (h : okT d) (lo hi : Int) : g_is_within [d, .int lo, .int hi] = .ok (.bl (within d lo hi), [some d, some (.int lo), some (.int hi)]) := by
  have hz := h.1
  have hs := s_is_int h
  cases e : isInt d with
  | false =>
    have e2 : within d lo hi = false := by cases d <;> first | rfl | simp [isInt] at e
    rw [e] at hs
    simp [g_is_within, runD, ownOk, m_is_within, outsD, List.range, List.range.loop, ownVars, putBack, hz, hs, e2]
  | true =>
    cases d <;> simp [isInt] at e
    rename_i i
    simp [isInt] at hs
    by_cases h1 : lo ≤ i <;> simp [g_is_within, runD, ownOk, m_is_within, outsD, List.range, List.range.loop, ownVars, putBack, hs, within, h1]
theorem s_is_world {d : D} (h : okT d) : g_is_world [d] = .ok (.bl (within d 0 1000), [some d]) := by
  have hz := h.1
  simp [g_is_world, runD, ownOk, m_is_world, outsD, List.range, List.range.loop, ownVars, putBack, hz, s_is_within h]
theorem s_check_world {d : D} (h : okT d) : g_check_world [d] = if within d 0 1000 = true then .ok (.non, [some d]) else .exc ⟨"NoWorld", [], []⟩ [some d] := by
  have hz := h.1
  cases e : within d 0 1000 <;> simp [g_check_world, runD, ownOk, m_check_world, outsD, List.range, List.range.loop, ownVars, putBack, hz, s_is_world h, e]
/-! ### divisors -/
theorem modD_y {x y : Int} (h : 0 < y) : modD (.int x) (.int y) = some (.int (x % y)) := modD_i h
theorem gcd_mod (x y : Int) : Int.gcd (x % y) y = Int.gcd x y := by
  have h := Int.gcd_add_mul_right_left y (x % y) (x / y)
  have e : x % y + x / y * y = x := by
    rw [Int.mul_comm]
    first | exact Int.emod_add_mul_ediv x y | exact Int.emod_add_ediv x y
  rw [e] at h
  exact h.symm
theorem cd_loop : ∀ (n : Nat) (x y : Int), 0 ≤ y → y.natAbs < n → ∃ g : Int, g.natAbs = Int.gcd x y ∧ whileF (mTB (mBin neD (mVarA 1) (mFrz (mC (.int 0))))) (mPar 0 1 (mArgs [mFrz (mVarE 1), mFrz (mBin modD (mVarA 0) (mVarA 1))])) n [some (.int x), some (.int y)] = .ok (.next, [some (.int g), some (.int 0)])
  | 0, x, y, h, hn => by omega
  | n + 1, x, y, h, hn => by
    by_cases hy : y = 0
    · subst hy
      exact ⟨x, by simp, by simp [e_wh]⟩
    · have hp : 0 < y := by omega
      have hlt := Int.emod_lt_of_pos x hp
      have hge := Int.emod_nonneg x hy
      obtain ⟨g, h1, h2⟩ := cd_loop n y (x % y) hge (by omega)
      refine ⟨g, by rw [h1, Int.gcd_comm y, gcd_mod], ?_⟩
      simp [e_wh, hy, modD_i hp, h2]
theorem s_common_divisor {x y : Int} (h : 0 ≤ y) : ∃ o, g_common_divisor [.int x, .int y] = .ok (.int (Int.gcd x y : Int), o) := by
  obtain ⟨g, h1, h2⟩ := cd_loop (y.natAbs + 1) x y h (by omega)
  have h3 : (if g < 0 then -g else g) = (Int.gcd x y : Int) := by rw [← h1]; split <;> omega
  refine ⟨[none, none], ?_⟩
  simp [g_common_divisor, runD, ownOk, m_common_divisor, h2, absD, h3, outsD, List.range, List.range.loop]
end Mi
namespace Mi
open PySem PySem.Spec PyProof.Rows L2
def isFrac (d : D) : Bool := match d with
  | .tup [.int a, .int b] => decide (1 ≤ b) && decide ((Int.gcd a b : Int) = 1)
  | _ => false
theorem isI_no {d : D} (h : isInt d = false) (i : Int) : d ≠ .int i := by rintro rfl; simp [isInt] at h
theorem isI_yes {d : D} (h : isInt d = true) : ∃ i, d = .int i := by cases d <;> simp [isInt] at h; exact ⟨_, rfl⟩
@[simp] theorem ixD_t0 {x y : D} (h : fz x = true) : ixD (.tup [x, y]) (.int 0) = some x := by simp [ixD, atI, ixN, pick, h]
@[simp] theorem ixD_t1 {x y : D} (h : fz y = true) : ixD (.tup [x, y]) (.int 1) = some y := by simp [ixD, atI, ixN, pick, h]
@[simp] theorem lenD_t {l : List D} : lenD [.tup l] = some (.int l.length) := rfl
theorem s_is_pair_no {d : D} (h : okT d) (hn : ∀ l, d ≠ .tup l) : g_is_pair [d] = .ok (.bl false, [some d]) := by
  obtain ⟨z, h⟩ := h
  cases d <;> simp [tyD] at h <;> first | exact absurd rfl (hn _) | simp_all [g_is_pair, runD, ownOk, m_is_pair, isK, outsD, List.range, List.range.loop]
theorem s_is_pair {l : List D} (z : fzL l = true) : g_is_pair [.tup l] = .ok (.bl (decide ((l.length : Int) = 2)), [some (.tup l)]) := by
  simp [g_is_pair, runD, ownOk, m_is_pair, isK, outsD, List.range, List.range.loop, z]
theorem frac_no {l : List D} (h : ¬ (l.length : Int) = 2) : isFrac (.tup l) = false := by
  match l, h with
  | [], _ => rfl
  | [x], _ => cases x <;> rfl
  | [_, _], h => exact absurd rfl h
  | x :: y :: _ :: _, _ => cases x <;> first | rfl | (cases y <;> rfl)
theorem frac_xy {x y : D} (h : isInt x = false ∨ isInt y = false) : isFrac (.tup [x, y]) = false := by
  cases x <;> cases y <;> first | rfl | (simp [isInt] at h)
theorem len2 {l : List D} (h : (l.length : Int) = 2) : ∃ x y, l = [x, y] := by
  match l, h with
  | [x, y], _ => exact ⟨x, y, rfl⟩
  | [], h => simp at h
  | [_], h => simp at h
  | _ :: _ :: _ :: _, h => simp at h; omega
theorem s_is_fraction {d : D} (h : okTh d) : g_is_fraction [d] = .ok (.bl (isFrac d), [some d]) := by
  obtain ⟨h1, h2, h3⟩ := h
  by_cases ht : ∃ l, d = .tup l
  · obtain ⟨l, rfl⟩ := ht
    have z : fzL l = true := by simpa using h1.1
    by_cases hl : (l.length : Int) = 2
    · obtain ⟨x, y, rfl⟩ := len2 hl
      have hx := h2 _ rfl x (by simp)
      have hy := h2 _ rfl y (by simp)
      have sx := s_is_int hx
      have sy := s_is_int hy
      have zx := hx.1
      have zy := hy.1
      have p := s_is_pair z
      simp at p
      cases ex : isInt x with
      | false =>
        rw [ex] at sx
        simp [g_is_fraction, runD, ownOk, m_is_fraction, outsD, List.range, List.range.loop, ownVars, putBack, zx, zy, p, frzQ_fz, sx, frac_xy (.inl ex)]
      | true =>
        cases ey : isInt y with
        | false =>
          rw [ex] at sx
          rw [ey] at sy
          simp [g_is_fraction, runD, ownOk, m_is_fraction, outsD, List.range, List.range.loop, ownVars, putBack, zx, zy, p, frzQ_fz, sx, sy, frac_xy (.inr ey)]
        | true =>
          obtain ⟨a, rfl⟩ := isI_yes ex
          obtain ⟨b, rfl⟩ := isI_yes ey
          simp [isInt] at sx sy
          by_cases hb : b < 1
          · have e : isFrac (.tup [.int a, .int b]) = false := by simp [isFrac]; omega
            simp [g_is_fraction, runD, ownOk, m_is_fraction, outsD, List.range, List.range.loop, ownVars, putBack, p, sx, sy, hb, e]
          · obtain ⟨o, ho⟩ := s_common_divisor (x := a) (y := b) (by omega)
            have e : isFrac (.tup [.int a, .int b]) = decide ((Int.gcd a b : Int) = 1) := by simp [isFrac]; omega
            simp [g_is_fraction, runD, ownOk, m_is_fraction, outsD, List.range, List.range.loop, ownVars, putBack, p, sx, sy, hb, ho, e]
    · have p := s_is_pair z
      simp [hl] at p
      simp [g_is_fraction, runD, ownOk, m_is_fraction, outsD, List.range, List.range.loop, ownVars, putBack, z, p, frac_no hl]
  · have hn : ∀ l, d ≠ .tup l := fun l e => ht ⟨l, e⟩
    have p := s_is_pair_no h1 hn
    have e : isFrac d = false := by cases d <;> first | rfl | exact absurd rfl (hn _)
    have z := h1.1
    simp [g_is_fraction, runD, ownOk, m_is_fraction, outsD, List.range, List.range.loop, ownVars, putBack, z, p, e]
/-! ### numbers -/
def isNum (w : Int) (d : D) : Bool := if w = 0 then isInt d else if w = 1 then isFrac d else within d 0 (w - 1)
theorem s_is_number_of {w : Int} {d : D} (h : okTh d) : g_is_number_of [.int w, d] = .ok (.bl (isNum w d), [some (.int w), some d]) := by
  have z := h.1.1
  by_cases h0 : w = 0
  · subst h0
    simp [g_is_number_of, runD, ownOk, m_is_number_of, outsD, List.range, List.range.loop, ownVars, putBack, z, s_is_int h.1, isNum]
  · by_cases h1 : w = 1
    · subst h1
      simp [g_is_number_of, runD, ownOk, m_is_number_of, outsD, List.range, List.range.loop, ownVars, putBack, z, s_is_fraction h, isNum]
    · simp [g_is_number_of, runD, ownOk, m_is_number_of, outsD, List.range, List.range.loop, ownVars, putBack, z, s_is_within h.1, isNum, h0, h1]
theorem s_is_number {w : Int} {d : D} (hw : 0 ≤ w ∧ w ≤ 1000) (h : okTh d) : g_is_number [.int w, d] = .ok (.bl (isNum w d), [some (.int w), some d]) := by
  have z := h.1.1
  have c := s_check_world (fz_int' w)
  simp [within, hw.1, hw.2] at c
  simp [g_is_number, runD, ownOk, m_is_number, outsD, List.range, List.range.loop, ownVars, putBack, z, c, s_is_number_of h]
theorem s_is_number_no {d e : D} (hd : okT d) (hn : within d 0 1000 = false) (z : fz e = true) : g_is_number [d, e] = .exc ⟨"NoWorld", [], []⟩ [some d, some e] := by
  have c := s_check_world hd
  have zd := hd.1
  simp [hn] at c
  simp [g_is_number, runD, ownOk, m_is_number, outsD, List.range, List.range.loop, ownVars, putBack, z, zd, c]
def p01 : D := .tup [.int 0, .int 1]
theorem th_p01 : okTh (.tup [.int 0, .int 1]) := by
  refine ⟨⟨by simp, rfl⟩, fun l e x hx => ?_, fun a b e => ?_⟩
  · cases e
    simp at hx
    rcases hx with rfl | rfl <;> exact fz_int' _
  · cases e; decide
theorem th_p32 : okTh (.tup [.int 3, .int 2]) := by
  refine ⟨⟨by simp, rfl⟩, fun l e x hx => ?_, fun a b e => ?_⟩
  · cases e
    simp at hx
    rcases hx with rfl | rfl <;> exact fz_int' _
  · cases e; decide
theorem th_int (z : Int) : okTh (.int z) := ⟨fz_int' z, (fun l (e : D.int z = .tup l) => by cases e), fun a b (e : D.int z = .tup [.int a, .int b]) => by cases e⟩
end Mi
namespace Mi
open PySem PySem.Spec PyProof.Rows L2
theorem pow_9 : powD (.int 10) (.int 9) = some (.int 1000000000) := by simp [powD]
theorem pow_39 : powD (.int 10) (.int 39) = some (.int 1000000000000000000000000000000000000000) := by simp [powD]
def lgB : EM FlowD := (mAsg 1 (mBin addD (mFrz (mBin mulD (mVarA 1) (mFrz (mBin powD (mFrz (mC (.int 10))) (mFrz (mC (.int 9))))))) (mFrz (mCall g__law_pick (mArgs [mVarA 0, mFrz (mBin powD (mFrz (mC (.int 10))) (mFrz (mC (.int 9))))])))))
theorem lg_one (cells : List Int) (a b c n : Int) (t : Option D) : ∃ a' b' c' n', lgB [some (dk cells a b c), some (.int n), t] = .ok (.next, [some (dk cells a' b' c'), some (.int n'), t]) := by
  obtain ⟨r, a1, b1, c1, h1, h2, h3⟩ := s_law_pick cells a b c (m := 1000000000) (by decide) (by decide)
  refine ⟨a1, b1, c1, n * 1000000000 + r, ?_⟩
  simp [lgB, runD, ownOk, outsD, List.range, List.range.loop, ownVars, putBack, pow_9, mulD_i, h1]
theorem lg_loop (cells : List Int) : ∀ (ds : List D) (a b c n : Int) (t : Option D), ∃ a' b' c' n' t', loopF (.nm 2) lgB ds [some (dk cells a b c), some (.int n), t] = .ok (.next, [some (dk cells a' b' c'), some (.int n'), t'])
  | [], a, b, c, n, t => ⟨a, b, c, n, t, rfl⟩
  | d :: ds, a, b, c, n, t => by
    obtain ⟨a1, b1, c1, n1, h1⟩ := lg_one cells a b c n (some d)
    obtain ⟨a2, b2, c2, n2, t2, h2⟩ := lg_loop cells ds a1 b1 c1 n1 (some d)
    refine ⟨a2, b2, c2, n2, t2, ?_⟩
    rw [e_lp, tg_nm, lpV_ok]
    simp only [List.set_cons_succ, List.set_cons_zero]
    rw [h1, bind_ok, kLp_next, h2]
theorem s_law_long (cells : List Int) (a b c : Int) : ∃ n a' b' c', g__law_long [dk cells a b c] = .ok (.int n, [some (dk cells a' b' c')]) := by
  obtain ⟨a1, b1, c1, n1, t1, h1⟩ := lg_loop cells (rngD 0 4) a b c 0 none
  obtain ⟨r, a2, b2, c2, k1, k2, k3⟩ := s_law_pick cells a1 b1 c1 (m := 2) (by decide) (by decide)
  have hz : fzL (rngD 0 4) = true := fzL_map _ (fun _ => by simp) _
  have hr : rng1 [.int 4] = some (rngD 0 4) := by simp [rng1]
  have hm : mulD (.int 2) (.int r) = some (.int (2 * r)) := mulD_i (.inr (by decide))
  have hm2 : mulD (.int n1) (.int (1 - 2 * r)) = some (.int (n1 * (1 - 2 * r))) := mulD_i (.inl (by omega))
  refine ⟨n1 * (1 - 2 * r), a2, b2, c2, ?_⟩
  simp only [lgB] at h1
  simp [g__law_long, m__law_long, runD, ownOk, outsD, List.range, List.range.loop, ownVars, putBack, rV_ok hr, kFor_ok hz, h1, k1, hm, hm2]
theorem ixD_lst {l : List D} {r : Int} {o : Bool} (h : 0 ≤ r) (h2 : r < l.length) (z : fzL l = true) : ∃ d ∈ l, ixD (.lst o l) (.int r) = some d := by
  have e : r.toNat < l.length := by omega
  have m : l[r.toNat] ∈ l := List.getElem_mem e
  exact ⟨l[r.toNat], m, by simp [ixD, atI, ixN, h, h2, pick, e, fzL_mem z _ m]⟩
theorem s_law_integer (cells : List Int) (a b c w : Int) : ∃ n a' b' c', g__law_integer [dk cells a b c, .int w] = .ok (.int n, [some (dk cells a' b' c'), some (.int w)]) := by
  obtain ⟨r, a1, b1, c1, h1, h2, h3⟩ := s_law_pick cells a b c (m := 3) (by decide) (by decide)
  by_cases q0 : r = 0
  · subst q0
    obtain ⟨s, a2, b2, c2, k1, k2, k3⟩ := s_law_pick cells a1 b1 c1 (m := 13) (by decide) (by decide)
    exact ⟨s - 6, a2, b2, c2, by simp [g__law_integer, m__law_integer, runD, ownOk, outsD, List.range, List.range.loop, ownVars, putBack, h1, k1]⟩
  by_cases q1 : r = 1
  · subst q1
    obtain ⟨s, a2, b2, c2, k1, k2, k3⟩ := s_law_pick cells a1 b1 c1 (m := 4001) (by decide) (by decide)
    obtain ⟨t, a3, b3, c3, l1, l2, l3⟩ := s_law_pick cells a2 b2 c2 (m := 3) (by decide) (by decide)
    have m1 : mulD (.int w) (.int (s - 2000)) = some (.int (w * (s - 2000))) := mulD_i (.inl (by omega))
    exact ⟨w * (s - 2000) + t - 1, a3, b3, c3, by simp [g__law_integer, m__law_integer, runD, ownOk, outsD, List.range, List.range.loop, ownVars, putBack, h1, k1, l1, m1]⟩
  · obtain ⟨n, a2, b2, c2, k1⟩ := s_law_long cells a1 b1 c1
    exact ⟨n, a2, b2, c2, by simp [g__law_integer, m__law_integer, runD, ownOk, outsD, List.range, List.range.loop, ownVars, putBack, h1, q0, q1, k1]⟩
/-! ### readings -/
def told (w i : Int) : D := if w = 0 then .int i else if w = 1 then .tup [.int i, .int 1] else .int (i % w)
theorem fz_told (w i : Int) : fz (told w i) = true := by unfold told; split <;> (try split) <;> simp
theorem s_told_in {w i : Int} (h : 0 ≤ w) : g_told_in [.int w, .int i] = .ok (told w i, [some (.int w), some (.int i)]) := by
  by_cases h0 : w = 0
  · subst h0; simp [g_told_in, m_told_in, runD, ownOk, outsD, List.range, List.range.loop, ownVars, putBack, told]
  · by_cases h1 : w = 1
    · subst h1; simp [g_told_in, m_told_in, runD, ownOk, outsD, List.range, List.range.loop, ownVars, putBack, told]
    · simp [g_told_in, m_told_in, runD, ownOk, outsD, List.range, List.range.loop, ownVars, putBack, told, h0, h1, modD_i (show 0 < w by omega)]
theorem s_read_in {w : Int} (hw : 0 ≤ w ∧ w ≤ 1000) (i : Int) : g_read_in [.int w, .int i] = .ok (told w i, [some (.int w), some (.int i)]) := by
  have c := s_check_world (fz_int' w)
  simp [within, hw.1, hw.2] at c
  have n := s_is_int (fz_int' i)
  simp [isInt] at n
  simp [g_read_in, m_read_in, runD, ownOk, outsD, List.range, List.range.loop, ownVars, putBack, c, n, s_told_in hw.1, fz_told]
theorem s_read_no {d e : D} (hd : okT d) (hn : within d 0 1000 = false) (z : fz e = true) : g_read_in [d, e] = .exc ⟨"NoWorld", [], []⟩ [some d, some e] := by
  have c := s_check_world hd
  have zd := hd.1
  simp [hn] at c
  simp [g_read_in, m_read_in, runD, ownOk, outsD, List.range, List.range.loop, ownVars, putBack, z, zd, c]
theorem s_read_non {w : Int} {e : D} (hw : 0 ≤ w ∧ w ≤ 1000) (he : okT e) (hn : isInt e = false) : g_read_in [.int w, e] = .exc ⟨"NoNumber", [], []⟩ [some (.int w), some e] := by
  have c := s_check_world (fz_int' w)
  simp [within, hw.1, hw.2] at c
  have n := s_is_int he
  have z := he.1
  rw [hn] at n
  simp [g_read_in, m_read_in, runD, ownOk, outsD, List.range, List.range.loop, ownVars, putBack, z, c, n]
theorem s_law_refusal1 {d e : D} (hd : okT d) (hn : within d 0 1000 = false) (z : fz e = true) : g__law_refusal [d, e] = .ok (.str "world", [some d, some e]) := by
  have zd := hd.1
  simp [g__law_refusal, m__law_refusal, runD, ownOk, outsD, List.range, List.range.loop, ownVars, putBack, z, zd, s_read_no hd hn z, hdsM, yes_NoWorld]
theorem s_law_refusal2 {w : Int} {e : D} (hw : 0 ≤ w ∧ w ≤ 1000) (he : okT e) (hn : isInt e = false) : g__law_refusal [.int w, e] = .ok (.str "number", [some (.int w), some e]) := by
  have z := he.1
  have e1 : ¬ (("NoNumber" : Str) = "NoWorld") := by decide
  simp [g__law_refusal, m__law_refusal, runD, ownOk, outsD, List.range, List.range.loop, ownVars, putBack, z, s_read_non hw he hn, hdsM, yes_NoWorld, no_NoWorld, yes_NoNumber, e1]
theorem s_law_refusal3 {w : Int} (hw : 0 ≤ w ∧ w ≤ 1000) (i : Int) : g__law_refusal [.int w, .int i] = .ok (.str "none", [some (.int w), some (.int i)]) := by
  simp [g__law_refusal, m__law_refusal, runD, ownOk, outsD, List.range, List.range.loop, ownVars, putBack, s_read_in hw, fz_told]
theorem s_law_plain {w : Int} (i : Int) : g__law_plain [.int w, told w i] = .ok (.int (if w = 0 ∨ w = 1 then i else i % w), [some (.int w), some (told w i)]) := by
  by_cases h0 : w = 0
  · subst h0; simp [g__law_plain, m__law_plain, runD, ownOk, outsD, List.range, List.range.loop, ownVars, putBack, told]
  · by_cases h1 : w = 1
    · subst h1; simp [g__law_plain, m__law_plain, runD, ownOk, outsD, List.range, List.range.loop, ownVars, putBack, told]
    · simp [g__law_plain, m__law_plain, runD, ownOk, outsD, List.range, List.range.loop, ownVars, putBack, told, h0, h1]
theorem th_tupI (a b : Int) (h : b < 2 ^ 199) : okTh (.tup [.int a, .int b]) := by
  refine ⟨⟨by simp, rfl⟩, fun l e x hx => ?_, fun x y e => ?_⟩
  · cases e
    simp at hx
    rcases hx with rfl | rfl <;> exact fz_int' _
  · simp at e; omega
theorem th_int' (z : Int) : okTh (.int z) := ⟨fz_int' z, (fun l (e : D.int z = .tup l) => by cases e), fun a b (e : D.int z = .tup [.int a, .int b]) => by cases e⟩
theorem th_told (w i : Int) : okTh (told w i) := by
  unfold told
  split
  · exact th_int' _
  · split
    · exact th_tupI _ _ (by decide)
    · exact th_int' _
theorem num_told {w : Int} (h : 0 ≤ w) (i : Int) : isNum w (told w i) = true := by
  by_cases h0 : w = 0
  · subst h0; simp [isNum, told, isInt]
  · by_cases h1 : w = 1
    · subst h1; simp [isNum, told, isFrac]
    · have a := Int.emod_nonneg i h0
      have b := Int.emod_lt_of_pos i (show 0 < w by omega)
      have c : i % w ≤ w - 1 := by omega
      simp [isNum, told, within, h0, h1, a, c]
theorem s_law_is_told {w : Int} (h : 0 ≤ w) (i : Int) : g__law_is_told [.int w, .int i, told w i] = .ok (.bl true, [some (.int w), some (.int i), some (told w i)]) := by
  by_cases h1 : w = 1
  · subst h1
    have n1 := s_law_is_int (fz_int' i)
    have n2 := s_law_is_int (fz_int' 1)
    simp [isInt] at n1 n2
    simp [g__law_is_told, m__law_is_told, runD, ownOk, outsD, List.range, List.range.loop, ownVars, putBack, told, isK, n1, n2]
  · by_cases h0 : w = 0
    · subst h0
      have n1 := s_law_is_int (fz_int' i)
      simp [isInt] at n1
      simp [g__law_is_told, m__law_is_told, runD, ownOk, outsD, List.range, List.range.loop, ownVars, putBack, told, n1]
    · have n1 := s_law_is_int (fz_int' (i % w))
      simp [isInt] at n1
      have a := Int.emod_nonneg i h0
      have b := Int.emod_lt_of_pos i (show 0 < w by omega)
      have c : (i - i % w) % w = 0 := by
        rw [Int.sub_emod, Int.emod_emod, Int.sub_self]; simp
      simp [g__law_is_told, m__law_is_told, runD, ownOk, outsD, List.range, List.range.loop, ownVars, putBack, told, h0, h1, n1, a, b, modD_i (show 0 < w by omega), c]
@[simp] theorem nisD_b {a b : Bool} : nisD (.bl a) (.bl b) = some (.bl (!(a == b))) := rfl
@[simp] theorem neD_s {a b : Str} : neD (.str a) (.str b) = some (.bl (!(a == b))) := rfl
@[simp] theorem eqD_s {a b : Str} : eqD (.str a) (.str b) = some (.bl (a == b)) := rfl
theorem neD_tup (a b c d : Int) : neD (.tup [.int a, .int b]) (.tup [.int c, .int d]) = some (.bl (!(decide (a = c) && decide (b = d)))) := by
  simp [neD, eqQ, scalD, okP, okPL, eqB, toP, toPL, PyData.eqv, PyData.eqvAll]
  by_cases h1 : a = c <;> by_cases h2 : b = d <;> simp [h1, h2]
theorem neD_told {w i j : Int} (h : w = 0 ∨ w = 1 → i = j) (h2 : i % w = j % w) : neD (told w i) (told w j) = some (.bl false) := by
  by_cases h0 : w = 0
  · subst h0; simp [told, h]
  · by_cases h1 : w = 1
    · subst h1; simp [told, neD_tup, h]
    · simp [told, h0, h1, h2]
theorem s_law_is_well {w i j s : Int} (hw : 0 ≤ w ∧ w ≤ 1000) (hs : s.natAbs < 18446744073709551616) : g__law_is_well [.int w, .int i, .int j, .int s] = .ok (.bl true, [some (.int w), some (.int i), some (.int j), some (.int s)]) := by
  have z1 := fz_told w i
  have z2 := fz_told w j
  have n1 := s_is_number hw (th_told w i)
  have n2 := s_is_number hw (th_told w j)
  rw [num_told hw.1] at n1 n2
  have e1 : neD (told w (i + j)) (told w ((if w = 0 ∨ w = 1 then i else i % w) + (if w = 0 ∨ w = 1 then j else j % w))) = some (.bl false) := by
    refine neD_told (fun h => by rw [if_pos h, if_pos h]) ?_
    split
    · rfl
    · rw [← Int.add_emod]
  have e2 : neD (told w (i * s)) (told w ((if w = 0 ∨ w = 1 then i else i % w) * s)) = some (.bl false) := by
    refine neD_told (fun h => by rw [if_pos h]) ?_
    split
    · rfl
    · rw [Int.mul_emod i s, Int.mul_emod (i % w) s, Int.emod_emod]
  have m1 : mulD (.int i) (.int s) = some (.int (i * s)) := mulD_i (.inl hs)
  have m2 : mulD (.int (if w = 0 ∨ w = 1 then i else i % w)) (.int s) = some (.int ((if w = 0 ∨ w = 1 then i else i % w) * s)) := mulD_i (.inl hs)
  have m3 : mulD (.int w) (.int s) = some (.int (w * s)) := mulD_i (.inl hs)
  by_cases h1 : 1 < w
  · have e3 : neD (told w (i + w * s)) (told w i) = some (.bl false) := neD_told (fun h => by omega) (Int.add_mul_emod_self_left i w s)
    have e4 : neD (told w (i % w)) (told w i) = some (.bl false) := neD_told (fun h => by omega) (Int.emod_emod i w)
    have ti : told w i = .int (i % w) := by unfold told; rw [if_neg (by omega), if_neg (by omega)]
    have r4 := s_read_in hw (i % w)
    rw [← ti] at r4
    simp [g__law_is_well, m__law_is_well, runD, ownOk, outsD, List.range, List.range.loop, ownVars, putBack, s_read_in hw, z1, z2, s_law_is_told hw.1, n1, n2, s_law_plain, e1, e2, m1, m2, m3, h1, e3, r4, e4, fz_told, frzQ_fz]
  · simp [g__law_is_well, m__law_is_well, runD, ownOk, outsD, List.range, List.range.loop, ownVars, putBack, s_read_in hw, z1, z2, s_law_is_told hw.1, n1, n2, s_law_plain, e1, e2, m1, m2, m3, h1, fz_told, frzQ_fz]
/-! ### the law -/
theorem blsOf_true : ∀ n : Nat, blsOf (List.replicate n (.bl true)) = some (List.replicate n true)
  | 0 => rfl
  | n + 1 => by rw [List.replicate_succ, List.replicate_succ, blsOf, blsOf_true n]; rfl
def wlE : EM D := mCall g__law_is_well (mArgs [mVarA 10, mVarA 8, mVarA 6, mVarA 9])
theorem well_loop {i j s : Int} (hs : s.natAbs < 18446744073709551616) (e0 e1 e2 e3 e4 e5 e7 : Option D) : ∀ (ws : List Int) (acc : List D) (x : Option D), (∀ w ∈ ws, 0 ≤ w ∧ w ≤ 1000) →
    ∃ y, loopL (.nm 10) mYes wlE [10] (ws.map .int) acc [e0, e1, e2, e3, e4, e5, some (.int j), e7, some (.int i), some (.int s), x] = .ok (acc ++ List.replicate ws.length (.bl true), [e0, e1, e2, e3, e4, e5, some (.int j), e7, some (.int i), some (.int s), y])
  | [], acc, x, _ => ⟨x, by simp [loopL]⟩
  | w :: ws, acc, x, h => by
    obtain ⟨y, hy⟩ := well_loop hs e0 e1 e2 e3 e4 e5 e7 ws (acc ++ [.bl true]) (some (.int w)) fun v hv => h v (by simp [hv])
    refine ⟨y, ?_⟩
    have hw := s_law_is_well (i := i) (j := j) (h w (by simp)) hs
    simp [loopL, mTg, wipeE, wlE, ownVars, putBack, hw] at hy ⊢
    rw [hy]
    simp [List.replicate_succ]
theorem no_th : ∀ d ∈ ([.int (-1), .int 1001, .bl true, .bl false, .non, .str "4", .tup [.int 2], .lst false [.int 3], .int 1000000000000000000000000000000000000000, .int (-1000000000000000000000000000000000000000), .dic false [] []] : List D), okT d ∧ within d 0 1000 = false := by
  intro d hd
  simp only [List.mem_cons, List.not_mem_nil, or_false] at hd
  rcases hd with rfl | rfl | rfl | rfl | rfl | rfl | rfl | rfl | rfl | rfl | rfl <;> exact ⟨⟨by simp, rfl⟩, by decide⟩
theorem ni_th : ∀ d ∈ ([.bl true, .bl false, .non, .str "4", .tup [.int 2, .int 1], .lst false [.int 3], .dic false [] [], .tup []] : List D), okT d ∧ isInt d = false := by
  intro d hd
  simp only [List.mem_cons, List.not_mem_nil, or_false] at hd
  rcases hd with rfl | rfl | rfl | rfl | rfl | rfl | rfl | rfl <;> exact ⟨⟨by simp, rfl⟩, rfl⟩
def lwB : EM FlowD := (mSeq (mAsg 8 (mCall g__law_integer (mArgs [mVarA 1, mFrz (mBin ixD (mVarA 2) (mFrz (mCall g__law_pick (mArgs [mVarA 1, mFrz (mC (.int 4))]))))])))
  (mSeq (mAsg 9 (mBin subD (mFrz (mCall g__law_pick (mArgs [mVarA 1, mFrz (mC (.int 199))]))) (mFrz (mC (.int 99)))))
  (mSeq (mIfS (mNotT (mTB (mCB allD (mArgs [mFrz (mLc (mIt1 (mFrz (mVarE 3))) (.nm 10) (mYes) (mCall g__law_is_well (mArgs [mVarA 10, mVarA 8, mVarA 6, mVarA 9])) [10])])))) (mRet (mC (.bl false))) (mNext))
  (mAsg 6 (mVarE 8)))))
def hrs (a b c d : Int) : D := .lst true [.int (2 + a), .int (2 + b), .int (2 + c), .int (2 + d)]
def wds (o : Bool) (a b c d : Int) : D := .lst o [.int 0, .int 1, .int (2 + a), .int (2 + b), .int (2 + c), .int (2 + d)]
theorem ix_hrs (p q r s k : Int) (h : 0 ≤ k) (h2 : k < 4) : ∃ w : Int, ixD (hrs p q r s) (.int k) = some (.int w) := by
  have : k = 0 ∨ k = 1 ∨ k = 2 ∨ k = 3 := by omega
  rcases this with rfl | rfl | rfl | rfl
  · exact ⟨2 + p, by simp [hrs, ixD, atI, ixN, pick]⟩
  · exact ⟨2 + q, by simp [hrs, ixD, atI, ixN, pick]⟩
  · exact ⟨2 + r, by simp [hrs, ixD, atI, ixN, pick]⟩
  · exact ⟨2 + s, by simp [hrs, ixD, atI, ixN, pick]⟩
theorem ix_wds {o : Bool} {p q r s k : Int} (hp : 0 ≤ p ∧ p < 11) (hq : 0 ≤ q ∧ q < 11) (hr : 0 ≤ r ∧ r < 999) (hs : 0 ≤ s ∧ s < 999) (h : 0 ≤ k) (h2 : k < 6) : ∃ w : Int, ixD (wds o p q r s) (.int k) = some (.int w) ∧ 0 ≤ w ∧ w ≤ 1000 := by
  have : k = 0 ∨ k = 1 ∨ k = 2 ∨ k = 3 ∨ k = 4 ∨ k = 5 := by omega
  rcases this with rfl | rfl | rfl | rfl | rfl | rfl
  · exact ⟨0, by simp [wds, ixD, atI, ixN, pick], by omega, by omega⟩
  · exact ⟨1, by simp [wds, ixD, atI, ixN, pick], by omega, by omega⟩
  · exact ⟨2 + p, by simp [wds, ixD, atI, ixN, pick], by omega, by omega⟩
  · exact ⟨2 + q, by simp [wds, ixD, atI, ixN, pick], by omega, by omega⟩
  · exact ⟨2 + r, by simp [wds, ixD, atI, ixN, pick], by omega, by omega⟩
  · exact ⟨2 + s, by simp [wds, ixD, atI, ixN, pick], by omega, by omega⟩
theorem fz_hrs {a b c d : Int} : fz (hrs a b c d) = false := by simp [hrs]
theorem vE_fr (i : Nat) (env : EnvD) (o : Bool) (l : List D) (z : fzL l = true) (h : env.set i (some (.lst false l)) = env ∨ o = true) : vE i env (some (some (.lst o l))) = .ok (.lst false l, env.set i (some (.lst false l))) := by
  cases o with
  | true => simp [vE, frz, frzL_fz l z]
  | false =>
    rcases h with h | h
    · simp [vE, z, h]
    · cases h
theorem lw_one (cells : List Int) (a b c p q r s last : Int) (o : Bool) (hp : 0 ≤ p ∧ p < 11) (hq : 0 ≤ q ∧ q < 11) (hr : 0 ≤ r ∧ r < 999) (hs : 0 ≤ s ∧ s < 999) (e0 e4 e5 t x y z : Option D) :
    ∃ a' b' c' last' x' y', lwB [e0, some (dk cells a b c), some (hrs p q r s), some (wds o p q r s), e4, e5, some (.int last), t, x, y, z] = .ok (.next, [e0, some (dk cells a' b' c'), some (hrs p q r s), some (wds false p q r s), e4, e5, some (.int last'), t, x', y', restV [e0, some (dk cells a' b' c'), some (hrs p q r s), some (wds false p q r s), e4, e5, some (.int last), t, x', y', z] 10]) := by
  obtain ⟨k, a1, b1, c1, h1, h2, h3⟩ := s_law_pick cells a b c (m := 4) (by decide) (by decide)
  obtain ⟨w, hw⟩ := ix_hrs p q r s k h2 h3
  obtain ⟨n, a2, b2, c2, k1⟩ := s_law_integer cells a1 b1 c1 w
  obtain ⟨u, a3, b3, c3, l1, l2, l3⟩ := s_law_pick cells a2 b2 c2 (m := 199) (by decide) (by decide)
  obtain ⟨v, hv⟩ := well_loop (i := n) (j := last) (s := u - 99) (by omega) e0 (some (dk cells a3 b3 c3)) (some (hrs p q r s)) (some (wds false p q r s)) e4 e5 t [0, 1, 2 + p, 2 + q, 2 + r, 2 + s] [] z (by
    intro w hw
    simp at hw
    omega)
  have hsq : seqI [.lst false [.int 0, .int 1, .int (2 + p), .int (2 + q), .int (2 + r), .int (2 + s)]] = some [.int 0, .int 1, .int (2 + p), .int (2 + q), .int (2 + r), .int (2 + s)] := by simp [seqI]
  have hlc : ∀ (e : EnvD), kLc (.nm 10) mYes wlE [10] ([.int 0, .int 1, .int (2 + p), .int (2 + q), .int (2 + r), .int (2 + s)], e) = (loopL (.nm 10) mYes wlE [10] [.int 0, .int 1, .int (2 + p), .int (2 + q), .int (2 + r), .int (2 + s)] [] e).bind (kLc2 e [10]) := fun e => kLc_ok (by simp) (by simp)
  have hve : ∀ env : EnvD, env.set 3 (some (.lst false [.int 0, .int 1, .int (2 + p), .int (2 + q), .int (2 + r), .int (2 + s)])) = env ∨ o = true → vE 3 env (some (some (.lst o [.int 0, .int 1, .int (2 + p), .int (2 + q), .int (2 + r), .int (2 + s)]))) = .ok (.lst false [.int 0, .int 1, .int (2 + p), .int (2 + q), .int (2 + r), .int (2 + s)], env.set 3 (some (.lst false [.int 0, .int 1, .int (2 + p), .int (2 + q), .int (2 + r), .int (2 + s)]))) := fun env h => vE_fr 3 env o _ (by simp) h
  have hall : allD [.lst false [.bl true, .bl true, .bl true, .bl true, .bl true, .bl true]] = some (.bl true) := rfl
  have hfr : frzQ (.lst true [.bl true, .bl true, .bl true, .bl true, .bl true, .bl true]) = .lst false [.bl true, .bl true, .bl true, .bl true, .bl true, .bl true] := frz_lstt (by simp)
  refine ⟨a3, b3, c3, n, some (.int n), some (.int (u - 99)), ?_⟩
  simp [List.replicate_succ] at hv
  simp only [wlE] at hv hlc
  simp only [wds] at hv ⊢
  cases o with
  | true =>
    simp [lwB, runD, ownOk, outsD, List.range, List.range.loop, ownVars, putBack, h1, hw, fz_hrs, k1, l1, hve, sqV_ok hsq, hlc, hv, hall, hfr, restE, frzQ_fz]
  | false =>
    simp [lwB, runD, ownOk, outsD, List.range, List.range.loop, ownVars, putBack, h1, hw, fz_hrs, k1, l1, sqV_ok hsq, hlc, hv, hall, hfr, restE, frzQ_fz]
end Mi
namespace Mi
open PySem PySem.Spec PyProof.Rows L2
theorem lw_loop (cells : List Int) (p q r s : Int) (hp : 0 ≤ p ∧ p < 11) (hq : 0 ≤ q ∧ q < 11) (hr : 0 ≤ r ∧ r < 999) (hs : 0 ≤ s ∧ s < 999) (e0 e4 e5 : Option D) : ∀ (ds : List D) (a b c last : Int) (o : Bool) (t x y z : Option D),
    ∃ a' b' c' last' o' t' x' y' z', loopF (.nm 7) lwB ds [e0, some (dk cells a b c), some (hrs p q r s), some (wds o p q r s), e4, e5, some (.int last), t, x, y, z] = .ok (.next, [e0, some (dk cells a' b' c'), some (hrs p q r s), some (wds o' p q r s), e4, e5, some (.int last'), t', x', y', z'])
  | [], a, b, c, last, o, t, x, y, z => ⟨a, b, c, last, o, t, x, y, z, rfl⟩
  | d :: ds, a, b, c, last, o, t, x, y, z => by
    obtain ⟨a1, b1, c1, l1, x1, y1, h1⟩ := lw_one cells a b c p q r s last o hp hq hr hs e0 e4 e5 (some d) x y z
    obtain ⟨a2, b2, c2, l2, o2, t2, x2, y2, z2, h2⟩ := lw_loop cells p q r s hp hq hr hs e0 e4 e5 ds a1 b1 c1 l1 false (some d) x1 y1 _
    refine ⟨a2, b2, c2, l2, o2, t2, x2, y2, z2, ?_⟩
    rw [e_lp, tg_nm, lpV_ok]
    simp only [List.set_cons_succ, List.set_cons_zero]
    rw [h1, bind_ok, kLp_next, h2]
theorem law_true (ns : List Int) (hl : ns.length ≤ 63) (hb : ∀ z ∈ ns, PySem.Builtin.Int.intBits z ≤ 1048576) : ∃ outs, g_law [.scr ns] = .ok (.bl true, outs) := by
  obtain ⟨cells, h0⟩ := s_law_deck hl
  obtain ⟨p, a1, b1, c1, h1, p1, p2⟩ := s_law_pick cells 0 0 0 (m := 11) (by decide) (by decide)
  obtain ⟨q, a2, b2, c2, h2, q1, q2⟩ := s_law_pick cells a1 b1 c1 (m := 11) (by decide) (by decide)
  obtain ⟨r, a3, b3, c3, h3, r1, r2⟩ := s_law_pick cells a2 b2 c2 (m := 999) (by decide) (by decide)
  obtain ⟨s, a4, b4, c4, h4, s1, s2⟩ := s_law_pick cells a3 b3 c3 (m := 999) (by decide) (by decide)
  obtain ⟨k, a5, b5, c5, h5, k1, k2⟩ := s_law_pick cells a4 b4 c4 (m := 11) (by decide) (by decide)
  obtain ⟨j, a6, b6, c6, h6, j1, j2⟩ := s_law_pick cells a5 b5 c5 (m := 8) (by decide) (by decide)
  obtain ⟨nw, hnw, enw⟩ := ixD_lst (o := false) k1 (l := [.int (-1), .int 1001, .bl true, .bl false, .non, .str "4", .tup [.int 2], .lst false [.int 3], .int 1000000000000000000000000000000000000000, .int (-1000000000000000000000000000000000000000), .dic false [] []]) (by simpa using k2) (by simp)
  obtain ⟨ni, hni, eni⟩ := ixD_lst (o := false) j1 (l := [.bl true, .bl false, .non, .str "4", .tup [.int 2, .int 1], .lst false [.int 3], .dic false [] [], .tup []]) (by simpa using j2) (by simp)
  obtain ⟨nw1, nw2⟩ := no_th nw hnw
  obtain ⟨ni1, ni2⟩ := ni_th ni hni
  have znw := nw1.1
  have zni := ni1.1
  obtain ⟨last, a7, b7, c7, h7⟩ := s_law_integer cells a6 b6 c6 (2 + p)
  have hn : (if (63 : Int) < ns.length then 63 else (ns.length : Int)) + 2 < 2 ^ 62 ∧ -(2 ^ 62) ≤ (if (63 : Int) < ns.length then 63 else (ns.length : Int)) + 2 := by split <;> omega
  have hr : rng1 [.int ((if (63 : Int) < ns.length then 63 else (ns.length : Int)) + 2)] = some (rngD 0 ((if (63 : Int) < ns.length then 63 else (ns.length : Int)) + 2).toNat) := by
    show (if _ then _ else _) = _
    rw [if_pos hn]
  have hz : ∀ n, fzL (rngD 0 n) = true := fun n => fzL_map _ (fun _ => by simp) _
  obtain ⟨a8, b8, c8, l8, o8, t8, x8, y8, z8, h8⟩ := lw_loop cells p q r s ⟨p1, p2⟩ ⟨q1, q2⟩ ⟨r1, r2⟩ ⟨s1, s2⟩ (some (.scr ns)) (some nw) (some ni) (rngD 0 ((if (63 : Int) < ns.length then 63 else (ns.length : Int)) + 2).toNat) a7 b7 c7 last true none none none none
  obtain ⟨u, a9, b9, c9, h9, u1, u2⟩ := s_law_pick cells a8 b8 c8 (m := 6) (by decide) (by decide)
  obtain ⟨w, ew, w1, w2⟩ := ix_wds (o := o8) ⟨p1, p2⟩ ⟨q1, q2⟩ ⟨r1, r2⟩ ⟨s1, s2⟩ u1 u2
  have hadd : addD (.lst false [.int 0, .int 1]) (.lst true [.int (2 + p), .int (2 + q), .int (2 + r), .int (2 + s)]) = some (wds true p q r s) := by
    simp [addD, wds, sizeLine_eq]
  have hfz : frzQ (.dic true [] []) = .dic false [] [] := by simp [frzQ, frz, frzL]
  have hix : ixD (.lst true [.int (2 + p), .int (2 + q), .int (2 + r), .int (2 + s)]) (.int 0) = some (.int (2 + p)) := by simp [ixD, atI, ixN, pick]
  have f1 := s_law_refusal1 nw1 nw2 zni
  have f2 := s_law_refusal1 (e := .int l8) nw1 nw2 (by simp)
  have f3 := s_law_refusal2 ⟨w1, w2⟩ ni1 ni2
  have f4 := s_law_refusal3 ⟨w1, w2⟩ l8
  simp only [lwB] at h8
  refine ⟨[some (.scr ns)], ?_⟩
  simp only [hrs] at h8
  simp [g_law, m_law, runD, ownOk, outsD, List.range, List.range.loop, ownVars, putBack, h0, h1, h2, h3, h4, h5, h6, h7, pow_39, frz_lstt, frzQ_fz, hfz, enw, eni, hadd, hix, minD, lenD, rV_ok hr, kFor_ok (hz _), h8, h9, ew, znw, zni, f1, f2, f3, f4]
end Mi
namespace Mi
open PySem PySem.Spec PyProof.Rows L2
def top (i : Nat) : Stmt := PySem.Challenge.pw_elderalike_k02_whole_read_in.main.body.getD i (.Pass ⟨0, 0, 0, 0⟩)
structure Txt (C : KM) (xNoNumber xNoWorld : Addr) : Prop where
  n_abs : C.mg "abs" = none
  n_all : C.mg "all" = none
  n_bool : C.mg "bool" = none
  n_int : C.mg "int" = none
  n_isinstance : C.mg "isinstance" = none
  n_len : C.mg "len" = none
  n_min : C.mg "min" = none
  n_range : C.mg "range" = none
  n_tuple : C.mg "tuple" = none
  c_FRACTIONS : ∃ t, C.mg "FRACTIONS" = some (.int 1 t)
  c_MOST_HOURS : ∃ t, C.mg "MOST_HOURS" = some (.int 1000 t)
  c_WHOLE : ∃ t, C.mg "WHOLE" = some (.int 0 t)
  e_NoNumber : ExcC C "NoNumber"
  g_NoNumber : C.mg "NoNumber" = some (.ref xNoNumber)
  e_NoWorld : ExcC C "NoWorld"
  g_NoWorld : C.mg "NoWorld" = some (.ref xNoWorld)
  y_NoNumber : ∀ n ∈ yes_NoNumber, ∀ u, C.mg n = some u → PySem.W.exmOne C.K u (.ref xNoNumber) = some true
  o_NoNumber : ∀ n ∈ no_NoNumber, ∀ u, C.mg n = some u → PySem.W.exmOne C.K u (.ref xNoNumber) = some false
  y_NoWorld : ∀ n ∈ yes_NoWorld, ∀ u, C.mg n = some u → PySem.W.exmOne C.K u (.ref xNoWorld) = some true
  o_NoWorld : ∀ n ∈ no_NoWorld, ∀ u, C.mg n = some u → PySem.W.exmOne C.K u (.ref xNoWorld) = some false
theorem sc__law_deck : FnScope ["_law_script", "_law_cell"] ["_law_script"] (defScope (top 21)) := ⟨rfl, rfl, rfl, by decide +kernel, rfl, by decide +kernel, by decide +kernel⟩
theorem b__law_deck {C : KM} {xNoNumber xNoWorld : Addr} (T : Txt C xNoNumber xNoWorld)  (base : Heap) (f : Addr) (cdv : Value) (A : Around) (outer : List Env) (s : Shared) (H : Hp) (E : XK) (vs : List V) (W : WX) (g : Go (CxD C base ["_law_script", "_law_cell"] "_law_deck" (defScope (top 21)) f cdv A outer s H E) ⟨C, vs, [0]⟩ W 0) : PSs (CxD C base ["_law_script", "_law_cell"] "_law_deck" (defScope (top 21)) f cdv A outer s H E) (defBody (top 21)) (tS ⟨C, vs, [0]⟩ W m__law_deck) :=
  (rs_one (rs_ret (r_lst (r_cons (r_frz (r_lc g [("_law_cell", 1)] (.nm 1) (show (1 : Nat) ∉ [0] by decide) (show ∀ i ∈ [0], i ∉ [1] by decide) (show (1 : Nat) ∈ [1] by decide) (ri_val g.toSt0 (r_frz (r_sl g.toSt0 (r_varA 0 rfl (by first | exact .inl rfl | exact .inr (.inl rfl) | exact .inr (.inr rfl))) r_noP (r_part r_int)))) (blkOk_by (N := ["_law_script", "_law_cell"]) (sc := defScope (top 21)) (by decide +kernel)) (fun _ _ _ _ _ => (rg_nm (g.blk ..).toSt0 1 rfl (by first | exact .inl rfl | exact .inr rfl))) (fun _ _ _ _ _ g => rts_nil) (fun _ _ _ _ _ g => (r_cty g.toSt0 (call_intD) T.n_int (by rfl) rfl (r_cons (r_varA 1 rfl (by first | exact .inl rfl | exact .inr (.inl rfl) | exact .inr (.inr rfl))) r_nil))))) (r_cons (r_frz r_int) (r_cons (r_frz r_int) (r_cons (r_frz r_int) r_nil)))))))
theorem sc__law_pick : FnScope ["_law_deck_here", "_law_many", "_law_found", "_law_cells", "_law_cell", "_law_number"] ["_law_deck_here", "_law_many"] (defScope (top 22)) := ⟨rfl, rfl, rfl, by decide +kernel, rfl, by decide +kernel, by decide +kernel⟩
theorem b__law_pick {C : KM} {xNoNumber xNoWorld : Addr} (T : Txt C xNoNumber xNoWorld)  (base : Heap) (f : Addr) (cdv : Value) (A : Around) (outer : List Env) (s : Shared) (H : Hp) (E : XK) (vs : List V) (W : WX) (g : Go (CxD C base ["_law_deck_here", "_law_many", "_law_found", "_law_cells", "_law_cell", "_law_number"] "_law_pick" (defScope (top 22)) f cdv A outer s H E) ⟨C, vs, [0, 1]⟩ W 0) : PSs (CxD C base ["_law_deck_here", "_law_many", "_law_found", "_law_cells", "_law_cell", "_law_number"] "_law_pick" (defScope (top 22)) f cdv A outer s H E) (defBody (top 22)) (tS ⟨C, vs, [0, 1]⟩ W m__law_pick) :=
  (rs_cons (rs_put 0 rfl (by first | exact .inl rfl | exact .inr (.inl rfl) | exact .inr (.inr rfl)) r_int (r_bin g.toSt0 rfl (r_frz (r_ix g.toSt0 (r_varA 0 rfl (by first | exact .inl rfl | exact .inr (.inl rfl) | exact .inr (.inr rfl))) (r_frz r_int))) (r_frz r_int)))
  (rs_cons (rs_if (rt_cmp g.toSt0 rfl (r_frz (r_ix g.toSt0 (r_varA 0 rfl (by first | exact .inl rfl | exact .inr (.inl rfl) | exact .inr (.inr rfl))) (r_frz r_int))) (r_frz r_int)) (rs_cons (rs_set g.toSt0 2 (show (2 : Nat) ∉ [0, 1] by decide) rfl (by first | exact .inl rfl | exact .inr rfl) (r_bin g.toSt0 rfl (r_frz (r_cty g.toSt0 (call_intD) T.n_int (by rfl) rfl (r_cons (r_frz (r_ix g.toSt0 (r_varA 0 rfl (by first | exact .inl rfl | exact .inr (.inl rfl) | exact .inr (.inr rfl))) (r_frz r_int))) r_nil))) (r_varA 1 rfl (by first | exact .inl rfl | exact .inr (.inl rfl) | exact .inr (.inr rfl)))))
  (rs_cons (rs_put 0 rfl (by first | exact .inl rfl | exact .inr (.inl rfl) | exact .inr (.inr rfl)) r_int (r_bin g.toSt0 rfl (r_frz (r_cty g.toSt0 (call_intD) T.n_int (by rfl) rfl (r_cons (r_frz (r_ix g.toSt0 (r_varA 0 rfl (by first | exact .inl rfl | exact .inr (.inl rfl) | exact .inr (.inr rfl))) (r_frz r_int))) r_nil))) (r_varA 1 rfl (by first | exact .inl rfl | exact .inr (.inl rfl) | exact .inr (.inr rfl)))))
  (rs_one (rs_ret (r_varM 2 2 rfl (by first | exact .inl rfl | exact .inr (.inl rfl) | exact .inr (.inr rfl))))))) rs_nil)
  (rs_cons (rs_set g.toSt0 3 (show (3 : Nat) ∉ [0, 1] by decide) rfl (by first | exact .inl rfl | exact .inr rfl) (r_ix g.toSt0 (r_varA 0 rfl (by first | exact .inl rfl | exact .inr (.inl rfl) | exact .inr (.inr rfl))) (r_frz r_int)))
  (rs_cons (rs_set g.toSt0 4 (show (4 : Nat) ∉ [0, 1] by decide) rfl (by first | exact .inl rfl | exact .inr rfl) r_int)
  (rs_cons (rs_if (rt_cmp g.toSt0 rfl (r_frz (r_cb g.toSt0 (call_lenDD g.k.symm) T.n_len (by rfl) rfl (r_cons (r_varA 3 rfl (by first | exact .inl rfl | exact .inr (.inl rfl) | exact .inr (.inr rfl))) r_nil))) (r_frz r_int)) (rs_one (rs_set g.toSt0 4 (show (4 : Nat) ∉ [0, 1] by decide) rfl (by first | exact .inl rfl | exact .inr rfl) (r_ix g.toSt0 (r_varA 3 rfl (by first | exact .inl rfl | exact .inr (.inl rfl) | exact .inr (.inr rfl))) (r_frz (r_bin g.toSt0 rfl (r_frz (r_cty g.toSt0 (call_intD) T.n_int (by rfl) rfl (r_cons (r_frz (r_ix g.toSt0 (r_varA 0 rfl (by first | exact .inl rfl | exact .inr (.inl rfl) | exact .inr (.inr rfl))) (r_frz r_int))) r_nil))) (r_frz (r_cb g.toSt0 (call_lenDD g.k.symm) T.n_len (by rfl) rfl (r_cons (r_varA 3 rfl (by first | exact .inl rfl | exact .inr (.inl rfl) | exact .inr (.inr rfl))) r_nil)))))))) rs_nil)
  (rs_cons (rs_put 0 rfl (by first | exact .inl rfl | exact .inr (.inl rfl) | exact .inr (.inr rfl)) r_int (r_bin g.toSt0 rfl (r_frz (r_ix g.toSt0 (r_varA 0 rfl (by first | exact .inl rfl | exact .inr (.inl rfl) | exact .inr (.inr rfl))) (r_frz r_int))) (r_frz r_int)))
  (rs_cons (rs_if (PW.pt (rt_and (rt_cmp g.toSt0 rfl (r_varA 4 rfl (by first | exact .inl rfl | exact .inr (.inl rfl) | exact .inr (.inr rfl))) (r_frz (r_bin g.toSt0 rfl (r_frz r_int) (r_frz r_int)))) (rt_and1 (rt_cmp g.toSt0 rfl (r_frz (r_ix g.toSt0 (r_varA 0 rfl (by first | exact .inl rfl | exact .inr (.inl rfl) | exact .inr (.inr rfl))) (r_frz r_int))) (r_frz (r_cb g.toSt0 (call_lenDD g.k.symm) T.n_len (by rfl) rfl (r_cons (r_varA 3 rfl (by first | exact .inl rfl | exact .inr (.inl rfl) | exact .inr (.inr rfl))) r_nil))))))) (rs_cons (rs_put 0 rfl (by first | exact .inl rfl | exact .inr (.inl rfl) | exact .inr (.inr rfl)) r_int (r_bin g.toSt0 rfl (r_frz (r_cty g.toSt0 (call_intD) T.n_int (by rfl) rfl (r_cons (r_varA 4 rfl (by first | exact .inl rfl | exact .inr (.inl rfl) | exact .inr (.inr rfl))) r_nil))) (r_varA 1 rfl (by first | exact .inl rfl | exact .inr (.inl rfl) | exact .inr (.inr rfl)))))
  (rs_one (rs_ret (r_bin g.toSt0 rfl (r_frz (r_cty g.toSt0 (call_intD) T.n_int (by rfl) rfl (r_cons (r_varA 4 rfl (by first | exact .inl rfl | exact .inr (.inl rfl) | exact .inr (.inr rfl))) r_nil))) (r_varA 1 rfl (by first | exact .inl rfl | exact .inr (.inl rfl) | exact .inr (.inr rfl))))))) rs_nil)
  (rs_cons (rs_set g.toSt0 5 (show (5 : Nat) ∉ [0, 1] by decide) rfl (by first | exact .inl rfl | exact .inr rfl) (r_bin g.toSt0 rfl (r_frz (r_bin g.toSt0 rfl (r_frz (r_cty g.toSt0 (call_intD) T.n_int (by rfl) rfl (r_cons (r_frz (r_bin g.toSt0 rfl (r_frz (r_bin g.toSt0 rfl (r_varA 4 rfl (by first | exact .inl rfl | exact .inr (.inl rfl) | exact .inr (.inr rfl))) (r_frz (r_bin g.toSt0 rfl (r_frz r_int) (r_frz (r_ix g.toSt0 (r_varA 0 rfl (by first | exact .inl rfl | exact .inr (.inl rfl) | exact .inr (.inr rfl))) (r_frz r_int))))))) (r_frz r_int))) r_nil))) (r_frz r_int))) (r_frz r_int)))
  (rs_cons (rs_set g.toSt0 5 (show (5 : Nat) ∉ [0, 1] by decide) rfl (by first | exact .inl rfl | exact .inr rfl) (r_bin g.toSt0 rfl (r_frz (r_bin g.toSt0 rfl (r_varA 5 rfl (by first | exact .inl rfl | exact .inr (.inl rfl) | exact .inr (.inr rfl))) (r_frz (r_bin g.toSt0 rfl (r_frz (r_bin g.toSt0 rfl (r_varA 5 rfl (by first | exact .inl rfl | exact .inr (.inl rfl) | exact .inr (.inr rfl))) (r_frz r_int))) (r_frz r_int))))) (r_frz r_int)))
  (rs_cons (rs_set g.toSt0 5 (show (5 : Nat) ∉ [0, 1] by decide) rfl (by first | exact .inl rfl | exact .inr rfl) (r_bin g.toSt0 rfl (r_frz (r_bin g.toSt0 rfl (r_varA 5 rfl (by first | exact .inl rfl | exact .inr (.inl rfl) | exact .inr (.inr rfl))) (r_frz (r_bin g.toSt0 rfl (r_frz (r_bin g.toSt0 rfl (r_varA 5 rfl (by first | exact .inl rfl | exact .inr (.inl rfl) | exact .inr (.inr rfl))) (r_frz r_int))) (r_frz r_int))))) (r_frz r_int)))
  (rs_one (rs_ret (r_bin g.toSt0 rfl (r_varA 5 rfl (by first | exact .inl rfl | exact .inr (.inl rfl) | exact .inr (.inr rfl))) (r_varA 1 rfl (by first | exact .inl rfl | exact .inr (.inl rfl) | exact .inr (.inr rfl))))))))))))))))
theorem sc__law_long : FnScope ["_law_deck_here", "_law_number", "_law_part"] ["_law_deck_here"] (defScope (top 23)) := ⟨rfl, rfl, rfl, by decide +kernel, rfl, by decide +kernel, by decide +kernel⟩
theorem b__law_long {C : KM} {xNoNumber xNoWorld : Addr} (T : Txt C xNoNumber xNoWorld) (F__law_pick : Fn C 1 "_law_pick" g__law_pick) (base : Heap) (f : Addr) (cdv : Value) (A : Around) (outer : List Env) (s : Shared) (H : Hp) (E : XK) (vs : List V) (W : WX) (g : Go (CxD C base ["_law_deck_here", "_law_number", "_law_part"] "_law_long" (defScope (top 23)) f cdv A outer s H E) ⟨C, vs, [0]⟩ W 1) : PSs (CxD C base ["_law_deck_here", "_law_number", "_law_part"] "_law_long" (defScope (top 23)) f cdv A outer s H E) (defBody (top 23)) (tS ⟨C, vs, [0]⟩ W m__law_long) :=
  (rs_cons (rs_set g.toSt0 1 (show (1 : Nat) ∉ [0] by decide) rfl (by first | exact .inl rfl | exact .inr rfl) r_int)
  (rs_cons (rs_for g (.nm 2) (show (2 : Nat) ∉ [0] by decide) (ri_rng1 g.toSt0 T.n_range rfl (r_cons (r_frz r_int) r_nil)) (rg_nm g.toSt0 2 rfl (by first | exact .inl rfl | exact .inr rfl)) (rs_one (rs_set g.toSt0 1 (show (1 : Nat) ∉ [0] by decide) rfl (by first | exact .inl rfl | exact .inr rfl) (r_bin g.toSt0 rfl (r_frz (r_bin g.toSt0 rfl (r_varA 1 rfl (by first | exact .inl rfl | exact .inr (.inl rfl) | exact .inr (.inr rfl))) (r_frz (r_bin g.toSt0 rfl (r_frz r_int) (r_frz r_int))))) (r_frz (r_call g F__law_pick (by decide) rfl (r_cons (r_varA 0 rfl (by first | exact .inl rfl | exact .inr (.inl rfl) | exact .inr (.inr rfl))) (r_cons (r_frz (r_bin g.toSt0 rfl (r_frz r_int) (r_frz r_int))) r_nil))))))))
  (rs_one (rs_ret (r_bin g.toSt0 rfl (r_varA 1 rfl (by first | exact .inl rfl | exact .inr (.inl rfl) | exact .inr (.inr rfl))) (r_frz (r_bin g.toSt0 rfl (r_frz r_int) (r_frz (r_bin g.toSt0 rfl (r_frz r_int) (r_frz (r_call g F__law_pick (by decide) rfl (r_cons (r_varA 0 rfl (by first | exact .inl rfl | exact .inr (.inl rfl) | exact .inr (.inr rfl))) (r_cons (r_frz r_int) r_nil)))))))))))))
theorem sc__law_integer : FnScope ["_law_deck_here", "_law_hours", "_law_sort"] ["_law_deck_here", "_law_hours"] (defScope (top 24)) := ⟨rfl, rfl, rfl, by decide +kernel, rfl, by decide +kernel, by decide +kernel⟩
theorem b__law_integer {C : KM} {xNoNumber xNoWorld : Addr} (T : Txt C xNoNumber xNoWorld) (F__law_pick : Fn C 1 "_law_pick" g__law_pick) (F__law_long : Fn C 2 "_law_long" g__law_long) (base : Heap) (f : Addr) (cdv : Value) (A : Around) (outer : List Env) (s : Shared) (H : Hp) (E : XK) (vs : List V) (W : WX) (g : Go (CxD C base ["_law_deck_here", "_law_hours", "_law_sort"] "_law_integer" (defScope (top 24)) f cdv A outer s H E) ⟨C, vs, [0, 1]⟩ W 2) : PSs (CxD C base ["_law_deck_here", "_law_hours", "_law_sort"] "_law_integer" (defScope (top 24)) f cdv A outer s H E) (defBody (top 24)) (tS ⟨C, vs, [0, 1]⟩ W m__law_integer) :=
  (rs_cons (rs_set g.toSt0 2 (show (2 : Nat) ∉ [0, 1] by decide) rfl (by first | exact .inl rfl | exact .inr rfl) (r_call g F__law_pick (by decide) rfl (r_cons (r_varA 0 rfl (by first | exact .inl rfl | exact .inr (.inl rfl) | exact .inr (.inr rfl))) (r_cons (r_frz r_int) r_nil))))
  (rs_cons (rs_if (rt_cmp g.toSt0 rfl (r_varA 2 rfl (by first | exact .inl rfl | exact .inr (.inl rfl) | exact .inr (.inr rfl))) (r_frz r_int)) (rs_one (rs_ret (r_bin g.toSt0 rfl (r_frz (r_call g F__law_pick (by decide) rfl (r_cons (r_varA 0 rfl (by first | exact .inl rfl | exact .inr (.inl rfl) | exact .inr (.inr rfl))) (r_cons (r_frz r_int) r_nil)))) (r_frz r_int)))) rs_nil)
  (rs_cons (rs_if (rt_cmp g.toSt0 rfl (r_varA 2 rfl (by first | exact .inl rfl | exact .inr (.inl rfl) | exact .inr (.inr rfl))) (r_frz r_int)) (rs_one (rs_ret (r_bin g.toSt0 rfl (r_frz (r_bin g.toSt0 rfl (r_frz (r_bin g.toSt0 rfl (r_varA 1 rfl (by first | exact .inl rfl | exact .inr (.inl rfl) | exact .inr (.inr rfl))) (r_frz (r_bin g.toSt0 rfl (r_frz (r_call g F__law_pick (by decide) rfl (r_cons (r_varA 0 rfl (by first | exact .inl rfl | exact .inr (.inl rfl) | exact .inr (.inr rfl))) (r_cons (r_frz r_int) r_nil)))) (r_frz r_int))))) (r_frz (r_call g F__law_pick (by decide) rfl (r_cons (r_varA 0 rfl (by first | exact .inl rfl | exact .inr (.inl rfl) | exact .inr (.inr rfl))) (r_cons (r_frz r_int) r_nil)))))) (r_frz r_int)))) rs_nil)
  (rs_one (rs_ret (r_call g F__law_long (by decide) rfl (r_cons (r_varA 0 rfl (by first | exact .inl rfl | exact .inr (.inl rfl) | exact .inr (.inr rfl))) r_nil)))))))
theorem sc_is_integer : FnScope ["thing"] ["thing"] (defScope (top 5)) := ⟨rfl, rfl, rfl, by decide +kernel, rfl, by decide +kernel, by decide +kernel⟩
theorem b_is_integer {C : KM} {xNoNumber xNoWorld : Addr} (T : Txt C xNoNumber xNoWorld)  (base : Heap) (f : Addr) (cdv : Value) (A : Around) (outer : List Env) (s : Shared) (H : Hp) (E : XK) (vs : List V) (W : WX) (g : Go (CxD C base ["thing"] "is_integer" (defScope (top 5)) f cdv A outer s H E) ⟨C, vs, [0]⟩ W 0) : PSs (CxD C base ["thing"] "is_integer" (defScope (top 5)) f cdv A outer s H E) (defBody (top 5)) (tS ⟨C, vs, [0]⟩ W m_is_integer) :=
  (rs_one (rs_ret (r_and (r_isi g.toSt0 .tInt (r_varA 0 rfl (by first | exact .inl rfl | exact .inr (.inl rfl) | exact .inr (.inr rfl))) T.n_isinstance T.n_int rfl rfl (by rfl) (by rfl)) (r_one (r_not (r_isi g.toSt0 .tBool (r_varA 0 rfl (by first | exact .inl rfl | exact .inr (.inl rfl) | exact .inr (.inr rfl))) T.n_isinstance T.n_bool rfl rfl (by rfl) (by rfl)))))))
theorem sc_is_within : FnScope ["thing", "least", "most"] ["thing", "least", "most"] (defScope (top 6)) := ⟨rfl, rfl, rfl, by decide +kernel, rfl, by decide +kernel, by decide +kernel⟩
theorem b_is_within {C : KM} {xNoNumber xNoWorld : Addr} (T : Txt C xNoNumber xNoWorld) (F_is_integer : Fn C 1 "is_integer" g_is_integer) (base : Heap) (f : Addr) (cdv : Value) (A : Around) (outer : List Env) (s : Shared) (H : Hp) (E : XK) (vs : List V) (W : WX) (g : Go (CxD C base ["thing", "least", "most"] "is_within" (defScope (top 6)) f cdv A outer s H E) ⟨C, vs, [0, 1, 2]⟩ W 1) : PSs (CxD C base ["thing", "least", "most"] "is_within" (defScope (top 6)) f cdv A outer s H E) (defBody (top 6)) (tS ⟨C, vs, [0, 1, 2]⟩ W m_is_within) :=
  (rs_one (rs_ret (r_and (r_call g F_is_integer (by decide) rfl (r_cons (r_varA 0 rfl (by first | exact .inl rfl | exact .inr (.inl rfl) | exact .inr (.inr rfl))) r_nil)) (r_one (r_chain g.toSt0 rfl rfl (r_varA 1 rfl (by first | exact .inl rfl | exact .inr (.inl rfl) | exact .inr (.inr rfl))) (r_varA 0 rfl (by first | exact .inl rfl | exact .inr (.inl rfl) | exact .inr (.inr rfl))) (r_varA 2 rfl (by first | exact .inl rfl | exact .inr (.inl rfl) | exact .inr (.inr rfl))))))))
theorem sc_is_world : FnScope ["thing"] ["thing"] (defScope (top 14)) := ⟨rfl, rfl, rfl, by decide +kernel, rfl, by decide +kernel, by decide +kernel⟩
theorem b_is_world {C : KM} {xNoNumber xNoWorld : Addr} (T : Txt C xNoNumber xNoWorld) (F_is_within : Fn C 2 "is_within" g_is_within) (base : Heap) (f : Addr) (cdv : Value) (A : Around) (outer : List Env) (s : Shared) (H : Hp) (E : XK) (vs : List V) (W : WX) (g : Go (CxD C base ["thing"] "is_world" (defScope (top 14)) f cdv A outer s H E) ⟨C, vs, [0]⟩ W 2) : PSs (CxD C base ["thing"] "is_world" (defScope (top 14)) f cdv A outer s H E) (defBody (top 14)) (tS ⟨C, vs, [0]⟩ W m_is_world) :=
  (rs_one (rs_ret (r_call g F_is_within (by decide) rfl (r_cons (r_varA 0 rfl (by first | exact .inl rfl | exact .inr (.inl rfl) | exact .inr (.inr rfl))) (r_cons (r_frz (r_gInt g.toSt0 T.c_WHOLE rfl)) (r_cons (r_frz (r_gInt g.toSt0 T.c_MOST_HOURS rfl)) r_nil))))))
theorem sc_check_world : FnScope ["world"] ["world"] (defScope (top 15)) := ⟨rfl, rfl, rfl, by decide +kernel, rfl, by decide +kernel, by decide +kernel⟩
theorem b_check_world {C : KM} {xNoNumber xNoWorld : Addr} (T : Txt C xNoNumber xNoWorld) (F_is_world : Fn C 3 "is_world" g_is_world) (base : Heap) (f : Addr) (cdv : Value) (A : Around) (outer : List Env) (s : Shared) (H : Hp) (E : XK) (vs : List V) (W : WX) (g : Go (CxD C base ["world"] "check_world" (defScope (top 15)) f cdv A outer s H E) ⟨C, vs, [0]⟩ W 3) : PSs (CxD C base ["world"] "check_world" (defScope (top 15)) f cdv A outer s H E) (defBody (top 15)) (tS ⟨C, vs, [0]⟩ W m_check_world) :=
  (rs_one (rs_if (rt_not (rt_bl (r_call g F_is_world (by decide) rfl (r_cons (r_varA 0 rfl (by first | exact .inl rfl | exact .inr (.inl rfl) | exact .inr (.inr rfl))) r_nil)))) (rs_one (rs_raise0 g T.e_NoWorld rfl)) rs_nil))
theorem sc_told_in : FnScope ["world", "integer"] ["world", "integer"] (defScope (top 18)) := ⟨rfl, rfl, rfl, by decide +kernel, rfl, by decide +kernel, by decide +kernel⟩
theorem b_told_in {C : KM} {xNoNumber xNoWorld : Addr} (T : Txt C xNoNumber xNoWorld)  (base : Heap) (f : Addr) (cdv : Value) (A : Around) (outer : List Env) (s : Shared) (H : Hp) (E : XK) (vs : List V) (W : WX) (g : Go (CxD C base ["world", "integer"] "told_in" (defScope (top 18)) f cdv A outer s H E) ⟨C, vs, [0, 1]⟩ W 0) : PSs (CxD C base ["world", "integer"] "told_in" (defScope (top 18)) f cdv A outer s H E) (defBody (top 18)) (tS ⟨C, vs, [0, 1]⟩ W m_told_in) :=
  (rs_cons (rs_if (rt_cmp g.toSt0 rfl (r_varA 0 rfl (by first | exact .inl rfl | exact .inr (.inl rfl) | exact .inr (.inr rfl))) (r_frz (r_gInt g.toSt0 T.c_WHOLE rfl))) (rs_one (rs_ret (r_varM 2 1 rfl (by first | exact .inl rfl | exact .inr (.inl rfl) | exact .inr (.inr rfl))))) rs_nil)
  (rs_cons (rs_if (rt_cmp g.toSt0 rfl (r_varA 0 rfl (by first | exact .inl rfl | exact .inr (.inl rfl) | exact .inr (.inr rfl))) (r_frz (r_gInt g.toSt0 T.c_FRACTIONS rfl))) (rs_one (rs_ret (r_tup (r_cons (r_frz (r_varE 1 rfl (by first | exact .inl rfl | exact .inr (.inl rfl) | exact .inr (.inr rfl)))) (r_cons (r_frz r_int) r_nil))))) rs_nil)
  (rs_one (rs_ret (r_bin g.toSt0 rfl (r_varA 1 rfl (by first | exact .inl rfl | exact .inr (.inl rfl) | exact .inr (.inr rfl))) (r_varA 0 rfl (by first | exact .inl rfl | exact .inr (.inl rfl) | exact .inr (.inr rfl))))))))
theorem sc_read_in : FnScope ["world", "integer"] ["world", "integer"] (defScope (top 19)) := ⟨rfl, rfl, rfl, by decide +kernel, rfl, by decide +kernel, by decide +kernel⟩
theorem b_read_in {C : KM} {xNoNumber xNoWorld : Addr} (T : Txt C xNoNumber xNoWorld) (F_check_world : Fn C 4 "check_world" g_check_world) (F_is_integer : Fn C 1 "is_integer" g_is_integer) (F_told_in : Fn C 1 "told_in" g_told_in) (base : Heap) (f : Addr) (cdv : Value) (A : Around) (outer : List Env) (s : Shared) (H : Hp) (E : XK) (vs : List V) (W : WX) (g : Go (CxD C base ["world", "integer"] "read_in" (defScope (top 19)) f cdv A outer s H E) ⟨C, vs, [0, 1]⟩ W 4) : PSs (CxD C base ["world", "integer"] "read_in" (defScope (top 19)) f cdv A outer s H E) (defBody (top 19)) (tS ⟨C, vs, [0, 1]⟩ W m_read_in) :=
  (rs_cons (rs_expr (r_call g F_check_world (by decide) rfl (r_cons (r_varA 0 rfl (by first | exact .inl rfl | exact .inr (.inl rfl) | exact .inr (.inr rfl))) r_nil)))
  (rs_cons (rs_if (rt_not (rt_bl (r_call g F_is_integer (by decide) rfl (r_cons (r_varA 1 rfl (by first | exact .inl rfl | exact .inr (.inl rfl) | exact .inr (.inr rfl))) r_nil)))) (rs_one (rs_raise0 g T.e_NoNumber rfl)) rs_nil)
  (rs_one (rs_ret (r_call g F_told_in (by decide) rfl (r_cons (r_varA 0 rfl (by first | exact .inl rfl | exact .inr (.inl rfl) | exact .inr (.inr rfl))) (r_cons (r_varA 1 rfl (by first | exact .inl rfl | exact .inr (.inl rfl) | exact .inr (.inr rfl))) r_nil)))))))
theorem sc__law_refusal : FnScope ["_law_world", "_law_integer_here", "_law_word"] ["_law_world", "_law_integer_here"] (defScope (top 28)) := ⟨rfl, rfl, rfl, by decide +kernel, rfl, by decide +kernel, by decide +kernel⟩
theorem b__law_refusal {C : KM} {xNoNumber xNoWorld : Addr} (T : Txt C xNoNumber xNoWorld) (F_read_in : Fn C 5 "read_in" g_read_in) (base : Heap) (f : Addr) (cdv : Value) (A : Around) (outer : List Env) (s : Shared) (H : Hp) (E : XK) (vs : List V) (W : WX) (g : Go (CxD C base ["_law_world", "_law_integer_here", "_law_word"] "_law_refusal" (defScope (top 28)) f cdv A outer s H E) ⟨C, vs, [0, 1]⟩ W 5) : PSs (CxD C base ["_law_world", "_law_integer_here", "_law_word"] "_law_refusal" (defScope (top 28)) f cdv A outer s H E) (defBody (top 28)) (tS ⟨C, vs, [0, 1]⟩ W m__law_refusal) :=
  (rs_cons (rs_set g.toSt0 2 (show (2 : Nat) ∉ [0, 1] by decide) rfl (by first | exact .inl rfl | exact .inr rfl) r_str)
  (rs_cons (rs_tryM g rfl rfl (fun _ _ _ g => (rs_one (rs_expr (r_call g F_read_in (by decide) rfl (r_cons (r_varA 0 rfl (by first | exact .inl rfl | exact .inr (.inl rfl) | exact .inr (.inr rfl))) (r_cons (r_varA 1 rfl (by first | exact .inl rfl | exact .inr (.inl rfl) | exact .inr (.inr rfl))) r_nil)))))) (.cons (x := "NoWorld") (c := .ref xNoWorld) ⟨rfl, by decide, .inl T.g_NoWorld⟩ T.y_NoWorld T.o_NoWorld (fun _ _ q => (rs_one (rs_set q 2 (show (2 : Nat) ∉ [0, 1] by decide) rfl (by first | exact .inl rfl | exact .inr rfl) r_str))) (.cons (x := "NoNumber") (c := .ref xNoNumber) ⟨rfl, by decide, .inl T.g_NoNumber⟩ T.y_NoNumber T.o_NoNumber (fun _ _ q => (rs_one (rs_set q 2 (show (2 : Nat) ∉ [0, 1] by decide) rfl (by first | exact .inl rfl | exact .inr rfl) r_str))) .nil)))
  (rs_one (rs_ret (r_varM 2 2 rfl (by first | exact .inl rfl | exact .inr (.inl rfl) | exact .inr (.inr rfl)))))))
theorem sc__law_plain : FnScope ["_law_world", "_law_number"] ["_law_world", "_law_number"] (defScope (top 27)) := ⟨rfl, rfl, rfl, by decide +kernel, rfl, by decide +kernel, by decide +kernel⟩
theorem b__law_plain {C : KM} {xNoNumber xNoWorld : Addr} (T : Txt C xNoNumber xNoWorld)  (base : Heap) (f : Addr) (cdv : Value) (A : Around) (outer : List Env) (s : Shared) (H : Hp) (E : XK) (vs : List V) (W : WX) (g : Go (CxD C base ["_law_world", "_law_number"] "_law_plain" (defScope (top 27)) f cdv A outer s H E) ⟨C, vs, [0, 1]⟩ W 0) : PSs (CxD C base ["_law_world", "_law_number"] "_law_plain" (defScope (top 27)) f cdv A outer s H E) (defBody (top 27)) (tS ⟨C, vs, [0, 1]⟩ W m__law_plain) :=
  (rs_cons (rs_if (rt_cmp g.toSt0 rfl (r_varA 0 rfl (by first | exact .inl rfl | exact .inr (.inl rfl) | exact .inr (.inr rfl))) (r_frz r_int)) (rs_one (rs_ret (r_ix g.toSt0 (r_varA 1 rfl (by first | exact .inl rfl | exact .inr (.inl rfl) | exact .inr (.inr rfl))) (r_frz r_int)))) rs_nil)
  (rs_one (rs_ret (r_varM 2 1 rfl (by first | exact .inl rfl | exact .inr (.inl rfl) | exact .inr (.inr rfl))))))
theorem sc__law_is_integer : FnScope ["_law_thing"] ["_law_thing"] (defScope (top 25)) := ⟨rfl, rfl, rfl, by decide +kernel, rfl, by decide +kernel, by decide +kernel⟩
theorem b__law_is_integer {C : KM} {xNoNumber xNoWorld : Addr} (T : Txt C xNoNumber xNoWorld)  (base : Heap) (f : Addr) (cdv : Value) (A : Around) (outer : List Env) (s : Shared) (H : Hp) (E : XK) (vs : List V) (W : WX) (g : Go (CxD C base ["_law_thing"] "_law_is_integer" (defScope (top 25)) f cdv A outer s H E) ⟨C, vs, [0]⟩ W 0) : PSs (CxD C base ["_law_thing"] "_law_is_integer" (defScope (top 25)) f cdv A outer s H E) (defBody (top 25)) (tS ⟨C, vs, [0]⟩ W m__law_is_integer) :=
  (rs_one (rs_ret (r_and (r_isi g.toSt0 .tInt (r_varA 0 rfl (by first | exact .inl rfl | exact .inr (.inl rfl) | exact .inr (.inr rfl))) T.n_isinstance T.n_int rfl rfl (by rfl) (by rfl)) (r_one (r_not (r_isi g.toSt0 .tBool (r_varA 0 rfl (by first | exact .inl rfl | exact .inr (.inl rfl) | exact .inr (.inr rfl))) T.n_isinstance T.n_bool rfl rfl (by rfl) (by rfl)))))))
theorem sc__law_is_told : FnScope ["_law_world", "_law_integer_here", "_law_told"] ["_law_world", "_law_integer_here", "_law_told"] (defScope (top 26)) := ⟨rfl, rfl, rfl, by decide +kernel, rfl, by decide +kernel, by decide +kernel⟩
theorem b__law_is_told {C : KM} {xNoNumber xNoWorld : Addr} (T : Txt C xNoNumber xNoWorld) (F__law_is_integer : Fn C 1 "_law_is_integer" g__law_is_integer) (base : Heap) (f : Addr) (cdv : Value) (A : Around) (outer : List Env) (s : Shared) (H : Hp) (E : XK) (vs : List V) (W : WX) (g : Go (CxD C base ["_law_world", "_law_integer_here", "_law_told"] "_law_is_told" (defScope (top 26)) f cdv A outer s H E) ⟨C, vs, [0, 1, 2]⟩ W 1) : PSs (CxD C base ["_law_world", "_law_integer_here", "_law_told"] "_law_is_told" (defScope (top 26)) f cdv A outer s H E) (defBody (top 26)) (tS ⟨C, vs, [0, 1, 2]⟩ W m__law_is_told) :=
  (rs_cons (rs_if (rt_cmp g.toSt0 rfl (r_varA 0 rfl (by first | exact .inl rfl | exact .inr (.inl rfl) | exact .inr (.inr rfl))) (r_frz r_int)) (rs_cons (rs_if (PW.pt (rt_or (rt_not (rt_bl (r_isi g.toSt0 .tTup (r_varA 2 rfl (by first | exact .inl rfl | exact .inr (.inl rfl) | exact .inr (.inr rfl))) T.n_isinstance T.n_tuple rfl rfl (by rfl) (by rfl)))) (rt_or1 (rt_cmp g.toSt0 rfl (r_frz (r_cb g.toSt0 (call_lenDD g.k.symm) T.n_len (by rfl) rfl (r_cons (r_varA 2 rfl (by first | exact .inl rfl | exact .inr (.inl rfl) | exact .inr (.inr rfl))) r_nil))) (r_frz r_int))))) (rs_one (rs_ret r_bl)) rs_nil)
  (rs_one (rs_ret (r_and (r_call g F__law_is_integer (by decide) rfl (r_cons (r_frz (r_ix g.toSt0 (r_varA 2 rfl (by first | exact .inl rfl | exact .inr (.inl rfl) | exact .inr (.inr rfl))) (r_frz r_int))) r_nil)) (r_and (r_call g F__law_is_integer (by decide) rfl (r_cons (r_frz (r_ix g.toSt0 (r_varA 2 rfl (by first | exact .inl rfl | exact .inr (.inl rfl) | exact .inr (.inr rfl))) (r_frz r_int))) r_nil)) (r_and (r_cmp g.toSt0 rfl (r_frz (r_ix g.toSt0 (r_varA 2 rfl (by first | exact .inl rfl | exact .inr (.inl rfl) | exact .inr (.inr rfl))) (r_frz r_int))) (r_varA 1 rfl (by first | exact .inl rfl | exact .inr (.inl rfl) | exact .inr (.inr rfl)))) (r_one (r_cmp g.toSt0 rfl (r_frz (r_ix g.toSt0 (r_varA 2 rfl (by first | exact .inl rfl | exact .inr (.inl rfl) | exact .inr (.inr rfl))) (r_frz r_int))) (r_frz r_int))))))))) rs_nil)
  (rs_cons (rs_if (rt_not (rt_bl (r_call g F__law_is_integer (by decide) rfl (r_cons (r_varA 2 rfl (by first | exact .inl rfl | exact .inr (.inl rfl) | exact .inr (.inr rfl))) r_nil)))) (rs_one (rs_ret r_bl)) rs_nil)
  (rs_cons (rs_if (rt_cmp g.toSt0 rfl (r_varA 0 rfl (by first | exact .inl rfl | exact .inr (.inl rfl) | exact .inr (.inr rfl))) (r_frz r_int)) (rs_one (rs_ret (r_cmp g.toSt0 rfl (r_varA 2 rfl (by first | exact .inl rfl | exact .inr (.inl rfl) | exact .inr (.inr rfl))) (r_varA 1 rfl (by first | exact .inl rfl | exact .inr (.inl rfl) | exact .inr (.inr rfl)))))) rs_nil)
  (rs_one (rs_ret (r_and (r_cmp g.toSt0 rfl (r_varA 2 rfl (by first | exact .inl rfl | exact .inr (.inl rfl) | exact .inr (.inr rfl))) (r_frz r_int)) (r_and (r_cmp g.toSt0 rfl (r_varA 2 rfl (by first | exact .inl rfl | exact .inr (.inl rfl) | exact .inr (.inr rfl))) (r_varA 0 rfl (by first | exact .inl rfl | exact .inr (.inl rfl) | exact .inr (.inr rfl)))) (r_one (r_cmp g.toSt0 rfl (r_frz (r_bin g.toSt0 rfl (r_frz (r_cty g.toSt0 (call_intD) T.n_int (by rfl) rfl (r_cons (r_frz (r_bin g.toSt0 rfl (r_varA 1 rfl (by first | exact .inl rfl | exact .inr (.inl rfl) | exact .inr (.inr rfl))) (r_varA 2 rfl (by first | exact .inl rfl | exact .inr (.inl rfl) | exact .inr (.inr rfl))))) r_nil))) (r_varA 0 rfl (by first | exact .inl rfl | exact .inr (.inl rfl) | exact .inr (.inr rfl))))) (r_frz r_int))))))))))
theorem sc_common_divisor : FnScope ["one", "other"] ["one", "other"] (defScope (top 8)) := ⟨rfl, rfl, rfl, by decide +kernel, rfl, by decide +kernel, by decide +kernel⟩
theorem b_common_divisor {C : KM} {xNoNumber xNoWorld : Addr} (T : Txt C xNoNumber xNoWorld)  (base : Heap) (f : Addr) (cdv : Value) (A : Around) (outer : List Env) (s : Shared) (H : Hp) (E : XK) (vs : List V) (W : WX) (g : Go (CxD C base ["one", "other"] "common_divisor" (defScope (top 8)) f cdv A outer s H E) ⟨C, vs, ([] : List Nat)⟩ W 0) : PSs (CxD C base ["one", "other"] "common_divisor" (defScope (top 8)) f cdv A outer s H E) (defBody (top 8)) (tS ⟨C, vs, ([] : List Nat)⟩ W m_common_divisor) :=
  (rs_cons (rs_while g _ (rt_cmp g.toSt0 rfl (r_varA 1 rfl (by first | exact .inl rfl | exact .inr (.inl rfl) | exact .inr (.inr rfl))) (r_frz r_int)) (rs_one (rs_par g.toSt0 g.cm 0 1 (show (0 : Nat) ∉ ([] : List Nat) by decide) (show (1 : Nat) ∉ ([] : List Nat) by decide) rfl rfl (by decide) rfl rfl (r_cons (r_frz (r_varE 1 rfl (by first | exact .inl rfl | exact .inr (.inl rfl) | exact .inr (.inr rfl)))) (r_cons (r_frz (r_bin g.toSt0 rfl (r_varA 0 rfl (by first | exact .inl rfl | exact .inr (.inl rfl) | exact .inr (.inr rfl))) (r_varA 1 rfl (by first | exact .inl rfl | exact .inr (.inl rfl) | exact .inr (.inr rfl))))) r_nil)) rfl)))
  (rs_one (rs_ret (r_cb g.toSt0 (call_absD) T.n_abs (by rfl) rfl (r_cons (r_varA 0 rfl (by first | exact .inl rfl | exact .inr (.inl rfl) | exact .inr (.inr rfl))) r_nil)))))
theorem sc_is_pair : FnScope ["thing"] ["thing"] (defScope (top 7)) := ⟨rfl, rfl, rfl, by decide +kernel, rfl, by decide +kernel, by decide +kernel⟩
theorem b_is_pair {C : KM} {xNoNumber xNoWorld : Addr} (T : Txt C xNoNumber xNoWorld)  (base : Heap) (f : Addr) (cdv : Value) (A : Around) (outer : List Env) (s : Shared) (H : Hp) (E : XK) (vs : List V) (W : WX) (g : Go (CxD C base ["thing"] "is_pair" (defScope (top 7)) f cdv A outer s H E) ⟨C, vs, [0]⟩ W 0) : PSs (CxD C base ["thing"] "is_pair" (defScope (top 7)) f cdv A outer s H E) (defBody (top 7)) (tS ⟨C, vs, [0]⟩ W m_is_pair) :=
  (rs_one (rs_ret (r_and (r_isi g.toSt0 .tTup (r_varA 0 rfl (by first | exact .inl rfl | exact .inr (.inl rfl) | exact .inr (.inr rfl))) T.n_isinstance T.n_tuple rfl rfl (by rfl) (by rfl)) (r_one (r_cmp g.toSt0 rfl (r_frz (r_cb g.toSt0 (call_lenDD g.k.symm) T.n_len (by rfl) rfl (r_cons (r_varA 0 rfl (by first | exact .inl rfl | exact .inr (.inl rfl) | exact .inr (.inr rfl))) r_nil))) (r_frz r_int))))))
theorem sc_is_fraction : FnScope ["thing"] ["thing"] (defScope (top 9)) := ⟨rfl, rfl, rfl, by decide +kernel, rfl, by decide +kernel, by decide +kernel⟩
theorem b_is_fraction {C : KM} {xNoNumber xNoWorld : Addr} (T : Txt C xNoNumber xNoWorld) (F_is_pair : Fn C 1 "is_pair" g_is_pair) (F_is_integer : Fn C 1 "is_integer" g_is_integer) (F_common_divisor : Fn C 1 "common_divisor" g_common_divisor) (base : Heap) (f : Addr) (cdv : Value) (A : Around) (outer : List Env) (s : Shared) (H : Hp) (E : XK) (vs : List V) (W : WX) (g : Go (CxD C base ["thing"] "is_fraction" (defScope (top 9)) f cdv A outer s H E) ⟨C, vs, [0]⟩ W 1) : PSs (CxD C base ["thing"] "is_fraction" (defScope (top 9)) f cdv A outer s H E) (defBody (top 9)) (tS ⟨C, vs, [0]⟩ W m_is_fraction) :=
  (rs_cons (rs_if (PW.pt (rt_or (rt_not (rt_bl (r_call g F_is_pair (by decide) rfl (r_cons (r_varA 0 rfl (by first | exact .inl rfl | exact .inr (.inl rfl) | exact .inr (.inr rfl))) r_nil)))) (rt_or (rt_not (rt_bl (r_call g F_is_integer (by decide) rfl (r_cons (r_frz (r_ix g.toSt0 (r_varA 0 rfl (by first | exact .inl rfl | exact .inr (.inl rfl) | exact .inr (.inr rfl))) (r_frz r_int))) r_nil)))) (rt_or (rt_not (rt_bl (r_call g F_is_integer (by decide) rfl (r_cons (r_frz (r_ix g.toSt0 (r_varA 0 rfl (by first | exact .inl rfl | exact .inr (.inl rfl) | exact .inr (.inr rfl))) (r_frz r_int))) r_nil)))) (rt_or1 (rt_cmp g.toSt0 rfl (r_frz (r_ix g.toSt0 (r_varA 0 rfl (by first | exact .inl rfl | exact .inr (.inl rfl) | exact .inr (.inr rfl))) (r_frz r_int))) (r_frz r_int))))))) (rs_one (rs_ret r_bl)) rs_nil)
  (rs_one (rs_ret (r_cmp g.toSt0 rfl (r_frz (r_call g F_common_divisor (by decide) rfl (r_cons (r_frz (r_ix g.toSt0 (r_varA 0 rfl (by first | exact .inl rfl | exact .inr (.inl rfl) | exact .inr (.inr rfl))) (r_frz r_int))) (r_cons (r_frz (r_ix g.toSt0 (r_varA 0 rfl (by first | exact .inl rfl | exact .inr (.inl rfl) | exact .inr (.inr rfl))) (r_frz r_int))) r_nil)))) (r_frz r_int)))))
theorem sc_is_number_of : FnScope ["world", "thing"] ["world", "thing"] (defScope (top 16)) := ⟨rfl, rfl, rfl, by decide +kernel, rfl, by decide +kernel, by decide +kernel⟩
theorem b_is_number_of {C : KM} {xNoNumber xNoWorld : Addr} (T : Txt C xNoNumber xNoWorld) (F_is_integer : Fn C 1 "is_integer" g_is_integer) (F_is_fraction : Fn C 2 "is_fraction" g_is_fraction) (F_is_within : Fn C 2 "is_within" g_is_within) (base : Heap) (f : Addr) (cdv : Value) (A : Around) (outer : List Env) (s : Shared) (H : Hp) (E : XK) (vs : List V) (W : WX) (g : Go (CxD C base ["world", "thing"] "is_number_of" (defScope (top 16)) f cdv A outer s H E) ⟨C, vs, [0, 1]⟩ W 2) : PSs (CxD C base ["world", "thing"] "is_number_of" (defScope (top 16)) f cdv A outer s H E) (defBody (top 16)) (tS ⟨C, vs, [0, 1]⟩ W m_is_number_of) :=
  (rs_cons (rs_if (rt_cmp g.toSt0 rfl (r_varA 0 rfl (by first | exact .inl rfl | exact .inr (.inl rfl) | exact .inr (.inr rfl))) (r_frz (r_gInt g.toSt0 T.c_WHOLE rfl))) (rs_one (rs_ret (r_call g F_is_integer (by decide) rfl (r_cons (r_varA 1 rfl (by first | exact .inl rfl | exact .inr (.inl rfl) | exact .inr (.inr rfl))) r_nil)))) rs_nil)
  (rs_cons (rs_if (rt_cmp g.toSt0 rfl (r_varA 0 rfl (by first | exact .inl rfl | exact .inr (.inl rfl) | exact .inr (.inr rfl))) (r_frz (r_gInt g.toSt0 T.c_FRACTIONS rfl))) (rs_one (rs_ret (r_call g F_is_fraction (by decide) rfl (r_cons (r_varA 1 rfl (by first | exact .inl rfl | exact .inr (.inl rfl) | exact .inr (.inr rfl))) r_nil)))) rs_nil)
  (rs_one (rs_ret (r_call g F_is_within (by decide) rfl (r_cons (r_varA 1 rfl (by first | exact .inl rfl | exact .inr (.inl rfl) | exact .inr (.inr rfl))) (r_cons (r_frz r_int) (r_cons (r_frz (r_bin g.toSt0 rfl (r_varA 0 rfl (by first | exact .inl rfl | exact .inr (.inl rfl) | exact .inr (.inr rfl))) (r_frz r_int))) r_nil))))))))
theorem sc_is_number : FnScope ["world", "thing"] ["world", "thing"] (defScope (top 17)) := ⟨rfl, rfl, rfl, by decide +kernel, rfl, by decide +kernel, by decide +kernel⟩
theorem b_is_number {C : KM} {xNoNumber xNoWorld : Addr} (T : Txt C xNoNumber xNoWorld) (F_check_world : Fn C 4 "check_world" g_check_world) (F_is_number_of : Fn C 3 "is_number_of" g_is_number_of) (base : Heap) (f : Addr) (cdv : Value) (A : Around) (outer : List Env) (s : Shared) (H : Hp) (E : XK) (vs : List V) (W : WX) (g : Go (CxD C base ["world", "thing"] "is_number" (defScope (top 17)) f cdv A outer s H E) ⟨C, vs, [0, 1]⟩ W 4) : PSs (CxD C base ["world", "thing"] "is_number" (defScope (top 17)) f cdv A outer s H E) (defBody (top 17)) (tS ⟨C, vs, [0, 1]⟩ W m_is_number) :=
  (rs_cons (rs_expr (r_call g F_check_world (by decide) rfl (r_cons (r_varA 0 rfl (by first | exact .inl rfl | exact .inr (.inl rfl) | exact .inr (.inr rfl))) r_nil)))
  (rs_one (rs_ret (r_call g F_is_number_of (by decide) rfl (r_cons (r_varA 0 rfl (by first | exact .inl rfl | exact .inr (.inl rfl) | exact .inr (.inr rfl))) (r_cons (r_varA 1 rfl (by first | exact .inl rfl | exact .inr (.inl rfl) | exact .inr (.inr rfl))) r_nil))))))
theorem sc__law_is_well : FnScope ["_law_world", "_law_one", "_law_other", "_law_shift", "_law_first", "_law_second", "_law_total"] ["_law_world", "_law_one", "_law_other", "_law_shift"] (defScope (top 29)) := ⟨rfl, rfl, rfl, by decide +kernel, rfl, by decide +kernel, by decide +kernel⟩
theorem b__law_is_well {C : KM} {xNoNumber xNoWorld : Addr} (T : Txt C xNoNumber xNoWorld) (F_read_in : Fn C 5 "read_in" g_read_in) (F__law_is_told : Fn C 2 "_law_is_told" g__law_is_told) (F_is_number : Fn C 5 "is_number" g_is_number) (F__law_plain : Fn C 1 "_law_plain" g__law_plain) (base : Heap) (f : Addr) (cdv : Value) (A : Around) (outer : List Env) (s : Shared) (H : Hp) (E : XK) (vs : List V) (W : WX) (g : Go (CxD C base ["_law_world", "_law_one", "_law_other", "_law_shift", "_law_first", "_law_second", "_law_total"] "_law_is_well" (defScope (top 29)) f cdv A outer s H E) ⟨C, vs, [0, 1, 2, 3]⟩ W 5) : PSs (CxD C base ["_law_world", "_law_one", "_law_other", "_law_shift", "_law_first", "_law_second", "_law_total"] "_law_is_well" (defScope (top 29)) f cdv A outer s H E) (defBody (top 29)) (tS ⟨C, vs, [0, 1, 2, 3]⟩ W m__law_is_well) :=
  (rs_cons (rs_set g.toSt0 4 (show (4 : Nat) ∉ [0, 1, 2, 3] by decide) rfl (by first | exact .inl rfl | exact .inr rfl) (r_call g F_read_in (by decide) rfl (r_cons (r_varA 0 rfl (by first | exact .inl rfl | exact .inr (.inl rfl) | exact .inr (.inr rfl))) (r_cons (r_varA 1 rfl (by first | exact .inl rfl | exact .inr (.inl rfl) | exact .inr (.inr rfl))) r_nil))))
  (rs_cons (rs_set g.toSt0 5 (show (5 : Nat) ∉ [0, 1, 2, 3] by decide) rfl (by first | exact .inl rfl | exact .inr rfl) (r_call g F_read_in (by decide) rfl (r_cons (r_varA 0 rfl (by first | exact .inl rfl | exact .inr (.inl rfl) | exact .inr (.inr rfl))) (r_cons (r_varA 2 rfl (by first | exact .inl rfl | exact .inr (.inl rfl) | exact .inr (.inr rfl))) r_nil))))
  (rs_cons (rs_if (PW.pt (rt_or (rt_not (rt_bl (r_call g F__law_is_told (by decide) rfl (r_cons (r_varA 0 rfl (by first | exact .inl rfl | exact .inr (.inl rfl) | exact .inr (.inr rfl))) (r_cons (r_varA 1 rfl (by first | exact .inl rfl | exact .inr (.inl rfl) | exact .inr (.inr rfl))) (r_cons (r_varA 4 rfl (by first | exact .inl rfl | exact .inr (.inl rfl) | exact .inr (.inr rfl))) r_nil)))))) (rt_or1 (rt_not (rt_bl (r_call g F__law_is_told (by decide) rfl (r_cons (r_varA 0 rfl (by first | exact .inl rfl | exact .inr (.inl rfl) | exact .inr (.inr rfl))) (r_cons (r_varA 2 rfl (by first | exact .inl rfl | exact .inr (.inl rfl) | exact .inr (.inr rfl))) (r_cons (r_varA 5 rfl (by first | exact .inl rfl | exact .inr (.inl rfl) | exact .inr (.inr rfl))) r_nil))))))))) (rs_one (rs_ret r_bl)) rs_nil)
  (rs_cons (rs_if (PW.pt (rt_or (rt_cmp g.toSt0 rfl (r_frz (r_call g F_is_number (by decide) rfl (r_cons (r_varA 0 rfl (by first | exact .inl rfl | exact .inr (.inl rfl) | exact .inr (.inr rfl))) (r_cons (r_varA 4 rfl (by first | exact .inl rfl | exact .inr (.inl rfl) | exact .inr (.inr rfl))) r_nil)))) (r_frz r_bl)) (rt_or1 (rt_cmp g.toSt0 rfl (r_frz (r_call g F_is_number (by decide) rfl (r_cons (r_varA 0 rfl (by first | exact .inl rfl | exact .inr (.inl rfl) | exact .inr (.inr rfl))) (r_cons (r_varA 5 rfl (by first | exact .inl rfl | exact .inr (.inl rfl) | exact .inr (.inr rfl))) r_nil)))) (r_frz r_bl))))) (rs_one (rs_ret r_bl)) rs_nil)
  (rs_cons (rs_set g.toSt0 6 (show (6 : Nat) ∉ [0, 1, 2, 3] by decide) rfl (by first | exact .inl rfl | exact .inr rfl) (r_bin g.toSt0 rfl (r_frz (r_call g F__law_plain (by decide) rfl (r_cons (r_varA 0 rfl (by first | exact .inl rfl | exact .inr (.inl rfl) | exact .inr (.inr rfl))) (r_cons (r_varA 4 rfl (by first | exact .inl rfl | exact .inr (.inl rfl) | exact .inr (.inr rfl))) r_nil)))) (r_frz (r_call g F__law_plain (by decide) rfl (r_cons (r_varA 0 rfl (by first | exact .inl rfl | exact .inr (.inl rfl) | exact .inr (.inr rfl))) (r_cons (r_varA 5 rfl (by first | exact .inl rfl | exact .inr (.inl rfl) | exact .inr (.inr rfl))) r_nil))))))
  (rs_cons (rs_if (rt_cmp g.toSt0 rfl (r_frz (r_call g F_read_in (by decide) rfl (r_cons (r_varA 0 rfl (by first | exact .inl rfl | exact .inr (.inl rfl) | exact .inr (.inr rfl))) (r_cons (r_frz (r_bin g.toSt0 rfl (r_varA 1 rfl (by first | exact .inl rfl | exact .inr (.inl rfl) | exact .inr (.inr rfl))) (r_varA 2 rfl (by first | exact .inl rfl | exact .inr (.inl rfl) | exact .inr (.inr rfl))))) r_nil)))) (r_frz (r_call g F_read_in (by decide) rfl (r_cons (r_varA 0 rfl (by first | exact .inl rfl | exact .inr (.inl rfl) | exact .inr (.inr rfl))) (r_cons (r_varA 6 rfl (by first | exact .inl rfl | exact .inr (.inl rfl) | exact .inr (.inr rfl))) r_nil))))) (rs_one (rs_ret r_bl)) rs_nil)
  (rs_cons (rs_if (rt_cmp g.toSt0 rfl (r_frz (r_call g F_read_in (by decide) rfl (r_cons (r_varA 0 rfl (by first | exact .inl rfl | exact .inr (.inl rfl) | exact .inr (.inr rfl))) (r_cons (r_frz (r_bin g.toSt0 rfl (r_varA 1 rfl (by first | exact .inl rfl | exact .inr (.inl rfl) | exact .inr (.inr rfl))) (r_varA 3 rfl (by first | exact .inl rfl | exact .inr (.inl rfl) | exact .inr (.inr rfl))))) r_nil)))) (r_frz (r_call g F_read_in (by decide) rfl (r_cons (r_varA 0 rfl (by first | exact .inl rfl | exact .inr (.inl rfl) | exact .inr (.inr rfl))) (r_cons (r_frz (r_bin g.toSt0 rfl (r_frz (r_call g F__law_plain (by decide) rfl (r_cons (r_varA 0 rfl (by first | exact .inl rfl | exact .inr (.inl rfl) | exact .inr (.inr rfl))) (r_cons (r_varA 4 rfl (by first | exact .inl rfl | exact .inr (.inl rfl) | exact .inr (.inr rfl))) r_nil)))) (r_varA 3 rfl (by first | exact .inl rfl | exact .inr (.inl rfl) | exact .inr (.inr rfl))))) r_nil))))) (rs_one (rs_ret r_bl)) rs_nil)
  (rs_cons (rs_if (PW.pt (rt_and (rt_cmp g.toSt0 rfl (r_varA 0 rfl (by first | exact .inl rfl | exact .inr (.inl rfl) | exact .inr (.inr rfl))) (r_frz r_int)) (rt_and1 (PW.pt (rt_or (rt_cmp g.toSt0 rfl (r_frz (r_call g F_read_in (by decide) rfl (r_cons (r_varA 0 rfl (by first | exact .inl rfl | exact .inr (.inl rfl) | exact .inr (.inr rfl))) (r_cons (r_frz (r_bin g.toSt0 rfl (r_varA 1 rfl (by first | exact .inl rfl | exact .inr (.inl rfl) | exact .inr (.inr rfl))) (r_frz (r_bin g.toSt0 rfl (r_varA 0 rfl (by first | exact .inl rfl | exact .inr (.inl rfl) | exact .inr (.inr rfl))) (r_varA 3 rfl (by first | exact .inl rfl | exact .inr (.inl rfl) | exact .inr (.inr rfl))))))) r_nil)))) (r_varA 4 rfl (by first | exact .inl rfl | exact .inr (.inl rfl) | exact .inr (.inr rfl)))) (rt_or1 (rt_cmp g.toSt0 rfl (r_frz (r_call g F_read_in (by decide) rfl (r_cons (r_varA 0 rfl (by first | exact .inl rfl | exact .inr (.inl rfl) | exact .inr (.inr rfl))) (r_cons (r_varA 4 rfl (by first | exact .inl rfl | exact .inr (.inl rfl) | exact .inr (.inr rfl))) r_nil)))) (r_varA 4 rfl (by first | exact .inl rfl | exact .inr (.inl rfl) | exact .inr (.inr rfl)))))))))) (rs_one (rs_ret r_bl)) rs_nil)
  (rs_one (rs_ret r_bl))))))))))
theorem sc_law : FnScope ["_law_script", "_law_deck_here", "_law_hours", "_law_worlds", "_law_no_world", "_law_no_integer", "_law_last", "_law_turn", "_law_one", "_law_shift", "_law_world"] ["_law_script"] (defScope (top 30)) := ⟨rfl, rfl, rfl, by decide +kernel, rfl, by decide +kernel, by decide +kernel⟩
theorem b_law {C : KM} {xNoNumber xNoWorld : Addr} (T : Txt C xNoNumber xNoWorld) (F__law_deck : Fn C 1 "_law_deck" g__law_deck) (F__law_pick : Fn C 1 "_law_pick" g__law_pick) (F__law_integer : Fn C 3 "_law_integer" g__law_integer) (F__law_is_well : Fn C 6 "_law_is_well" g__law_is_well) (F__law_refusal : Fn C 6 "_law_refusal" g__law_refusal) (base : Heap) (f : Addr) (cdv : Value) (A : Around) (outer : List Env) (s : Shared) (H : Hp) (E : XK) (vs : List V) (W : WX) (g : Go (CxD C base ["_law_script", "_law_deck_here", "_law_hours", "_law_worlds", "_law_no_world", "_law_no_integer", "_law_last", "_law_turn", "_law_one", "_law_shift", "_law_world"] "law" (defScope (top 30)) f cdv A outer s H E) ⟨C, vs, [0]⟩ W 6) : PSs (CxD C base ["_law_script", "_law_deck_here", "_law_hours", "_law_worlds", "_law_no_world", "_law_no_integer", "_law_last", "_law_turn", "_law_one", "_law_shift", "_law_world"] "law" (defScope (top 30)) f cdv A outer s H E) (defBody (top 30)) (tS ⟨C, vs, [0]⟩ W m_law) :=
  (rs_cons (rs_set g.toSt0 1 (show (1 : Nat) ∉ [0] by decide) rfl (by first | exact .inl rfl | exact .inr rfl) (r_call g F__law_deck (by decide) rfl (r_cons (r_varA 0 rfl (by first | exact .inl rfl | exact .inr (.inl rfl) | exact .inr (.inr rfl))) r_nil)))
  (rs_cons (rs_set g.toSt0 2 (show (2 : Nat) ∉ [0] by decide) rfl (by first | exact .inl rfl | exact .inr rfl) (r_lst (r_cons (r_frz (r_bin g.toSt0 rfl (r_frz r_int) (r_frz (r_call g F__law_pick (by decide) rfl (r_cons (r_varA 1 rfl (by first | exact .inl rfl | exact .inr (.inl rfl) | exact .inr (.inr rfl))) (r_cons (r_frz r_int) r_nil)))))) (r_cons (r_frz (r_bin g.toSt0 rfl (r_frz r_int) (r_frz (r_call g F__law_pick (by decide) rfl (r_cons (r_varA 1 rfl (by first | exact .inl rfl | exact .inr (.inl rfl) | exact .inr (.inr rfl))) (r_cons (r_frz r_int) r_nil)))))) (r_cons (r_frz (r_bin g.toSt0 rfl (r_frz r_int) (r_frz (r_call g F__law_pick (by decide) rfl (r_cons (r_varA 1 rfl (by first | exact .inl rfl | exact .inr (.inl rfl) | exact .inr (.inr rfl))) (r_cons (r_frz r_int) r_nil)))))) (r_cons (r_frz (r_bin g.toSt0 rfl (r_frz r_int) (r_frz (r_call g F__law_pick (by decide) rfl (r_cons (r_varA 1 rfl (by first | exact .inl rfl | exact .inr (.inl rfl) | exact .inr (.inr rfl))) (r_cons (r_frz r_int) r_nil)))))) r_nil))))))
  (rs_cons (rs_set g.toSt0 3 (show (3 : Nat) ∉ [0] by decide) rfl (by first | exact .inl rfl | exact .inr rfl) (r_bin g.toSt0 rfl (r_frz (r_lst (r_cons (r_frz r_int) (r_cons (r_frz r_int) r_nil)))) (r_varA 2 rfl (by first | exact .inl rfl | exact .inr (.inl rfl) | exact .inr (.inr rfl)))))
  (rs_cons (rs_set g.toSt0 4 (show (4 : Nat) ∉ [0] by decide) rfl (by first | exact .inl rfl | exact .inr rfl) (r_ix g.toSt0 (r_frz (r_lst (r_cons (r_frz (r_neg (r_frz r_int))) (r_cons (r_frz r_int) (r_cons (r_frz r_bl) (r_cons (r_frz r_bl) (r_cons (r_frz r_non) (r_cons (r_frz r_str) (r_cons (r_frz (r_tup (r_cons (r_frz r_int) r_nil))) (r_cons (r_frz (r_lst (r_cons (r_frz r_int) r_nil))) (r_cons (r_frz (r_bin g.toSt0 rfl (r_frz r_int) (r_frz r_int))) (r_cons (r_frz (r_neg (r_frz (r_bin g.toSt0 rfl (r_frz r_int) (r_frz r_int))))) (r_cons (r_frz r_dic0) r_nil))))))))))))) (r_frz (r_call g F__law_pick (by decide) rfl (r_cons (r_varA 1 rfl (by first | exact .inl rfl | exact .inr (.inl rfl) | exact .inr (.inr rfl))) (r_cons (r_frz r_int) r_nil))))))
  (rs_cons (rs_set g.toSt0 5 (show (5 : Nat) ∉ [0] by decide) rfl (by first | exact .inl rfl | exact .inr rfl) (r_ix g.toSt0 (r_frz (r_lst (r_cons (r_frz r_bl) (r_cons (r_frz r_bl) (r_cons (r_frz r_non) (r_cons (r_frz r_str) (r_cons (r_frz (r_tup (r_cons (r_frz r_int) (r_cons (r_frz r_int) r_nil)))) (r_cons (r_frz (r_lst (r_cons (r_frz r_int) r_nil))) (r_cons (r_frz r_dic0) (r_cons (r_frz (r_tup r_nil)) r_nil)))))))))) (r_frz (r_call g F__law_pick (by decide) rfl (r_cons (r_varA 1 rfl (by first | exact .inl rfl | exact .inr (.inl rfl) | exact .inr (.inr rfl))) (r_cons (r_frz r_int) r_nil))))))
  (rs_cons (rs_set g.toSt0 6 (show (6 : Nat) ∉ [0] by decide) rfl (by first | exact .inl rfl | exact .inr rfl) (r_call g F__law_integer (by decide) rfl (r_cons (r_varA 1 rfl (by first | exact .inl rfl | exact .inr (.inl rfl) | exact .inr (.inr rfl))) (r_cons (r_frz (r_ix g.toSt0 (r_varA 2 rfl (by first | exact .inl rfl | exact .inr (.inl rfl) | exact .inr (.inr rfl))) (r_frz r_int))) r_nil))))
  (rs_cons (rs_for g (.nm 7) (show (7 : Nat) ∉ [0] by decide) (ri_rng1 g.toSt0 T.n_range rfl (r_cons (r_frz (r_bin g.toSt0 rfl (r_frz (r_cb g.toSt0 (call_minD g.cm) T.n_min (by rfl) rfl (r_cons (r_frz (r_cb g.toSt0 (call_lenDD g.k.symm) T.n_len (by rfl) rfl (r_cons (r_varA 0 rfl (by first | exact .inl rfl | exact .inr (.inl rfl) | exact .inr (.inr rfl))) r_nil))) (r_cons (r_frz r_int) r_nil)))) (r_frz r_int))) r_nil)) (rg_nm g.toSt0 7 rfl (by first | exact .inl rfl | exact .inr rfl)) (rs_cons (rs_set g.toSt0 8 (show (8 : Nat) ∉ [0] by decide) rfl (by first | exact .inl rfl | exact .inr rfl) (r_call g F__law_integer (by decide) rfl (r_cons (r_varA 1 rfl (by first | exact .inl rfl | exact .inr (.inl rfl) | exact .inr (.inr rfl))) (r_cons (r_frz (r_ix g.toSt0 (r_varA 2 rfl (by first | exact .inl rfl | exact .inr (.inl rfl) | exact .inr (.inr rfl))) (r_frz (r_call g F__law_pick (by decide) rfl (r_cons (r_varA 1 rfl (by first | exact .inl rfl | exact .inr (.inl rfl) | exact .inr (.inr rfl))) (r_cons (r_frz r_int) r_nil)))))) r_nil))))
  (rs_cons (rs_set g.toSt0 9 (show (9 : Nat) ∉ [0] by decide) rfl (by first | exact .inl rfl | exact .inr rfl) (r_bin g.toSt0 rfl (r_frz (r_call g F__law_pick (by decide) rfl (r_cons (r_varA 1 rfl (by first | exact .inl rfl | exact .inr (.inl rfl) | exact .inr (.inr rfl))) (r_cons (r_frz r_int) r_nil)))) (r_frz r_int)))
  (rs_cons (rs_if (rt_not (rt_bl (r_cb g.toSt0 (call_allD g.cm) T.n_all (by rfl) rfl (r_cons (r_frz (r_lc g [("_law_world", 10)] (.nm 10) (show (10 : Nat) ∉ [0] by decide) (show ∀ i ∈ [0], i ∉ [10] by decide) (show (10 : Nat) ∈ [10] by decide) (ri_val g.toSt0 (r_frz (r_varE 3 rfl (by first | exact .inl rfl | exact .inr (.inl rfl) | exact .inr (.inr rfl))))) (blkOk_by (N := ["_law_script", "_law_deck_here", "_law_hours", "_law_worlds", "_law_no_world", "_law_no_integer", "_law_last", "_law_turn", "_law_one", "_law_shift", "_law_world"]) (sc := defScope (top 30)) (by decide +kernel)) (fun _ _ _ _ _ => (rg_nm (g.blk ..).toSt0 10 rfl (by first | exact .inl rfl | exact .inr rfl))) (fun _ _ _ _ _ g => rts_nil) (fun _ _ _ _ _ g => (r_call g F__law_is_well (by decide) rfl (r_cons (r_varA 10 rfl (by first | exact .inl rfl | exact .inr (.inl rfl) | exact .inr (.inr rfl))) (r_cons (r_varA 8 rfl (by first | exact .inl rfl | exact .inr (.inl rfl) | exact .inr (.inr rfl))) (r_cons (r_varA 6 rfl (by first | exact .inl rfl | exact .inr (.inl rfl) | exact .inr (.inr rfl))) (r_cons (r_varA 9 rfl (by first | exact .inl rfl | exact .inr (.inl rfl) | exact .inr (.inr rfl))) r_nil)))))))) r_nil)))) (rs_one (rs_ret r_bl)) rs_nil)
  (rs_one (rs_set g.toSt0 6 (show (6 : Nat) ∉ [0] by decide) rfl (by first | exact .inl rfl | exact .inr rfl) (r_varE 8 rfl (by first | exact .inl rfl | exact .inr (.inl rfl) | exact .inr (.inr rfl)))))))))
  (rs_cons (rs_set g.toSt0 10 (show (10 : Nat) ∉ [0] by decide) rfl (by first | exact .inl rfl | exact .inr rfl) (r_ix g.toSt0 (r_varA 3 rfl (by first | exact .inl rfl | exact .inr (.inl rfl) | exact .inr (.inr rfl))) (r_frz (r_call g F__law_pick (by decide) rfl (r_cons (r_varA 1 rfl (by first | exact .inl rfl | exact .inr (.inl rfl) | exact .inr (.inr rfl))) (r_cons (r_frz r_int) r_nil))))))
  (rs_cons (rs_if (PW.pt (rt_or (rt_cmp g.toSt0 rfl (r_frz (r_call g F__law_refusal (by decide) rfl (r_cons (r_varA 4 rfl (by first | exact .inl rfl | exact .inr (.inl rfl) | exact .inr (.inr rfl))) (r_cons (r_varA 5 rfl (by first | exact .inl rfl | exact .inr (.inl rfl) | exact .inr (.inr rfl))) r_nil)))) (r_frz r_str)) (rt_or1 (rt_cmp g.toSt0 rfl (r_frz (r_call g F__law_refusal (by decide) rfl (r_cons (r_varA 4 rfl (by first | exact .inl rfl | exact .inr (.inl rfl) | exact .inr (.inr rfl))) (r_cons (r_varA 6 rfl (by first | exact .inl rfl | exact .inr (.inl rfl) | exact .inr (.inr rfl))) r_nil)))) (r_frz r_str))))) (rs_one (rs_ret r_bl)) rs_nil)
  (rs_one (rs_ret (r_and (r_cmp g.toSt0 rfl (r_frz (r_call g F__law_refusal (by decide) rfl (r_cons (r_varA 10 rfl (by first | exact .inl rfl | exact .inr (.inl rfl) | exact .inr (.inr rfl))) (r_cons (r_varA 5 rfl (by first | exact .inl rfl | exact .inr (.inl rfl) | exact .inr (.inr rfl))) r_nil)))) (r_frz r_str)) (r_one (r_cmp g.toSt0 rfl (r_frz (r_call g F__law_refusal (by decide) rfl (r_cons (r_varA 10 rfl (by first | exact .inl rfl | exact .inr (.inl rfl) | exact .inr (.inr rfl))) (r_cons (r_varA 6 rfl (by first | exact .inl rfl | exact .inr (.inl rfl) | exact .inr (.inr rfl))) r_nil)))) (r_frz r_str)))))))))))))))
theorem all_mk {P : Program} {w : World} {K : PySem.W.Frag} {h : Heap} {mg : Str → Option Value} {fa : Addr} (X : K.In h) (G : h.Ns mainGlobals mg) (hfa : mg "law" = some (.ref fa))
    {tFRACTIONS : Tok} {tMOST_HOURS : Tok} {tWHOLE : Tok} {xNoNumber : Addr} {xNoWorld : Addr} {f0 : Addr} {od0 an0 : Option Addr} {sl0 : Array (Option Value)} {oc0 kV0 dc0 pm0 cd0 ct0 : Value} {f1 : Addr} {od1 an1 : Option Addr} {sl1 : Array (Option Value)} {oc1 kV1 dc1 pm1 cd1 ct1 : Value} {f2 : Addr} {od2 an2 : Option Addr} {sl2 : Array (Option Value)} {oc2 kV2 dc2 pm2 cd2 ct2 : Value} {f3 : Addr} {od3 an3 : Option Addr} {sl3 : Array (Option Value)} {oc3 kV3 dc3 pm3 cd3 ct3 : Value} {f4 : Addr} {od4 an4 : Option Addr} {sl4 : Array (Option Value)} {oc4 kV4 dc4 pm4 cd4 ct4 : Value} {f5 : Addr} {od5 an5 : Option Addr} {sl5 : Array (Option Value)} {oc5 kV5 dc5 pm5 cd5 ct5 : Value} {f6 : Addr} {od6 an6 : Option Addr} {sl6 : Array (Option Value)} {oc6 kV6 dc6 pm6 cd6 ct6 : Value} {f7 : Addr} {od7 an7 : Option Addr} {sl7 : Array (Option Value)} {oc7 kV7 dc7 pm7 cd7 ct7 : Value} {f8 : Addr} {od8 an8 : Option Addr} {sl8 : Array (Option Value)} {oc8 kV8 dc8 pm8 cd8 ct8 : Value} {f9 : Addr} {od9 an9 : Option Addr} {sl9 : Array (Option Value)} {oc9 kV9 dc9 pm9 cd9 ct9 : Value} {f10 : Addr} {od10 an10 : Option Addr} {sl10 : Array (Option Value)} {oc10 kV10 dc10 pm10 cd10 ct10 : Value} {f11 : Addr} {od11 an11 : Option Addr} {sl11 : Array (Option Value)} {oc11 kV11 dc11 pm11 cd11 ct11 : Value} {f12 : Addr} {od12 an12 : Option Addr} {sl12 : Array (Option Value)} {oc12 kV12 dc12 pm12 cd12 ct12 : Value} {f13 : Addr} {od13 an13 : Option Addr} {sl13 : Array (Option Value)} {oc13 kV13 dc13 pm13 cd13 ct13 : Value} {f14 : Addr} {od14 an14 : Option Addr} {sl14 : Array (Option Value)} {oc14 kV14 dc14 pm14 cd14 ct14 : Value} {f15 : Addr} {od15 an15 : Option Addr} {sl15 : Array (Option Value)} {oc15 kV15 dc15 pm15 cd15 ct15 : Value} {f16 : Addr} {od16 an16 : Option Addr} {sl16 : Array (Option Value)} {oc16 kV16 dc16 pm16 cd16 ct16 : Value} {f17 : Addr} {od17 an17 : Option Addr} {sl17 : Array (Option Value)} {oc17 kV17 dc17 pm17 cd17 ct17 : Value} {f18 : Addr} {od18 an18 : Option Addr} {sl18 : Array (Option Value)} {oc18 kV18 dc18 pm18 cd18 ct18 : Value} {f19 : Addr} {od19 an19 : Option Addr} {sl19 : Array (Option Value)} {oc19 kV19 dc19 pm19 cd19 ct19 : Value} {f20 : Addr} {od20 an20 : Option Addr} {sl20 : Array (Option Value)} {oc20 kV20 dc20 pm20 cd20 ct20 : Value}
    (n_abs : PySem.W.nsIn K mainGlobals "abs" = some none)
    (n_all : PySem.W.nsIn K mainGlobals "all" = some none)
    (n_bool : PySem.W.nsIn K mainGlobals "bool" = some none)
    (n_int : PySem.W.nsIn K mainGlobals "int" = some none)
    (n_isinstance : PySem.W.nsIn K mainGlobals "isinstance" = some none)
    (n_len : PySem.W.nsIn K mainGlobals "len" = some none)
    (n_min : PySem.W.nsIn K mainGlobals "min" = some none)
    (n_range : PySem.W.nsIn K mainGlobals "range" = some none)
    (n_tuple : PySem.W.nsIn K mainGlobals "tuple" = some none)
    (c_FRACTIONS : PySem.W.nsIn K mainGlobals "FRACTIONS" = some (some (.int 1 tFRACTIONS)))
    (c_MOST_HOURS : PySem.W.nsIn K mainGlobals "MOST_HOURS" = some (some (.int 1000 tMOST_HOURS)))
    (c_WHOLE : PySem.W.nsIn K mainGlobals "WHOLE" = some (some (.int 0 tWHOLE)))
    (gNoNumber : PySem.W.nsIn K mainGlobals "NoNumber" = some (some (.ref xNoNumber)))
    (qNoNumber : PySem.W.excIn K xNoNumber [.type "ValueError", .type "Exception", .type "BaseException", .type "object"] "ValueError.__new__" = true)
    (kNoNumber : PySem.W.keepIn K (.ref xNoNumber) = true)
    (bNoNumber : PySem.W.subIn K (.ref xNoNumber) (.type "BaseException") = some true)
    (tNoNumber : PySem.W.typeIn K (.ref xNoNumber) = some (.type "type"))
    (gNoWorld : PySem.W.nsIn K mainGlobals "NoWorld" = some (some (.ref xNoWorld)))
    (qNoWorld : PySem.W.excIn K xNoWorld [.type "ValueError", .type "Exception", .type "BaseException", .type "object"] "ValueError.__new__" = true)
    (kNoWorld : PySem.W.keepIn K (.ref xNoWorld) = true)
    (bNoWorld : PySem.W.subIn K (.ref xNoWorld) (.type "BaseException") = some true)
    (tNoWorld : PySem.W.typeIn K (.ref xNoWorld) = some (.type "type"))
    (iNoNumber : PySem.W.isClsIn K xNoNumber = true)
    (sNoNumber_NoNumber : PySem.W.subIn K (.ref xNoNumber) (.ref xNoNumber) = some true)
    (sNoWorld_NoNumber : PySem.W.subIn K (.ref xNoWorld) (.ref xNoNumber) = some false)
    (iNoWorld : PySem.W.isClsIn K xNoWorld = true)
    (sNoWorld_NoWorld : PySem.W.subIn K (.ref xNoWorld) (.ref xNoWorld) = some true)
    (sNoNumber_NoWorld : PySem.W.subIn K (.ref xNoNumber) (.ref xNoWorld) = some false)
    (a0 : PySem.W.nsIn K mainGlobals "_law_deck" = some (some (.ref f0)))
    (l0 : K.lookup f0 = some ⟨oc0, od0, .func (PySem.W.fnOf "_law_deck" "_law_deck" (defArgs (top 21)) (defBody (top 21)) (defScope (top 21)) .none kV0 dc0 pm0 an0 cd0 ct0), sl0⟩)
    (c0 : PySem.W.codeIn K cd0 "_law_deck" = true)
    (k0 : PySem.W.keepIn K (.ref f0) = true)
    (a1 : PySem.W.nsIn K mainGlobals "_law_pick" = some (some (.ref f1)))
    (l1 : K.lookup f1 = some ⟨oc1, od1, .func (PySem.W.fnOf "_law_pick" "_law_pick" (defArgs (top 22)) (defBody (top 22)) (defScope (top 22)) .none kV1 dc1 pm1 an1 cd1 ct1), sl1⟩)
    (c1 : PySem.W.codeIn K cd1 "_law_pick" = true)
    (k1 : PySem.W.keepIn K (.ref f1) = true)
    (a2 : PySem.W.nsIn K mainGlobals "_law_long" = some (some (.ref f2)))
    (l2 : K.lookup f2 = some ⟨oc2, od2, .func (PySem.W.fnOf "_law_long" "_law_long" (defArgs (top 23)) (defBody (top 23)) (defScope (top 23)) .none kV2 dc2 pm2 an2 cd2 ct2), sl2⟩)
    (c2 : PySem.W.codeIn K cd2 "_law_long" = true)
    (k2 : PySem.W.keepIn K (.ref f2) = true)
    (a3 : PySem.W.nsIn K mainGlobals "_law_integer" = some (some (.ref f3)))
    (l3 : K.lookup f3 = some ⟨oc3, od3, .func (PySem.W.fnOf "_law_integer" "_law_integer" (defArgs (top 24)) (defBody (top 24)) (defScope (top 24)) .none kV3 dc3 pm3 an3 cd3 ct3), sl3⟩)
    (c3 : PySem.W.codeIn K cd3 "_law_integer" = true)
    (k3 : PySem.W.keepIn K (.ref f3) = true)
    (a4 : PySem.W.nsIn K mainGlobals "is_integer" = some (some (.ref f4)))
    (l4 : K.lookup f4 = some ⟨oc4, od4, .func (PySem.W.fnOf "is_integer" "is_integer" (defArgs (top 5)) (defBody (top 5)) (defScope (top 5)) .none kV4 dc4 pm4 an4 cd4 ct4), sl4⟩)
    (c4 : PySem.W.codeIn K cd4 "is_integer" = true)
    (k4 : PySem.W.keepIn K (.ref f4) = true)
    (a5 : PySem.W.nsIn K mainGlobals "is_within" = some (some (.ref f5)))
    (l5 : K.lookup f5 = some ⟨oc5, od5, .func (PySem.W.fnOf "is_within" "is_within" (defArgs (top 6)) (defBody (top 6)) (defScope (top 6)) .none kV5 dc5 pm5 an5 cd5 ct5), sl5⟩)
    (c5 : PySem.W.codeIn K cd5 "is_within" = true)
    (k5 : PySem.W.keepIn K (.ref f5) = true)
    (a6 : PySem.W.nsIn K mainGlobals "is_world" = some (some (.ref f6)))
    (l6 : K.lookup f6 = some ⟨oc6, od6, .func (PySem.W.fnOf "is_world" "is_world" (defArgs (top 14)) (defBody (top 14)) (defScope (top 14)) .none kV6 dc6 pm6 an6 cd6 ct6), sl6⟩)
    (c6 : PySem.W.codeIn K cd6 "is_world" = true)
    (k6 : PySem.W.keepIn K (.ref f6) = true)
    (a7 : PySem.W.nsIn K mainGlobals "check_world" = some (some (.ref f7)))
    (l7 : K.lookup f7 = some ⟨oc7, od7, .func (PySem.W.fnOf "check_world" "check_world" (defArgs (top 15)) (defBody (top 15)) (defScope (top 15)) .none kV7 dc7 pm7 an7 cd7 ct7), sl7⟩)
    (c7 : PySem.W.codeIn K cd7 "check_world" = true)
    (k7 : PySem.W.keepIn K (.ref f7) = true)
    (a8 : PySem.W.nsIn K mainGlobals "told_in" = some (some (.ref f8)))
    (l8 : K.lookup f8 = some ⟨oc8, od8, .func (PySem.W.fnOf "told_in" "told_in" (defArgs (top 18)) (defBody (top 18)) (defScope (top 18)) .none kV8 dc8 pm8 an8 cd8 ct8), sl8⟩)
    (c8 : PySem.W.codeIn K cd8 "told_in" = true)
    (k8 : PySem.W.keepIn K (.ref f8) = true)
    (a9 : PySem.W.nsIn K mainGlobals "read_in" = some (some (.ref f9)))
    (l9 : K.lookup f9 = some ⟨oc9, od9, .func (PySem.W.fnOf "read_in" "read_in" (defArgs (top 19)) (defBody (top 19)) (defScope (top 19)) .none kV9 dc9 pm9 an9 cd9 ct9), sl9⟩)
    (c9 : PySem.W.codeIn K cd9 "read_in" = true)
    (k9 : PySem.W.keepIn K (.ref f9) = true)
    (a10 : PySem.W.nsIn K mainGlobals "_law_refusal" = some (some (.ref f10)))
    (l10 : K.lookup f10 = some ⟨oc10, od10, .func (PySem.W.fnOf "_law_refusal" "_law_refusal" (defArgs (top 28)) (defBody (top 28)) (defScope (top 28)) .none kV10 dc10 pm10 an10 cd10 ct10), sl10⟩)
    (c10 : PySem.W.codeIn K cd10 "_law_refusal" = true)
    (k10 : PySem.W.keepIn K (.ref f10) = true)
    (a11 : PySem.W.nsIn K mainGlobals "_law_plain" = some (some (.ref f11)))
    (l11 : K.lookup f11 = some ⟨oc11, od11, .func (PySem.W.fnOf "_law_plain" "_law_plain" (defArgs (top 27)) (defBody (top 27)) (defScope (top 27)) .none kV11 dc11 pm11 an11 cd11 ct11), sl11⟩)
    (c11 : PySem.W.codeIn K cd11 "_law_plain" = true)
    (k11 : PySem.W.keepIn K (.ref f11) = true)
    (a12 : PySem.W.nsIn K mainGlobals "_law_is_integer" = some (some (.ref f12)))
    (l12 : K.lookup f12 = some ⟨oc12, od12, .func (PySem.W.fnOf "_law_is_integer" "_law_is_integer" (defArgs (top 25)) (defBody (top 25)) (defScope (top 25)) .none kV12 dc12 pm12 an12 cd12 ct12), sl12⟩)
    (c12 : PySem.W.codeIn K cd12 "_law_is_integer" = true)
    (k12 : PySem.W.keepIn K (.ref f12) = true)
    (a13 : PySem.W.nsIn K mainGlobals "_law_is_told" = some (some (.ref f13)))
    (l13 : K.lookup f13 = some ⟨oc13, od13, .func (PySem.W.fnOf "_law_is_told" "_law_is_told" (defArgs (top 26)) (defBody (top 26)) (defScope (top 26)) .none kV13 dc13 pm13 an13 cd13 ct13), sl13⟩)
    (c13 : PySem.W.codeIn K cd13 "_law_is_told" = true)
    (k13 : PySem.W.keepIn K (.ref f13) = true)
    (a14 : PySem.W.nsIn K mainGlobals "common_divisor" = some (some (.ref f14)))
    (l14 : K.lookup f14 = some ⟨oc14, od14, .func (PySem.W.fnOf "common_divisor" "common_divisor" (defArgs (top 8)) (defBody (top 8)) (defScope (top 8)) .none kV14 dc14 pm14 an14 cd14 ct14), sl14⟩)
    (c14 : PySem.W.codeIn K cd14 "common_divisor" = true)
    (k14 : PySem.W.keepIn K (.ref f14) = true)
    (a15 : PySem.W.nsIn K mainGlobals "is_pair" = some (some (.ref f15)))
    (l15 : K.lookup f15 = some ⟨oc15, od15, .func (PySem.W.fnOf "is_pair" "is_pair" (defArgs (top 7)) (defBody (top 7)) (defScope (top 7)) .none kV15 dc15 pm15 an15 cd15 ct15), sl15⟩)
    (c15 : PySem.W.codeIn K cd15 "is_pair" = true)
    (k15 : PySem.W.keepIn K (.ref f15) = true)
    (a16 : PySem.W.nsIn K mainGlobals "is_fraction" = some (some (.ref f16)))
    (l16 : K.lookup f16 = some ⟨oc16, od16, .func (PySem.W.fnOf "is_fraction" "is_fraction" (defArgs (top 9)) (defBody (top 9)) (defScope (top 9)) .none kV16 dc16 pm16 an16 cd16 ct16), sl16⟩)
    (c16 : PySem.W.codeIn K cd16 "is_fraction" = true)
    (k16 : PySem.W.keepIn K (.ref f16) = true)
    (a17 : PySem.W.nsIn K mainGlobals "is_number_of" = some (some (.ref f17)))
    (l17 : K.lookup f17 = some ⟨oc17, od17, .func (PySem.W.fnOf "is_number_of" "is_number_of" (defArgs (top 16)) (defBody (top 16)) (defScope (top 16)) .none kV17 dc17 pm17 an17 cd17 ct17), sl17⟩)
    (c17 : PySem.W.codeIn K cd17 "is_number_of" = true)
    (k17 : PySem.W.keepIn K (.ref f17) = true)
    (a18 : PySem.W.nsIn K mainGlobals "is_number" = some (some (.ref f18)))
    (l18 : K.lookup f18 = some ⟨oc18, od18, .func (PySem.W.fnOf "is_number" "is_number" (defArgs (top 17)) (defBody (top 17)) (defScope (top 17)) .none kV18 dc18 pm18 an18 cd18 ct18), sl18⟩)
    (c18 : PySem.W.codeIn K cd18 "is_number" = true)
    (k18 : PySem.W.keepIn K (.ref f18) = true)
    (a19 : PySem.W.nsIn K mainGlobals "_law_is_well" = some (some (.ref f19)))
    (l19 : K.lookup f19 = some ⟨oc19, od19, .func (PySem.W.fnOf "_law_is_well" "_law_is_well" (defArgs (top 29)) (defBody (top 29)) (defScope (top 29)) .none kV19 dc19 pm19 an19 cd19 ct19), sl19⟩)
    (c19 : PySem.W.codeIn K cd19 "_law_is_well" = true)
    (k19 : PySem.W.keepIn K (.ref f19) = true)
    (a20 : PySem.W.nsIn K mainGlobals "law" = some (some (.ref f20)))
    (l20 : K.lookup f20 = some ⟨oc20, od20, .func (PySem.W.fnOf "law" "law" (defArgs (top 30)) (defBody (top 30)) (defScope (top 30)) .none kV20 dc20 pm20 an20 cd20 ct20), sl20⟩)
    (c20 : PySem.W.codeIn K cd20 "law" = true)
    (k20 : PySem.W.keepIn K (.ref f20) = true) :
    ∃ fd : FuncData, (∀ (s : Shared) (v : Value), BindsTo s fd ⟨[v], []⟩ [("_law_script", v)]) ∧ ∀ base : Heap, K.In base → base.Ns mainGlobals mg → FnOk P w K mg base (L2.CX P w) 7 fa fd ["_law_script"] (spD ⟨P, w, K, mg⟩ g_law) := by
  have e := hfa.symm.trans (PySem.W.mg_of X G a20)
  cases e
  have T : Txt ⟨P, w, K, mg⟩ xNoNumber xNoWorld := ⟨PySem.W.mg_none_of X G n_abs, PySem.W.mg_none_of X G n_all, PySem.W.mg_none_of X G n_bool, PySem.W.mg_none_of X G n_int, PySem.W.mg_none_of X G n_isinstance, PySem.W.mg_none_of X G n_len, PySem.W.mg_none_of X G n_min, PySem.W.mg_none_of X G n_range, PySem.W.mg_none_of X G n_tuple, ⟨_, PySem.W.mg_of X G c_FRACTIONS⟩, ⟨_, PySem.W.mg_of X G c_MOST_HOURS⟩, ⟨_, PySem.W.mg_of X G c_WHOLE⟩, ⟨_, PySem.W.mg_of X G gNoNumber, qNoNumber, kNoNumber, bNoNumber, tNoNumber⟩, PySem.W.mg_of X G gNoNumber, ⟨_, PySem.W.mg_of X G gNoWorld, qNoWorld, kNoWorld, bNoWorld, tNoWorld⟩, PySem.W.mg_of X G gNoWorld, (fun n hn u hu => by
    simp only [yes_NoNumber, no_NoNumber, List.mem_cons, List.not_mem_nil, or_false] at hn
    rcases hn with rfl
    · cases (PySem.W.mg_of X G gNoNumber).symm.trans hu; exact exm_sub bNoNumber iNoNumber tNoNumber sNoNumber_NoNumber), (fun n hn u hu => by
    simp only [yes_NoNumber, no_NoNumber, List.mem_cons, List.not_mem_nil, or_false] at hn
    rcases hn with rfl
    · cases (PySem.W.mg_of X G gNoWorld).symm.trans hu; exact exm_sub bNoNumber iNoNumber tNoNumber sNoWorld_NoNumber), (fun n hn u hu => by
    simp only [yes_NoWorld, no_NoWorld, List.mem_cons, List.not_mem_nil, or_false] at hn
    rcases hn with rfl
    · cases (PySem.W.mg_of X G gNoWorld).symm.trans hu; exact exm_sub bNoWorld iNoWorld tNoWorld sNoWorld_NoWorld), (fun n hn u hu => by
    simp only [yes_NoWorld, no_NoWorld, List.mem_cons, List.not_mem_nil, or_false] at hn
    rcases hn with rfl
    · cases (PySem.W.mg_of X G gNoNumber).symm.trans hu; exact exm_sub bNoWorld iNoWorld tNoWorld sNoNumber_NoWorld)⟩
  have H0 := fun_mk (st := top 21) l0 c0 k0
  have B0 := H0.binds (ps := ["_law_script"]) fun _ _ _ _ _ _ us hl => match us, hl with | [_], _ => rfl
  have F__law_deck : Fn ⟨P, w, K, mg⟩ 1 "_law_deck" g__law_deck := fn_def [0] m__law_deck H0 sc__law_deck B0 (PySem.W.mg_of X G a0) (fun base cdv A outer s H E vs W g => b__law_deck T  base _ cdv A outer s H E vs W g)
  have H1 := fun_mk (st := top 22) l1 c1 k1
  have B1 := H1.binds (ps := ["_law_deck_here", "_law_many"]) fun _ _ _ _ _ _ us hl => match us, hl with | [_, _], _ => rfl
  have F__law_pick : Fn ⟨P, w, K, mg⟩ 1 "_law_pick" g__law_pick := fn_def [0, 1] m__law_pick H1 sc__law_pick B1 (PySem.W.mg_of X G a1) (fun base cdv A outer s H E vs W g => b__law_pick T  base _ cdv A outer s H E vs W g)
  have H2 := fun_mk (st := top 23) l2 c2 k2
  have B2 := H2.binds (ps := ["_law_deck_here"]) fun _ _ _ _ _ _ us hl => match us, hl with | [_], _ => rfl
  have F__law_long : Fn ⟨P, w, K, mg⟩ 2 "_law_long" g__law_long := fn_def [0] m__law_long H2 sc__law_long B2 (PySem.W.mg_of X G a2) (fun base cdv A outer s H E vs W g => b__law_long T F__law_pick base _ cdv A outer s H E vs W g)
  have H3 := fun_mk (st := top 24) l3 c3 k3
  have B3 := H3.binds (ps := ["_law_deck_here", "_law_hours"]) fun _ _ _ _ _ _ us hl => match us, hl with | [_, _], _ => rfl
  have F__law_integer : Fn ⟨P, w, K, mg⟩ 3 "_law_integer" g__law_integer := fn_def [0, 1] m__law_integer H3 sc__law_integer B3 (PySem.W.mg_of X G a3) (fun base cdv A outer s H E vs W g => b__law_integer T F__law_pick F__law_long base _ cdv A outer s H E vs W g)
  have H4 := fun_mk (st := top 5) l4 c4 k4
  have B4 := H4.binds (ps := ["thing"]) fun _ _ _ _ _ _ us hl => match us, hl with | [_], _ => rfl
  have F_is_integer : Fn ⟨P, w, K, mg⟩ 1 "is_integer" g_is_integer := fn_def [0] m_is_integer H4 sc_is_integer B4 (PySem.W.mg_of X G a4) (fun base cdv A outer s H E vs W g => b_is_integer T  base _ cdv A outer s H E vs W g)
  have H5 := fun_mk (st := top 6) l5 c5 k5
  have B5 := H5.binds (ps := ["thing", "least", "most"]) fun _ _ _ _ _ _ us hl => match us, hl with | [_, _, _], _ => rfl
  have F_is_within : Fn ⟨P, w, K, mg⟩ 2 "is_within" g_is_within := fn_def [0, 1, 2] m_is_within H5 sc_is_within B5 (PySem.W.mg_of X G a5) (fun base cdv A outer s H E vs W g => b_is_within T F_is_integer base _ cdv A outer s H E vs W g)
  have H6 := fun_mk (st := top 14) l6 c6 k6
  have B6 := H6.binds (ps := ["thing"]) fun _ _ _ _ _ _ us hl => match us, hl with | [_], _ => rfl
  have F_is_world : Fn ⟨P, w, K, mg⟩ 3 "is_world" g_is_world := fn_def [0] m_is_world H6 sc_is_world B6 (PySem.W.mg_of X G a6) (fun base cdv A outer s H E vs W g => b_is_world T F_is_within base _ cdv A outer s H E vs W g)
  have H7 := fun_mk (st := top 15) l7 c7 k7
  have B7 := H7.binds (ps := ["world"]) fun _ _ _ _ _ _ us hl => match us, hl with | [_], _ => rfl
  have F_check_world : Fn ⟨P, w, K, mg⟩ 4 "check_world" g_check_world := fn_def [0] m_check_world H7 sc_check_world B7 (PySem.W.mg_of X G a7) (fun base cdv A outer s H E vs W g => b_check_world T F_is_world base _ cdv A outer s H E vs W g)
  have H8 := fun_mk (st := top 18) l8 c8 k8
  have B8 := H8.binds (ps := ["world", "integer"]) fun _ _ _ _ _ _ us hl => match us, hl with | [_, _], _ => rfl
  have F_told_in : Fn ⟨P, w, K, mg⟩ 1 "told_in" g_told_in := fn_def [0, 1] m_told_in H8 sc_told_in B8 (PySem.W.mg_of X G a8) (fun base cdv A outer s H E vs W g => b_told_in T  base _ cdv A outer s H E vs W g)
  have H9 := fun_mk (st := top 19) l9 c9 k9
  have B9 := H9.binds (ps := ["world", "integer"]) fun _ _ _ _ _ _ us hl => match us, hl with | [_, _], _ => rfl
  have F_read_in : Fn ⟨P, w, K, mg⟩ 5 "read_in" g_read_in := fn_def [0, 1] m_read_in H9 sc_read_in B9 (PySem.W.mg_of X G a9) (fun base cdv A outer s H E vs W g => b_read_in T F_check_world F_is_integer F_told_in base _ cdv A outer s H E vs W g)
  have H10 := fun_mk (st := top 28) l10 c10 k10
  have B10 := H10.binds (ps := ["_law_world", "_law_integer_here"]) fun _ _ _ _ _ _ us hl => match us, hl with | [_, _], _ => rfl
  have F__law_refusal : Fn ⟨P, w, K, mg⟩ 6 "_law_refusal" g__law_refusal := fn_def [0, 1] m__law_refusal H10 sc__law_refusal B10 (PySem.W.mg_of X G a10) (fun base cdv A outer s H E vs W g => b__law_refusal T F_read_in base _ cdv A outer s H E vs W g)
  have H11 := fun_mk (st := top 27) l11 c11 k11
  have B11 := H11.binds (ps := ["_law_world", "_law_number"]) fun _ _ _ _ _ _ us hl => match us, hl with | [_, _], _ => rfl
  have F__law_plain : Fn ⟨P, w, K, mg⟩ 1 "_law_plain" g__law_plain := fn_def [0, 1] m__law_plain H11 sc__law_plain B11 (PySem.W.mg_of X G a11) (fun base cdv A outer s H E vs W g => b__law_plain T  base _ cdv A outer s H E vs W g)
  have H12 := fun_mk (st := top 25) l12 c12 k12
  have B12 := H12.binds (ps := ["_law_thing"]) fun _ _ _ _ _ _ us hl => match us, hl with | [_], _ => rfl
  have F__law_is_integer : Fn ⟨P, w, K, mg⟩ 1 "_law_is_integer" g__law_is_integer := fn_def [0] m__law_is_integer H12 sc__law_is_integer B12 (PySem.W.mg_of X G a12) (fun base cdv A outer s H E vs W g => b__law_is_integer T  base _ cdv A outer s H E vs W g)
  have H13 := fun_mk (st := top 26) l13 c13 k13
  have B13 := H13.binds (ps := ["_law_world", "_law_integer_here", "_law_told"]) fun _ _ _ _ _ _ us hl => match us, hl with | [_, _, _], _ => rfl
  have F__law_is_told : Fn ⟨P, w, K, mg⟩ 2 "_law_is_told" g__law_is_told := fn_def [0, 1, 2] m__law_is_told H13 sc__law_is_told B13 (PySem.W.mg_of X G a13) (fun base cdv A outer s H E vs W g => b__law_is_told T F__law_is_integer base _ cdv A outer s H E vs W g)
  have H14 := fun_mk (st := top 8) l14 c14 k14
  have B14 := H14.binds (ps := ["one", "other"]) fun _ _ _ _ _ _ us hl => match us, hl with | [_, _], _ => rfl
  have F_common_divisor : Fn ⟨P, w, K, mg⟩ 1 "common_divisor" g_common_divisor := fn_def ([] : List Nat) m_common_divisor H14 sc_common_divisor B14 (PySem.W.mg_of X G a14) (fun base cdv A outer s H E vs W g => b_common_divisor T  base _ cdv A outer s H E vs W g)
  have H15 := fun_mk (st := top 7) l15 c15 k15
  have B15 := H15.binds (ps := ["thing"]) fun _ _ _ _ _ _ us hl => match us, hl with | [_], _ => rfl
  have F_is_pair : Fn ⟨P, w, K, mg⟩ 1 "is_pair" g_is_pair := fn_def [0] m_is_pair H15 sc_is_pair B15 (PySem.W.mg_of X G a15) (fun base cdv A outer s H E vs W g => b_is_pair T  base _ cdv A outer s H E vs W g)
  have H16 := fun_mk (st := top 9) l16 c16 k16
  have B16 := H16.binds (ps := ["thing"]) fun _ _ _ _ _ _ us hl => match us, hl with | [_], _ => rfl
  have F_is_fraction : Fn ⟨P, w, K, mg⟩ 2 "is_fraction" g_is_fraction := fn_def [0] m_is_fraction H16 sc_is_fraction B16 (PySem.W.mg_of X G a16) (fun base cdv A outer s H E vs W g => b_is_fraction T F_is_pair F_is_integer F_common_divisor base _ cdv A outer s H E vs W g)
  have H17 := fun_mk (st := top 16) l17 c17 k17
  have B17 := H17.binds (ps := ["world", "thing"]) fun _ _ _ _ _ _ us hl => match us, hl with | [_, _], _ => rfl
  have F_is_number_of : Fn ⟨P, w, K, mg⟩ 3 "is_number_of" g_is_number_of := fn_def [0, 1] m_is_number_of H17 sc_is_number_of B17 (PySem.W.mg_of X G a17) (fun base cdv A outer s H E vs W g => b_is_number_of T F_is_integer F_is_fraction F_is_within base _ cdv A outer s H E vs W g)
  have H18 := fun_mk (st := top 17) l18 c18 k18
  have B18 := H18.binds (ps := ["world", "thing"]) fun _ _ _ _ _ _ us hl => match us, hl with | [_, _], _ => rfl
  have F_is_number : Fn ⟨P, w, K, mg⟩ 5 "is_number" g_is_number := fn_def [0, 1] m_is_number H18 sc_is_number B18 (PySem.W.mg_of X G a18) (fun base cdv A outer s H E vs W g => b_is_number T F_check_world F_is_number_of base _ cdv A outer s H E vs W g)
  have H19 := fun_mk (st := top 29) l19 c19 k19
  have B19 := H19.binds (ps := ["_law_world", "_law_one", "_law_other", "_law_shift"]) fun _ _ _ _ _ _ us hl => match us, hl with | [_, _, _, _], _ => rfl
  have F__law_is_well : Fn ⟨P, w, K, mg⟩ 6 "_law_is_well" g__law_is_well := fn_def [0, 1, 2, 3] m__law_is_well H19 sc__law_is_well B19 (PySem.W.mg_of X G a19) (fun base cdv A outer s H E vs W g => b__law_is_well T F_read_in F__law_is_told F_is_number F__law_plain base _ cdv A outer s H E vs W g)
  have H20 := fun_mk (st := top 30) l20 c20 k20
  exact ⟨_, fun s v => .of_eq rfl, fun base _ _ => fn_ok [0] m_law H20 sc_law base (fun base cdv A outer s H E vs W g => b_law T F__law_deck F__law_pick F__law_integer F__law_is_well F__law_refusal base _ cdv A outer s H E vs W g)⟩
end Mi
open PySem PySem.W PyProof.Rows
set_option maxRecDepth 100000 in
set_option maxHeartbeats 0 in
theorem PySem.Challenge.cw_elderalike_k02_whole_read_in_holds : PySem.Challenge.rw_elderalike_k02_whole_read_in.Holds := by
  w_on; o_law; k_head; (case hw => w_witness2)
  k_fill
  refine Mi.law_walk (l := PySem.Challenge.rw_elderalike_k02_whole_read_in) (k := 7) (g := Mi.g_law) rfl rfl ⟨rfl, by decide, by decide⟩ (fun w h Y => PySem.W.kIn_of Y) ?F Mi.law_true
  case F =>
    intro w mg fa h KX G hmg
    refine' Mi.all_mk KX G hmg ?n_abs ?n_all ?n_bool ?n_int ?n_isinstance ?n_len ?n_min ?n_range ?n_tuple ?c_FRACTIONS ?c_MOST_HOURS ?c_WHOLE ?gNoNumber ?qNoNumber ?kNoNumber ?bNoNumber ?tNoNumber ?gNoWorld ?qNoWorld ?kNoWorld ?bNoWorld ?tNoWorld ?iNoNumber ?sNoNumber_NoNumber ?sNoWorld_NoNumber ?iNoWorld ?sNoWorld_NoWorld ?sNoNumber_NoWorld ?a0 ?l0 ?c0 ?k0 ?a1 ?l1 ?c1 ?k1 ?a2 ?l2 ?c2 ?k2 ?a3 ?l3 ?c3 ?k3 ?a4 ?l4 ?c4 ?k4 ?a5 ?l5 ?c5 ?k5 ?a6 ?l6 ?c6 ?k6 ?a7 ?l7 ?c7 ?k7 ?a8 ?l8 ?c8 ?k8 ?a9 ?l9 ?c9 ?k9 ?a10 ?l10 ?c10 ?k10 ?a11 ?l11 ?c11 ?k11 ?a12 ?l12 ?c12 ?k12 ?a13 ?l13 ?c13 ?k13 ?a14 ?l14 ?c14 ?k14 ?a15 ?l15 ?c15 ?k15 ?a16 ?l16 ?c16 ?k16 ?a17 ?l17 ?c17 ?k17 ?a18 ?l18 ?c18 ?k18 ?a19 ?l19 ?c19 ?k19 ?a20 ?l20 ?c20 ?k20
    (case n_abs => k_is); (case n_all => k_is); (case n_bool => k_is); (case n_int => k_is); (case n_isinstance => k_is); (case n_len => k_is); (case n_min => k_is); (case n_range => k_is); (case n_tuple => k_is); (case c_FRACTIONS => k_is); (case c_MOST_HOURS => k_is); (case c_WHOLE => k_is); (case gNoNumber => k_is); (case qNoNumber => k_exc); (case kNoNumber => k_is); (case bNoNumber => k_is); (case tNoNumber => k_is); (case gNoWorld => k_is); (case qNoWorld => k_exc); (case kNoWorld => k_is); (case bNoWorld => k_is); (case tNoWorld => k_is); (case iNoNumber => k_is); (case sNoNumber_NoNumber => first | rfl | k_is); (case sNoWorld_NoNumber => first | rfl | k_is); (case iNoWorld => k_is); (case sNoWorld_NoWorld => first | rfl | k_is); (case sNoNumber_NoWorld => first | rfl | k_is); (case a0 => k_is); (case l0 => k_is); (case c0 => k_is); (case k0 => k_is); (case a1 => k_is); (case l1 => k_is); (case c1 => k_is); (case k1 => k_is); (case a2 => k_is); (case l2 => k_is); (case c2 => k_is); (case k2 => k_is); (case a3 => k_is); (case l3 => k_is); (case c3 => k_is); (case k3 => k_is); (case a4 => k_is); (case l4 => k_is); (case c4 => k_is); (case k4 => k_is); (case a5 => k_is); (case l5 => k_is); (case c5 => k_is); (case k5 => k_is); (case a6 => k_is); (case l6 => k_is); (case c6 => k_is); (case k6 => k_is); (case a7 => k_is); (case l7 => k_is); (case c7 => k_is); (case k7 => k_is); (case a8 => k_is); (case l8 => k_is); (case c8 => k_is); (case k8 => k_is); (case a9 => k_is); (case l9 => k_is); (case c9 => k_is); (case k9 => k_is); (case a10 => k_is); (case l10 => k_is); (case c10 => k_is); (case k10 => k_is); (case a11 => k_is); (case l11 => k_is); (case c11 => k_is); (case k11 => k_is); (case a12 => k_is); (case l12 => k_is); (case c12 => k_is); (case k12 => k_is); (case a13 => k_is); (case l13 => k_is); (case c13 => k_is); (case k13 => k_is); (case a14 => k_is); (case l14 => k_is); (case c14 => k_is); (case k14 => k_is); (case a15 => k_is); (case l15 => k_is); (case c15 => k_is); (case k15 => k_is); (case a16 => k_is); (case l16 => k_is); (case c16 => k_is); (case k16 => k_is); (case a17 => k_is); (case l17 => k_is); (case c17 => k_is); (case k17 => k_is); (case a18 => k_is); (case l18 => k_is); (case c18 => k_is); (case k18 => k_is); (case a19 => k_is); (case l19 => k_is); (case c19 => k_is); (case k19 => k_is); (case a20 => k_is); (case l20 => k_is); (case c20 => k_is); (case k20 => k_is)
