import PyProof.Rows.All
import Wide.All
import OpenK.AllK
import Wide.FinOn
import HandS.ForMost
import HandS.ForExc
import HandS.Wide
import HandS.IsInst
import HandS.CallSlots
import HandS.ExcInit
import HandS.TryOnly
import HandS.TupAny
import KE.KDictKeyed
import KE.KeyNested
import HandS.Style
import HandS.SortInts
import HandS.Comp
import HandS.Small
import HandS.WordsExc
import HandS.EndBits
import HandS.TryMany
import HandS.Text
import HandS.More
import HandS.Conv
import KE.KDictPairs
import HandS.DictComp
import KE.GoesMore
import PyProof.DictCopy
import HandS.Deep
import KE.KExcSuper
import KE.KSuper
import HandS.ExcValue
import HandS.ExcField
import HandS.ExcIs
import KE.KExcIs
import PyProof.ReprRoads
import PyProof.CallFns
import HandS.Spec
import KE.DataCmp
import PyProof.StrLawsRepr
import PyProof.Rows.ReprOcc
import PySem.Challenge.RW_elderalike_k00_errors_and_their_fields
set_option Elab.async false
set_option linter.all false
set_option maxRecDepth 100000
set_option maxHeartbeats 4000000
namespace Mi
open PySem PySem.Spec PyProof.Rows L2

/- data; the flag at a list, a dict, an instance: nothing else holds it -/
inductive D where
  | non | bl (b : Bool) | int (i : Int) | str (s : Str) | ty (n : String) | fn (x : Str) | scr (l : List Int)
  | tup (l : List D)
  | lst (o : Bool) (l : List D)
  | dic (o : Bool) (ks ws : List D)
  | ins (o : Bool) (c : Str) (ns : List Str) (ws : List D)
  | pd (o : Bool) (ks ws : List D)
  | exn (c : Str) (ns : List Str) (ws : List D)
  deriving Inhabited

mutual
def fz : D → Bool
  | .tup l => fzL l
  | .lst o l => !o && fzL l
  | .dic o ks ws => !o && (fzL ks && fzL ws)
  | .ins o _ _ ws => !o && fzL ws
  | .pd o ks ws => !o && (fzL ks && fzL ws)
  | .exn _ _ ws => fzL ws
  | _ => true
def fzL : List D → Bool
  | [] => true
  | d :: r => fz d && fzL r
end
mutual
def frz : D → D
  | .tup l => .tup (frzL l)
  | .lst _ l => .lst false (frzL l)
  | .dic _ ks ws => .dic false ks (frzL ws)
  | .ins _ c ns ws => .ins false c ns (frzL ws)
  | .pd _ ks ws => .pd false ks (frzL ws)
  | .exn c ns ws => .exn c ns ws
  | .non => .non | .bl b => .bl b | .int i => .int i | .str s => .str s | .ty n => .ty n | .fn x => .fn x | .scr l => .scr l
def frzL : List D → List D
  | [] => []
  | d :: r => frz d :: frzL r
end
abbrev Tag := Nat × List Nat
structure Wd where
  F : Hp
  H : Hp
  t : Addr → Option Tag
structure KM where
  P : Program
  w : World
  K : PySem.W.Frag
  mg : Str → Option Value

/- a dict's object: its keys and values -/
inductive DCell : HO → List V → List V → Prop where
  | dk (kvs : List (Key × V)) : DCell (.dK kvs) (kvs.map fun p => kV p.1) (kvs.map (·.2))

/-! dicts whose keys are tuples, nested -/
mutual
def nkD : D → Option NestedKey
  | .non => some .none
  | .int i => some (.num i)
  | .str s => some (.text s)
  | .tup l => (nkL l).map .tup
  | _ => none
def nkL : List D → Option (List NestedKey)
  | [] => some []
  | d :: r => match nkD d, nkL r with | some k, some ks => some (k :: ks) | _, _ => none
end
/- at x: a dict with these keys, told one by one -/
def plO (C : KM) (x : Addr) (ep : Nat) (xs : List (NestedKey × Addr × Value)) : HO := .ext fun h => ∃ o es, h.get? x = some o ∧ o.ExactDict ∧ o.data = .dict es ep ∧ es.toList = xs.map (entryOfKey (nestedKind C.P C.w)) ∧ (xs.map (·.1)).Nodup
structure PlR (x : Addr) (ks : List D) (xs : List (NestedKey × Addr × Value)) (vs : List V) : Prop where
  keys : nkL ks = some (xs.map (·.1))
  dep : ∀ p ∈ xs, p.1.depth ≤ 8
  len : xs.length ≤ 100000
  sys : (x == sysModules) = false
  val : Paired RelV vs (xs.map (·.2.2))
/- an exception's dict, if it has one -/
def ExR (F : Hp) (dx : Option Addr) (ns : List Str) (vs : List V) : Prop := (dx = none ∧ ns = []) ∨ ∃ d, dx = some d ∧ F d = some (exd d (ns.zip vs))
theorem ExR.mono {F G : Hp} (h : ∀ x o, F x = some o → G x = some o) {dx : Option Addr} {ns : List Str} {vs : List V} (q : ExR F dx ns vs) : ExR G dx ns vs := by
  rcases q with q | ⟨d, q, z⟩
  · exact .inl q
  · exact .inr ⟨d, q, h _ _ z⟩

/- a tuple's object, exactly one (no dict of its own) -/
def XT (K : PySem.W.Frag) (F : Hp) (x : Addr) (vs : List V) : Prop := (∃ ob : Obj, F x = some (.frz ob (.tup vs)) ∧ ob.dict = none ∧ ob.cls = .type "tuple") ∨
  ∃ (o : Obj) (its : Array Value) (n : Nat), K.lookup x = some o ∧ o.cls = .type "tuple" ∧ o.dict = none ∧ o.data = .seq its n ∧ its.size ≤ sizeLine ∧ Vals vs its.toList
theorem XT.sq {K : PySem.W.Frag} {F : Hp} {x : Addr} {vs : List V} (h : XT K F x vs) : SqT K F x vs := by
  rcases h with ⟨ob, h, _⟩ | ⟨o, its, n, h1, h2, _, h3, h4, h5⟩
  · exact .inl (.inr ⟨ob, h⟩)
  · exact .inr ⟨o, its, n, h1, h2, h3, h4, h5⟩
theorem xt_mono {K : PySem.W.Frag} {F G : Hp} (h : ∀ x o, F x = some o → G x = some o) {x : Addr} {vs : List V} (q : XT K F x vs) : XT K G x vs := by
  rcases q with ⟨ob, q, z⟩ | q
  · exact .inl ⟨ob, h _ _ q, z⟩
  · exact .inr q
mutual
def Rep (C : KM) (a : Wd) (r : Nat) (p : List Nat) (v : V) : D → Prop
  | .non => v = .non
  | .bl b => v = .bl b
  | .int i => v = .int i
  | .str s => v = .str s
  | .ty n => v = .ty n
  | .fn x => ∃ u, C.mg x = some (.ref u) ∧ v = .ref u
  | .scr l => ∃ x, v = .ref x ∧ SqL C.K a.F x (l.map V.int)
  | .tup l => ∃ x vs, v = .ref x ∧ XT C.K a.F x vs ∧ RepL C a r p 0 vs l
  | .lst o l => ∃ x vs, v = .ref x ∧ (if o = true then a.t x = some (r, p) ∧ a.H x = some (.lst vs) else a.F x = some (.lst vs) ∧ fzL l = true) ∧ RepL C a r p 0 vs l
  | .dic o ks ws => ∃ x h kv vs, v = .ref x ∧ (if o = true then a.t x = some (r, p) ∧ a.H x = some h else a.F x = some h ∧ fzL ws = true) ∧ DCell h kv vs ∧ fzL ks = true ∧ RepL C a r p 0 kv ks ∧ RepL C a r p 0 vs ws
  | .ins o c ns ws => ∃ x u dx vs, v = .ref x ∧ C.mg c = some (.ref u) ∧ vs.length = ns.length ∧
      (if o = true then a.t x = some (r, p) ∧ a.H x = some (.ins u dx (ns.zip vs)) else a.F x = some (.ins u dx (ns.zip vs)) ∧ fzL ws = true) ∧ RepL C a r p 0 vs ws
  | .pd o ks ws => ∃ x ep xs vs, v = .ref x ∧ (if o = true then a.t x = some (r, p) ∧ a.H x = some (plO C x ep xs) else a.F x = some (plO C x ep xs) ∧ fzL ws = true) ∧ PlR x ks xs vs ∧ fzL ks = true ∧
      RepL C a r p 0 (xs.map fun q => .ref q.2.1) ks ∧ RepL C a r p 0 vs ws
  | .exn c ns ws => ∃ x u dx vs, v = .ref x ∧ C.mg c = some (.ref u) ∧ vs.length = ns.length ∧ a.F x = some (exo x u dx) ∧ ExR a.F dx ns vs ∧ fzL ws = true ∧ RepL C a r p 0 vs ws
def RepL (C : KM) (a : Wd) (r : Nat) (p : List Nat) (n : Nat) (vs : List V) : List D → Prop
  | [] => vs = []
  | d :: ds => ∃ v us, vs = v :: us ∧ Rep C a r (n :: p) v d ∧ RepL C a r p (n + 1) us ds
end

structure Ok (a : Wd) : Prop where
  sub : ∀ x o, a.F x = some o → a.H x = some o
  own : ∀ x t, a.t x = some t → a.F x = none ∧ ∃ o, a.H x = some o
/- nothing is changed, things may be new -/
structure Grow (a b : Wd) : Prop where
  h : ∀ x o, a.H x = some o → b.H x = some o ∧ b.t x = a.t x ∧ b.F x = a.F x
/- what is not owned stays -/
def Step (a b : Wd) : Prop := ∀ x o, a.H x = some o → a.t x = none → b.H x = some o ∧ b.t x = none ∧ b.F x = a.F x
theorem Grow.refl (a : Wd) : Grow a a := ⟨fun _ _ h => ⟨h, rfl, rfl⟩⟩
theorem Grow.trans {a b c : Wd} (x : Grow a b) (y : Grow b c) : Grow a c := ⟨fun z o h => by
  obtain ⟨h1, h2, h3⟩ := x.h z o h
  obtain ⟨g1, g2, g3⟩ := y.h z o h1
  exact ⟨g1, g2.trans h2, g3.trans h3⟩⟩
theorem Step.refl (a : Wd) : Step a a := fun _ _ h t => ⟨h, t, rfl⟩
theorem Step.trans {a b c : Wd} (x : Step a b) (y : Step b c) : Step a c := fun z o h t => by
  obtain ⟨h1, h2, h3⟩ := x z o h t
  obtain ⟨g1, g2, g3⟩ := y z o h1 h2
  exact ⟨g1, g2, g3.trans h3⟩
theorem Grow.step {a b : Wd} (x : Grow a b) : Step a b := fun z o h t => by
  obtain ⟨h1, h2, h3⟩ := x.h z o h
  exact ⟨h1, h2.trans t, h3⟩
theorem Ok.tn {a : Wd} (k : Ok a) {x : Addr} {o : HO} (h : a.F x = some o) : a.t x = none := by
  cases e : a.t x with
  | none => rfl
  | some t => have := (k.own x t e).1; rw [h] at this; cases this
theorem Step.f {a b : Wd} (s : Step a b) (k : Ok a) {x : Addr} {o : HO} (h : a.F x = some o) : b.F x = some o := by
  rw [(s x o (k.sub x o h) (k.tn h)).2.2]; exact h
theorem Grow.f {a b : Wd} (s : Grow a b) (k : Ok a) {x : Addr} {o : HO} (h : a.F x = some o) : b.F x = some o := by
  rw [(s.h x o (k.sub x o h)).2.2]; exact h

theorem sql_mono {K : PySem.W.Frag} {F G : Hp} (h : ∀ x o, F x = some o → G x = some o) {x : Addr} {vs : List V} (q : SqL K F x vs) : SqL K G x vs := by
  rcases q with (q | ⟨o, q⟩) | q
  · exact .inl (.inl (h _ _ q))
  · exact .inl (.inr ⟨o, h _ _ q⟩)
  · exact .inr q
theorem sqt_mono {K : PySem.W.Frag} {F G : Hp} (h : ∀ x o, F x = some o → G x = some o) {x : Addr} {vs : List V} (q : SqT K F x vs) : SqT K G x vs := by
  rcases q with (q | ⟨o, q⟩) | q
  · exact .inl (.inl (h _ _ q))
  · exact .inl (.inr ⟨o, h _ _ q⟩)
  · exact .inr q

/-! the general transport: F grows, owned nodes of the tree keep their cell and get the new tag -/
mutual
theorem Rep.to {C : KM} {a b : Wd} {r s : Nat} {p q : List Nat} (hf : ∀ x o, a.F x = some o → b.F x = some o)
    (ho : ∀ x z o, a.t x = some (r, z ++ p) → a.H x = some o → b.t x = some (s, z ++ q) ∧ b.H x = some o) :
    ∀ (d : D) (z : List Nat) (v : V), Rep C a r (z ++ p) v d → Rep C b s (z ++ q) v d
  | .non, z, v, h => h
  | .bl _, z, v, h => h
  | .int _, z, v, h => h
  | .str _, z, v, h => h
  | .ty _, z, v, h => h
  | .fn _, z, v, h => h
  | .scr _, z, v, ⟨x, e, h⟩ => ⟨x, e, sql_mono hf h⟩
  | .tup l, z, v, ⟨x, vs, e, h, k⟩ => ⟨x, vs, e, xt_mono hf h, RepL.to hf ho l z 0 vs k⟩
  | .lst true l, z, v, ⟨x, vs, e, h, k⟩ => ⟨x, vs, e, by rw [if_pos rfl] at h ⊢; exact ho x z _ h.1 h.2, RepL.to hf ho l z 0 vs k⟩
  | .lst false l, z, v, ⟨x, vs, e, h, k⟩ => ⟨x, vs, e, by rw [if_neg Bool.false_ne_true] at h ⊢; exact ⟨hf _ _ h.1, h.2⟩, RepL.to hf ho l z 0 vs k⟩
  | .dic true ks ws, z, v, ⟨x, u, kv, vs, e, h, c, f, k1, k2⟩ => ⟨x, u, kv, vs, e, by rw [if_pos rfl] at h ⊢; exact ho x z _ h.1 h.2, c, f, RepL.to hf ho ks z 0 kv k1, RepL.to hf ho ws z 0 vs k2⟩
  | .dic false ks ws, z, v, ⟨x, u, kv, vs, e, h, c, f, k1, k2⟩ => ⟨x, u, kv, vs, e, by rw [if_neg Bool.false_ne_true] at h ⊢; exact ⟨hf _ _ h.1, h.2⟩, c, f, RepL.to hf ho ks z 0 kv k1, RepL.to hf ho ws z 0 vs k2⟩
  | .ins true c ns ws, z, v, ⟨x, u, dx, vs, e, m, l, h, k⟩ => ⟨x, u, dx, vs, e, m, l, by rw [if_pos rfl] at h ⊢; exact ho x z _ h.1 h.2, RepL.to hf ho ws z 0 vs k⟩
  | .ins false c ns ws, z, v, ⟨x, u, dx, vs, e, m, l, h, k⟩ => ⟨x, u, dx, vs, e, m, l, by rw [if_neg Bool.false_ne_true] at h ⊢; exact ⟨hf _ _ h.1, h.2⟩, RepL.to hf ho ws z 0 vs k⟩
  | .pd true ks ws, z, v, ⟨x, ep, xs, vs, e, h, c, f, k1, k2⟩ => ⟨x, ep, xs, vs, e, by rw [if_pos rfl] at h ⊢; exact ho x z _ h.1 h.2, c, f, RepL.to hf ho ks z 0 _ k1, RepL.to hf ho ws z 0 vs k2⟩
  | .pd false ks ws, z, v, ⟨x, ep, xs, vs, e, h, c, f, k1, k2⟩ => ⟨x, ep, xs, vs, e, by rw [if_neg Bool.false_ne_true] at h ⊢; exact ⟨hf _ _ h.1, h.2⟩, c, f, RepL.to hf ho ks z 0 _ k1, RepL.to hf ho ws z 0 vs k2⟩
  | .exn c ns ws, z, v, ⟨x, u, dx, vs, e, m, l, h, er, f, k⟩ => ⟨x, u, dx, vs, e, m, l, hf _ _ h, er.mono hf, f, RepL.to hf ho ws z 0 vs k⟩
theorem RepL.to {C : KM} {a b : Wd} {r s : Nat} {p q : List Nat} (hf : ∀ x o, a.F x = some o → b.F x = some o)
    (ho : ∀ x z o, a.t x = some (r, z ++ p) → a.H x = some o → b.t x = some (s, z ++ q) ∧ b.H x = some o) :
    ∀ (l : List D) (z : List Nat) (n : Nat) (vs : List V), RepL C a r (z ++ p) n vs l → RepL C b s (z ++ q) n vs l
  | [], z, n, vs, h => h
  | d :: l, z, n, vs, ⟨v, us, e, h1, h2⟩ => ⟨v, us, e, Rep.to hf ho d (n :: z) v h1, RepL.to hf ho l z (n + 1) us h2⟩
end
/-! frozen data stands at any tag -/
mutual
theorem Rep.fz {C : KM} {a b : Wd} {r s : Nat} (hf : ∀ x o, a.F x = some o → b.F x = some o) :
    ∀ (d : D) (p q : List Nat) (v : V), fz d = true → Rep C a r p v d → Rep C b s q v d
  | .non, p, q, v, _, h => h
  | .bl _, p, q, v, _, h => h
  | .int _, p, q, v, _, h => h
  | .str _, p, q, v, _, h => h
  | .ty _, p, q, v, _, h => h
  | .fn _, p, q, v, _, h => h
  | .scr _, p, q, v, _, ⟨x, e, h⟩ => ⟨x, e, sql_mono hf h⟩
  | .tup l, p, q, v, z, ⟨x, vs, e, h, k⟩ => ⟨x, vs, e, xt_mono hf h, RepL.fz hf l p q 0 vs z k⟩
  | .lst true l, p, q, v, z, _ => by simp [Mi.fz] at z
  | .lst false l, p, q, v, z, ⟨x, vs, e, h, k⟩ => by
    have z : fzL l = true := by simpa [Mi.fz] using z
    exact ⟨x, vs, e, by rw [if_neg Bool.false_ne_true] at h ⊢; exact ⟨hf _ _ h.1, h.2⟩, RepL.fz hf l p q 0 vs z k⟩
  | .dic true ks ws, p, q, v, z, _ => by simp [Mi.fz] at z
  | .dic false ks ws, p, q, v, z, ⟨x, u, kv, vs, e, h, c, f, k1, k2⟩ => by
    have z : fzL ks = true ∧ fzL ws = true := by simpa [Mi.fz] using z
    exact ⟨x, u, kv, vs, e, by rw [if_neg Bool.false_ne_true] at h ⊢; exact ⟨hf _ _ h.1, h.2⟩, c, f, RepL.fz hf ks p q 0 kv z.1 k1, RepL.fz hf ws p q 0 vs z.2 k2⟩
  | .ins true c ns ws, p, q, v, z, _ => by simp [Mi.fz] at z
  | .ins false c ns ws, p, q, v, z, ⟨x, u, dx, vs, e, m, l, h, k⟩ => by
    have z : fzL ws = true := by simpa [Mi.fz] using z
    exact ⟨x, u, dx, vs, e, m, l, by rw [if_neg Bool.false_ne_true] at h ⊢; exact ⟨hf _ _ h.1, h.2⟩, RepL.fz hf ws p q 0 vs z k⟩
  | .pd true ks ws, p, q, v, z, _ => by simp [Mi.fz] at z
  | .pd false ks ws, p, q, v, z, ⟨x, ep, xs, vs, e, h, c, f, k1, k2⟩ => by
    have z : fzL ks = true ∧ fzL ws = true := by simpa [Mi.fz] using z
    exact ⟨x, ep, xs, vs, e, by rw [if_neg Bool.false_ne_true] at h ⊢; exact ⟨hf _ _ h.1, h.2⟩, c, f, RepL.fz hf ks p q 0 _ z.1 k1, RepL.fz hf ws p q 0 vs z.2 k2⟩
  | .exn c ns ws, p, q, v, z, ⟨x, u, dx, vs, e, m, l, h, er, f, k⟩ => ⟨x, u, dx, vs, e, m, l, hf _ _ h, er.mono hf, f, RepL.fz hf ws p q 0 vs f k⟩
theorem RepL.fz {C : KM} {a b : Wd} {r s : Nat} (hf : ∀ x o, a.F x = some o → b.F x = some o) :
    ∀ (l : List D) (p q : List Nat) (n : Nat) {m : Nat} (vs : List V), fzL l = true → RepL C a r p n vs l → RepL C b s q m vs l
  | [], p, q, n, m, vs, _, h => h
  | d :: l, p, q, n, m, vs, z, ⟨v, us, e, h1, h2⟩ => by
    have z : Mi.fz d = true ∧ fzL l = true := by simpa [Mi.fzL] using z
    exact ⟨v, us, e, Rep.fz hf d (n :: p) (m :: q) v z.1 h1, RepL.fz hf l p q (n + 1) us z.2 h2⟩
end
/-! a tree is frozen: its nodes go into F -/
mutual
theorem Rep.frz {C : KM} {a b : Wd} {r s : Nat} (hf : ∀ x o, a.F x = some o → b.F x = some o) (ho : ∀ x z o, a.t x = some (r, z) → a.H x = some o → b.F x = some o) :
    ∀ (d : D) (p q : List Nat) (v : V), Rep C a r p v d → Mi.fz (Mi.frz d) = true ∧ Rep C b s q v (Mi.frz d)
  | .non, p, q, v, h => ⟨rfl, h⟩
  | .bl _, p, q, v, h => ⟨rfl, h⟩
  | .int _, p, q, v, h => ⟨rfl, h⟩
  | .str _, p, q, v, h => ⟨rfl, h⟩
  | .ty _, p, q, v, h => ⟨rfl, h⟩
  | .fn _, p, q, v, h => ⟨rfl, h⟩
  | .scr _, p, q, v, ⟨x, e, h⟩ => ⟨rfl, x, e, sql_mono hf h⟩
  | .tup l, p, q, v, ⟨x, vs, e, h, k⟩ => by
    obtain ⟨z, k'⟩ := RepL.frz (s := s) hf ho l p q 0 vs k
    exact ⟨by simpa [Mi.fz, Mi.frz] using z, x, vs, e, xt_mono hf h, k'⟩
  | .lst o l, p, q, v, ⟨x, vs, e, h, k⟩ => by
    obtain ⟨z, k'⟩ := RepL.frz (s := s) hf ho l p q 0 vs k
    refine ⟨by simpa [Mi.fz, Mi.frz] using z, x, vs, e, ?_, k'⟩
    rw [if_neg Bool.false_ne_true]
    cases o with
    | true => rw [if_pos rfl] at h; exact ⟨ho x _ _ h.1 h.2, z⟩
    | false => rw [if_neg Bool.false_ne_true] at h; exact ⟨hf _ _ h.1, z⟩
  | .dic o ks ws, p, q, v, ⟨x, u, kv, vs, e, h, c, f, k1, k2⟩ => by
    obtain ⟨z, k'⟩ := RepL.frz (s := s) hf ho ws p q 0 vs k2
    refine ⟨by simp [Mi.fz, Mi.frz, z, f], x, u, kv, vs, e, ?_, c, f, RepL.fz hf ks p q 0 kv f k1, k'⟩
    rw [if_neg Bool.false_ne_true]
    cases o with
    | true => rw [if_pos rfl] at h; exact ⟨ho x _ _ h.1 h.2, z⟩
    | false => rw [if_neg Bool.false_ne_true] at h; exact ⟨hf _ _ h.1, z⟩
  | .ins o c ns ws, p, q, v, ⟨x, u, dx, vs, e, m, l, h, k⟩ => by
    obtain ⟨z, k'⟩ := RepL.frz (s := s) hf ho ws p q 0 vs k
    refine ⟨by simpa [Mi.fz, Mi.frz] using z, x, u, dx, vs, e, m, l, ?_, k'⟩
    rw [if_neg Bool.false_ne_true]
    cases o with
    | true => rw [if_pos rfl] at h; exact ⟨ho x _ _ h.1 h.2, z⟩
    | false => rw [if_neg Bool.false_ne_true] at h; exact ⟨hf _ _ h.1, z⟩
  | .pd o ks ws, p, q, v, ⟨x, ep, xs, vs, e, h, c, f, k1, k2⟩ => by
    obtain ⟨z, k'⟩ := RepL.frz (s := s) hf ho ws p q 0 vs k2
    refine ⟨by simp [Mi.fz, Mi.frz, z, f], x, ep, xs, vs, e, ?_, c, f, RepL.fz hf ks p q 0 _ f k1, k'⟩
    rw [if_neg Bool.false_ne_true]
    cases o with
    | true => rw [if_pos rfl] at h; exact ⟨ho x _ _ h.1 h.2, z⟩
    | false => rw [if_neg Bool.false_ne_true] at h; exact ⟨hf _ _ h.1, z⟩
  | .exn c ns ws, p, q, v, ⟨x, u, dx, vs, e, m, l, h, er, f, k⟩ => ⟨by simp [Mi.fz, Mi.frz, f], x, u, dx, vs, e, m, l, hf _ _ h, er.mono hf, f, RepL.fz hf ws p q 0 vs f k⟩
theorem RepL.frz {C : KM} {a b : Wd} {r s : Nat} (hf : ∀ x o, a.F x = some o → b.F x = some o) (ho : ∀ x z o, a.t x = some (r, z) → a.H x = some o → b.F x = some o) :
    ∀ (l : List D) (p q : List Nat) (n : Nat) {m : Nat} (vs : List V), RepL C a r p n vs l → fzL (frzL l) = true ∧ RepL C b s q m vs (frzL l)
  | [], p, q, n, m, vs, h => ⟨rfl, h⟩
  | d :: l, p, q, n, m, vs, ⟨v, us, e, h1, h2⟩ => by
    obtain ⟨z1, k1⟩ := Rep.frz (s := s) hf ho d (n :: p) (m :: q) v h1
    obtain ⟨z2, k2⟩ := RepL.frz (s := s) hf ho l p q (n + 1) (m := m + 1) us h2
    exact ⟨by simp [Mi.frzL, Mi.fzL, z1, z2], v, us, e, k1, k2⟩
end
end Mi
namespace Mi
open PySem PySem.Spec PyProof.Rows L2

mutual
theorem frz_fz : ∀ d : D, fz d = true → frz d = d
  | .non, _ => rfl
  | .bl _, _ => rfl
  | .int _, _ => rfl
  | .str _, _ => rfl
  | .ty _, _ => rfl
  | .fn _, _ => rfl
  | .scr _, _ => rfl
  | .tup l, h => by simp only [frz, frzL_fz l (by simpa [fz] using h)]
  | .lst o l, h => by
    have h : o = false ∧ fzL l = true := by simpa [fz] using h
    simp only [frz, frzL_fz l h.2, h.1]
  | .dic o ks ws, h => by
    have h : o = false ∧ fzL ks = true ∧ fzL ws = true := by simpa [fz] using h
    simp only [frz, frzL_fz ws h.2.2, h.1]
  | .ins o c ns ws, h => by
    have h : o = false ∧ fzL ws = true := by simpa [fz] using h
    simp only [frz, frzL_fz ws h.2, h.1]
  | .pd o ks ws, h => by
    have h : o = false ∧ fzL ks = true ∧ fzL ws = true := by simpa [fz] using h
    simp only [frz, frzL_fz ws h.2.2, h.1]
  | .exn c ns ws, h => rfl
theorem frzL_fz : ∀ l : List D, fzL l = true → frzL l = l
  | [], _ => rfl
  | d :: l, h => by
    have h : fz d = true ∧ fzL l = true := by simpa [fzL] using h
    simp only [frzL, frz_fz d h.1, frzL_fz l h.2]
end

/-! ### the worlds behind a freezing, a move -/
def frzW (a : Wd) (r : Nat) : Wd where
  F := fun x => match a.t x with | some (s, _) => if s = r then a.H x else a.F x | none => a.F x
  H := a.H
  t := fun x => match a.t x with | some (s, q) => if s = r then none else some (s, q) | none => none
def mvW (a : Wd) (r k : Nat) : Wd where
  F := a.F
  H := a.H
  t := fun x => match a.t x with | some (s, q) => if s = r then some (k, q) else some (s, q) | none => none
section
variable {a b : Wd} {C : KM} {r k s : Nat} {d : D} {v : V} {p q : List Nat}
theorem frzW_f (k : Ok a) : ∀ x o, a.F x = some o → (frzW a r).F x = some o := fun x o h => by
  show (match a.t x with | some (s, _) => if s = r then a.H x else a.F x | none => a.F x) = _
  rw [k.tn h]; exact h
theorem frzW_o (r : Nat) : ∀ x z o, a.t x = some (r, z) → a.H x = some o → (frzW a r).F x = some o := fun x z o h e => by
  show (match a.t x with | some (s, _) => if s = r then a.H x else a.F x | none => a.F x) = _
  rw [h]; simpa using e
theorem frzW_ok (k : Ok a) : Ok (frzW a r) := by
  refine ⟨fun x o h => ?_, fun x t h => ?_⟩
  · have h : (match a.t x with | some (s, _) => if s = r then a.H x else a.F x | none => a.F x) = some o := h
    show a.H x = some o
    split at h
    · split at h
      · exact h
      · exact k.sub x o h
    · exact k.sub x o h
  · have h : (match a.t x with | some (s, q) => if s = r then none else some (s, q) | none => none) = some t := h
    split at h
    · rename_i s q e
      split at h
      · cases h
      · rename_i ne
        obtain ⟨h1, h2⟩ := k.own x _ e
        refine ⟨?_, h2⟩
        show (match a.t x with | some (s, _) => if s = r then a.H x else a.F x | none => a.F x) = none
        rw [e]; simp [ne, h1]
    · cases h
theorem frzW_step : Step a (frzW a r) := fun x o h t => by
  refine ⟨h, ?_, ?_⟩
  · show (match a.t x with | some (s, q) => if s = r then none else some (s, q) | none => none) = none
    rw [t]
  · show (match a.t x with | some (s, _) => if s = r then a.H x else a.F x | none => a.F x) = a.F x
    rw [t]
theorem frzW_rep (k : Ok a) (h : Rep C a r p v d) : fz (frz d) = true ∧ Rep C (frzW a r) s q v (frz d) := Rep.frz (frzW_f k) (frzW_o r) d p q v h
theorem frzW_else (k : Ok a) (ne : s ≠ r) (h : Rep C a s p v d) : Rep C (frzW a r) s p v d := by
  have := Rep.to (C := C) (a := a) (b := frzW a r) (r := s) (s := s) (p := p) (q := p) (frzW_f k) (fun x z o h e => ⟨by
    show (match a.t x with | some (s, q) => if s = r then none else some (s, q) | none => none) = _
    rw [h]; simp [ne], e⟩) d [] v
  exact this h
theorem mvW_ok (k : Ok a) {r m : Nat} : Ok (mvW a r m) := by
  refine ⟨k.sub, fun x t h => ?_⟩
  have h : (match a.t x with | some (s, q) => if s = r then some (m, q) else some (s, q) | none => none) = some t := h
  split at h
  · rename_i s q e; exact k.own x _ e
  · cases h
theorem mvW_step {r m : Nat} : Step a (mvW a r m) := fun x o h t => by
  refine ⟨h, ?_, rfl⟩
  show (match a.t x with | some (s, q) => if s = r then some (m, q) else some (s, q) | none => none) = none
  rw [t]
theorem mvW_rep {m : Nat} (h : Rep C a r p v d) : Rep C (mvW a r m) m p v d := by
  have := Rep.to (C := C) (a := a) (b := mvW a r m) (r := r) (s := m) (p := p) (q := p) (fun _ _ h => h) (fun x z o h e => ⟨by
    show (match a.t x with | some (s, q) => if s = r then some (m, q) else some (s, q) | none => none) = _
    rw [h]; simp, e⟩) d [] v
  exact this h
theorem mvW_else {m : Nat} (ne : s ≠ r) (h : Rep C a s p v d) : Rep C (mvW a r m) s p v d := by
  have := Rep.to (C := C) (a := a) (b := mvW a r m) (r := s) (s := s) (p := p) (q := p) (fun _ _ h => h) (fun x z o h e => ⟨by
    show (match a.t x with | some (s, q) => if s = r then some (m, q) else some (s, q) | none => none) = _
    rw [h]; simp [ne], e⟩) d [] v
  exact this h
theorem Rep.grow (k : Ok a) (g : Grow a b) (h : Rep C a r p v d) : Rep C b r p v d := by
  have := Rep.to (C := C) (a := a) (b := b) (r := r) (s := r) (p := p) (q := p) (fun x o h => g.f k h) (fun x z o h e => ⟨((g.h x o e).2.1).trans h, (g.h x o e).1⟩) d [] v
  exact this h
theorem Rep.step (k : Ok a) (st : Step a b) (z : Mi.fz d = true) (h : Rep C a r p v d) : Rep C b s q v d := Rep.fz (fun x o h => st.f k h) d p q v z h
theorem Rep.stepL {l : List D} {vs : List V} {n m : Nat} (k : Ok a) (st : Step a b) (z : fzL l = true) (h : RepL C a r p n vs l) : RepL C b s q m vs l := RepL.fz (fun x o h => st.f k h) l p q n vs z h
/- a new thing, frozen, owned -/
theorem grow_f {o : HO} {x : Addr} (k : Ok a) (hx : a.H x = none) : Grow a ⟨upd a.F x o, upd a.H x o, a.t⟩ ∧ Ok ⟨upd a.F x o, upd a.H x o, a.t⟩ := by
  have tx : a.t x = none := by
    cases e : a.t x with
    | none => rfl
    | some t => obtain ⟨_, o, h⟩ := k.own x t e; rw [hx] at h; cases h
  refine ⟨⟨fun y u h => ?_⟩, ⟨fun y u h => ?_, fun y t h => ?_⟩⟩
  · have ne : y ≠ x := by rintro rfl; rw [hx] at h; cases h
    exact ⟨by show upd a.H x o y = _; rw [upd_ne ne]; exact h, rfl, by show upd a.F x o y = _; rw [upd_ne ne]⟩
  · by_cases e : y = x
    · subst e
      have h : upd a.F y o y = some u := h
      rw [upd_same] at h
      show upd a.H y o y = some u
      rw [upd_same]; exact h
    · have h : upd a.F x o y = some u := h
      rw [upd_ne e] at h
      show upd a.H x o y = some u
      rw [upd_ne e]; exact k.sub y u h
  · have ne : y ≠ x := by rintro rfl; have h : a.t y = some t := h; rw [tx] at h; cases h
    obtain ⟨h1, u, h2⟩ := k.own y t h
    exact ⟨by show upd a.F x o y = _; rw [upd_ne ne]; exact h1, u, by show upd a.H x o y = _; rw [upd_ne ne]; exact h2⟩
theorem grow_o {o : HO} {x : Addr} (T : Tag) (k : Ok a) (hx : a.H x = none) : Grow a ⟨a.F, upd a.H x o, fun y => if y = x then some T else a.t y⟩ ∧ Ok ⟨a.F, upd a.H x o, fun y => if y = x then some T else a.t y⟩ := by
  have fx : a.F x = none := by
    cases e : a.F x with
    | none => rfl
    | some u => have := k.sub x u e; rw [hx] at this; cases this
  refine ⟨⟨fun y u h => ?_⟩, ⟨fun y u h => ?_, fun y t h => ?_⟩⟩
  · have ne : y ≠ x := by rintro rfl; rw [hx] at h; cases h
    exact ⟨by show upd a.H x o y = _; rw [upd_ne ne]; exact h, if_neg ne, rfl⟩
  · have ne : y ≠ x := by rintro rfl; have h : a.F y = some u := h; rw [fx] at h; cases h
    show upd a.H x o y = _
    rw [upd_ne ne]; exact k.sub y u h
  · have h : (if y = x then some T else a.t y) = some t := h
    by_cases e : y = x
    · subst e
      exact ⟨fx, o, upd_same⟩
    · rw [if_neg e] at h
      obtain ⟨h1, u, h2⟩ := k.own y t h
      exact ⟨h1, u, by show upd a.H x o y = _; rw [upd_ne e]; exact h2⟩
end

/-! ### results, frames -/
abbrev EnvD := List (Option D)
structure Exc where
  cls : Str
  ns : List Str
  ws : List D
inductive Res (α : Type) where
  | ok (a : α) | exc (x : Exc) (e : EnvD) | bad
def Res.bind {α β : Type} (m : Res α) (k : α → Res β) : Res β := match m with
  | .ok a => k a
  | .exc x e => .exc x e
  | .bad => .bad
instance : Monad Res where
  pure := .ok
  bind := Res.bind
structure Gm where
  C : KM
  vs0 : List V
  io : List Nat
structure RelE (G : Gm) (a : Wd) (σ : L2.St) (env : EnvD) : Prop where
  ok : Ok a
  len : env.length = σ.length
  slot : ∀ i d, env[i]? = some (some d) → ∃ v, σ[i]? = some (some v) ∧ Rep G.C a (i + 1) [] v d
  prm : ∀ i ∈ G.io, ∀ v, G.vs0[i]? = some v → σ[i]? = some (some v)
def ExcRep (C : KM) (a : Wd) (x : Exc) (cls : Value) (dd : Option Addr) : Prop :=
  C.mg x.cls = some cls ∧ ((x.ns = [] ∧ x.ws = [] ∧ dd = none) ∨ ∃ u vs, dd = some u ∧ a.F u = some (.xd (x.ns.zip vs)) ∧ vs.length = x.ns.length ∧ fzL x.ws = true ∧ RepL C a 0 [] 0 vs x.ws)

section
variable {G : Gm} {W : WX} {σ : L2.St} {a b : Wd} {env : EnvD} {α β : Type}
theorem RelE.grow (r : RelE G a σ env) (g : Grow a b) (k : Ok b) : RelE G b σ env :=
  ⟨k, r.len, fun i d h => let ⟨v, e, q⟩ := r.slot i d h; ⟨v, e, q.grow r.ok g⟩, r.prm⟩
/- behind an expression -/
def PostR (G : Gm) (W : WX) (σ : L2.St) (a : Wd) (r : Res (α × EnvD)) (K : α → EnvD → Wd → Prop) : Prop :=
  match r with
  | .ok (x, e) => ∀ b, Step a b → RelE G b σ e → K x e b
  | .exc x e => ∀ b cls dd, Step a b → RelE G b σ e → ExcRep G.C b x cls dd → W cls dd σ b.H
  | .bad => False
theorem PostR.step {r : Res (α × EnvD)} {K : α → EnvD → Wd → Prop} (st : Step a b) (h : PostR G W σ a r K) : PostR G W σ b r K := by
  cases r with
  | ok x => exact fun c s k => h c (st.trans s) k
  | exc x e => exact fun c cls dd s k => h c cls dd (st.trans s) k
  | bad => exact h
theorem PostR.imp {r : Res (α × EnvD)} {K K' : α → EnvD → Wd → Prop} (h : PostR G W σ a r K) (f : ∀ x e b, Step a b → RelE G b σ e → K x e b → K' x e b) : PostR G W σ a r K' := by
  cases r with
  | ok x => exact fun c s k => f _ _ _ s k (h c s k)
  | exc x e => exact h
  | bad => exact h
theorem PostR.bind {m : Res (α × EnvD)} {k : α × EnvD → Res (β × EnvD)} {K : β → EnvD → Wd → Prop} (h : PostR G W σ a (m.bind k) K) :
    PostR G W σ a m (fun x e b => PostR G W σ b (k (x, e)) K) := by
  cases m with
  | ok x => exact fun c s _ => PostR.step s h
  | exc x e => exact h
  | bad => exact h
end

abbrev EM (α : Type) := EnvD → Res (α × EnvD)
/- an operand: a name's slot, or frozen data -/
inductive Arg where
  | var (i : Nat) | val (d : D)
def Arg.get (e : EnvD) : Arg → Option D
  | .val d => some d
  | .var i => match e[i]? with | some (some d) => some d | _ => none
def ArgRep (C : KM) (a : Wd) (σ : L2.St) (x : Arg) (v : V) : Prop := match x with
  | .val d => fz d = true ∧ Rep C a 0 [] v d
  | .var i => σ[i]? = some (some v)
theorem ArgRep.step {C : KM} {a b : Wd} {σ : L2.St} {x : Arg} {v : V} (k : Ok a) (s : Step a b) (h : ArgRep C a σ x v) : ArgRep C b σ x v := by
  cases x with
  | val d => exact ⟨h.1, h.2.step k s h.1⟩
  | var i => exact h
theorem ArgRep.rep {G : Gm} {a : Wd} {σ : L2.St} {env : EnvD} {x : Arg} {v : V} {d : D} (rel : RelE G a σ env) (h : ArgRep G.C a σ x v) (e : x.get env = some d) : ∃ r, Rep G.C a r [] v d := by
  cases x with
  | val d' => cases e; exact ⟨0, h.2⟩
  | var i =>
    have e : (match env[i]? with | some (some d) => some d | _ => none) = some d := e
    split at e
    · rename_i d' q
      cases e
      obtain ⟨v', h1, h2⟩ := rel.slot i d q
      have h : σ[i]? = some (some v) := h
      rw [h] at h1; cases h1
      exact ⟨_, h2⟩
    · cases e

/-! ### readings -/
section
variable (G : Gm) (W : WX)
def tE (m : EM D) : TE := fun σ H Q => ∃ a env, a.H = H ∧ RelE G a σ env ∧ PostR G W σ a (m env) fun d _ b => ∀ v, Rep G.C b 0 [] v d → Q v b.H
def tArg (m : EM Arg) : TE := fun σ H Q => ∃ a env, a.H = H ∧ RelE G a σ env ∧ PostR G W σ a (m env) fun x _ b => ∀ v, ArgRep G.C b σ x v → Q v b.H
def tArgs (m : EM (List Arg)) : TA := fun σ H Q => ∃ a env, a.H = H ∧ RelE G a σ env ∧ PostR G W σ a (m env) fun xs _ b => ∀ vs, Paired (ArgRep G.C b σ) xs vs → Q vs b.H
def tT (m : EM Bool) : TT := fun σ H Q => ∃ a env, a.H = H ∧ RelE G a σ env ∧ PostR G W σ a (m env) fun x _ b => Q x b.H
end
theorem PE.weak {X : Cx} {e : Expr} {t u : TE} (h : PE X e t) (w : ∀ σ H Q, u σ H Q → t σ H Q) : PE X e u := ⟨fun pins s σ H Q I q => h.run pins s σ H Q I (w σ H Q q)⟩
theorem PT.weak {X : Cx} {e : Expr} {t u : TT} (h : PT X e t) (w : ∀ σ H Q, u σ H Q → t σ H Q) : PT X e u := ⟨fun pins s σ H Q I q => h.run pins s σ H Q I (w σ H Q q)⟩
theorem PW.weak {X : Cx} {e : Expr} {t u : TT} (h : PW X e t) (w : ∀ σ H Q, u σ H Q → t σ H Q) : PW X e u := ⟨fun wh pins s σ H Q I q => h.run wh pins s σ H Q I (w σ H Q q)⟩
theorem PA.weak {X : Cx} {e : List Expr} {t u : TA} (h : PA X e t) (w : ∀ σ H Q, u σ H Q → t σ H Q) : PA X e u := ⟨fun p pins s σ H Q I q => h.run p pins s σ H Q I (w σ H Q q)⟩
theorem PS.weak {X : Cx} {e : Stmt} {t u : TS} (h : PS X e t) (w : ∀ D σ H, u D σ H → t D σ H) : PS X e u := ⟨fun pins s σ H D I q => h.run pins s σ H D I (w D σ H q)⟩
theorem PSs.weak {X : Cx} {e : List Stmt} {t u : TS} (h : PSs X e t) (w : ∀ D σ H, u D σ H → t D σ H) : PSs X e u := ⟨fun pins s σ H D I q => h.run pins s σ H D I (w D σ H q)⟩

section
variable {G : Gm} {W : WX} {σ : L2.St} {a : Wd} {env : EnvD} {β : Type} {K : β → EnvD → Wd → Prop}
theorem tArg_of {m : EM Arg} {k : Arg × EnvD → Res (β × EnvD)} {R : VK} (rel : RelE G a σ env) (h : PostR G W σ a ((m env).bind k) K)
    (hq : ∀ x e b v, Step a b → RelE G b σ e → ArgRep G.C b σ x v → PostR G W σ b (k (x, e)) K → R v b.H) : tArg G W m σ a.H R :=
  ⟨a, env, rfl, rel, h.bind.imp fun x e b s r p v q => hq x e b v s r q p⟩
theorem tE_of {m : EM D} {k : D × EnvD → Res (β × EnvD)} {R : VK} (rel : RelE G a σ env) (h : PostR G W σ a ((m env).bind k) K)
    (hq : ∀ x e b v, Step a b → RelE G b σ e → Rep G.C b 0 [] v x → PostR G W σ b (k (x, e)) K → R v b.H) : tE G W m σ a.H R :=
  ⟨a, env, rfl, rel, h.bind.imp fun x e b s r p v q => hq x e b v s r q p⟩
theorem tArgs_of {m : EM (List Arg)} {k : List Arg × EnvD → Res (β × EnvD)} {R : List V → Hp → Prop} (rel : RelE G a σ env) (h : PostR G W σ a ((m env).bind k) K)
    (hq : ∀ x e b v, Step a b → RelE G b σ e → Paired (ArgRep G.C b σ) x v → PostR G W σ b (k (x, e)) K → R v b.H) : tArgs G W m σ a.H R :=
  ⟨a, env, rfl, rel, h.bind.imp fun x e b s r p v q => hq x e b v s r q p⟩
theorem tT_of {m : EM Bool} {k : Bool × EnvD → Res (β × EnvD)} {R : Bool → Hp → Prop} (rel : RelE G a σ env) (h : PostR G W σ a ((m env).bind k) K)
    (hq : ∀ x e b, Step a b → RelE G b σ e → PostR G W σ b (k (x, e)) K → R x b.H) : tT G W m σ a.H R :=
  ⟨a, env, rfl, rel, h.bind.imp fun x e b s r p => hq x e b s r p⟩
/- what is handed on -/
theorem PostR.get {x : β} {e : EnvD} (h : PostR G W σ a (.ok (x, e)) K) (rel : RelE G a σ e) : K x e a := h a (Step.refl a) rel
end

/-! ### operations on values -/
/- a two-place operation that changes nothing, by data -/
def rD (C : KM) (g : D → D → Option D) : R2 := fun x y H Q => ∃ a d1 d2 r1 r2 d, a.H = H ∧ Ok a ∧ Rep C a r1 [] x d1 ∧ Rep C a r2 [] y d2 ∧ g d1 d2 = some d ∧ ∀ z b, Grow a b → Ok b → Rep C b 0 [] z d → Q z b.H
def uD (C : KM) (g : D → Option D) : V → Hp → VK → Prop := fun x H Q => ∃ a d1 r1 d, a.H = H ∧ Ok a ∧ Rep C a r1 [] x d1 ∧ g d1 = some d ∧ ∀ z b, Grow a b → Ok b → Rep C b 0 [] z d → Q z b.H
/- a call of a builtin on values -/
def cD (C : KM) (g : List D → Option D) : List V → Hp → VK → Prop := fun xs H Q => ∃ a ds d, a.H = H ∧ Ok a ∧ Paired (fun d v => ∃ r, Rep C a r [] v d) ds xs ∧ g ds = some d ∧ ∀ z b, Grow a b → Ok b → Rep C b 0 [] z d → Q z b.H

def mLift (o : Option D) (e : EnvD) : Res (D × EnvD) := match o with
  | some d => .ok (d, e)
  | none => .bad
def mBin (g : D → D → Option D) (ma mb : EM Arg) : EM D := fun env => (ma env).bind fun (x, e1) => (mb e1).bind fun (y, e2) =>
  match x.get e2, y.get e2 with
  | some d1, some d2 => mLift (g d1 d2) e2
  | _, _ => .bad
def mUn (g : D → Option D) (ma : EM Arg) : EM D := fun env => (ma env).bind fun (x, e1) =>
  match x.get e1 with
  | some d1 => mLift (g d1) e1
  | _ => .bad
def Arg.gets (e : EnvD) : List Arg → Option (List D)
  | [] => some []
  | x :: r => match x.get e, Arg.gets e r with
    | some d, some ds => some (d :: ds)
    | _, _ => none
def mCB (g : List D → Option D) (ma : EM (List Arg)) : EM D := fun env => (ma env).bind fun (xs, e1) =>
  match Arg.gets e1 xs with
  | some ds => mLift (g ds) e1
  | _ => .bad
section
variable {G : Gm} {W : WX} {σ : L2.St} {H : Hp} {Q : VK} {ma mb : EM Arg} {g : D → D → Option D}
theorem PostR.lift {a : Wd} {o : Option D} {e : EnvD} {K : D → EnvD → Wd → Prop} (h : PostR G W σ a (mLift o e) K) (rel : RelE G a σ e) : ∃ d, o = some d ∧ ∀ b, Grow a b → Ok b → K d e b := by
  cases o with
  | none => exact (show False from h).elim
  | some d => exact ⟨d, rfl, fun b g k => h b g.step (rel.grow g k)⟩
theorem bin_w (h : tE G W (mBin g ma mb) σ H Q) : tOp (rD G.C g) (tArg G W ma) (tArg G W mb) σ H Q := by
  obtain ⟨a, env, rfl, rel, post⟩ := h
  refine tArg_of rel post fun x e1 b v s1 rel1 ar1 post1 => ?_
  refine tArg_of rel1 post1 fun y e2 c u s2 rel2 ar2 post2 => ?_
  have ar1 := ar1.step rel1.ok s2
  cases hx : x.get e2 with
  | none => simp only [hx] at post2; exact (show False from post2).elim
  | some d1 =>
    cases hy : y.get e2 with
    | none => simp only [hx, hy] at post2; exact (show False from post2).elim
    | some d2 =>
      simp only [hx, hy] at post2
      obtain ⟨d, hd, k⟩ := post2.lift rel2
      obtain ⟨r1, p1⟩ := ar1.rep rel2 hx
      obtain ⟨r2, p2⟩ := ar2.rep rel2 hy
      exact ⟨c, d1, d2, r1, r2, d, rfl, rel2.ok, p1, p2, hd, fun z b' gr ok rp => k b' gr ok z rp⟩
theorem un_w {g : D → Option D} (h : tE G W (mUn g ma) σ H Q) : tUn (uD G.C g) (tArg G W ma) σ H Q := by
  obtain ⟨a, env, rfl, rel, post⟩ := h
  refine tArg_of rel post fun x e1 b v s1 rel1 ar1 post1 => ?_
  cases hx : x.get e1 with
  | none => simp only [hx] at post1; exact (show False from post1).elim
  | some d1 =>
    simp only [hx] at post1
    obtain ⟨d, hd, k⟩ := post1.lift rel1
    obtain ⟨r1, p1⟩ := ar1.rep rel1 hx
    exact ⟨b, d1, r1, d, rfl, rel1.ok, p1, hd, fun z b' gr ok rp => k b' gr ok z rp⟩
theorem gets_rep {a : Wd} {env : EnvD} (rel : RelE G a σ env) : ∀ {xs : List Arg} {vs : List V} {ds : List D}, Paired (ArgRep G.C a σ) xs vs → Arg.gets env xs = some ds → Paired (fun d v => ∃ r, Rep G.C a r [] v d) ds vs
  | _, _, _, .nil, e => by cases e; exact .nil
  | x :: xs, v :: vs, ds, .cons h t, e => by
    simp only [Arg.gets] at e
    cases hx : x.get env with
    | none => simp [hx] at e
    | some d =>
      cases hr : Arg.gets env xs with
      | none => simp [hx, hr] at e
      | some dr =>
        simp [hx, hr] at e
        subst e
        exact .cons (h.rep rel hx) (gets_rep rel t hr)
theorem cb_w {g : List D → Option D} {ma : EM (List Arg)} (h : tE G W (mCB g ma) σ H Q) : tCB (cD G.C g) (tArgs G W ma) σ H Q := by
  obtain ⟨a, env, rfl, rel, post⟩ := h
  refine tArgs_of rel post fun x e1 b v s1 rel1 ar1 post1 => ?_
  cases hx : Arg.gets e1 x with
  | none => simp only [hx] at post1; exact (show False from post1).elim
  | some ds =>
    simp only [hx] at post1
    obtain ⟨d, hd, k⟩ := post1.lift rel1
    exact ⟨b, ds, d, rfl, rel1.ok, gets_rep rel1 ar1 hx, hd, fun z b' gr ok rp => k b' gr ok z rp⟩
end

/-! ### lists of operands -/
def mArgs : List (EM Arg) → EM (List Arg)
  | [] => fun env => .ok ([], env)
  | m :: ms => fun env => (m env).bind fun (x, e1) => (mArgs ms e1).bind fun (xs, e2) => .ok (x :: xs, e2)
section
variable {G : Gm} {W : WX} {σ : L2.St} {H : Hp}
theorem args_nil_w {Q : List V → Hp → Prop} (h : tArgs G W (mArgs []) σ H Q) : tNil σ H Q := by
  obtain ⟨a, env, rfl, rel, post⟩ := h
  exact post a (Step.refl a) rel [] .nil
theorem args_cons_w {Q : List V → Hp → Prop} {m : EM Arg} {ms : List (EM Arg)} (h : tArgs G W (mArgs (m :: ms)) σ H Q) : tCons (tArg G W m) (tArgs G W (mArgs ms)) σ H Q := by
  obtain ⟨a, env, rfl, rel, post⟩ := h
  refine tArg_of rel post fun x e1 b v s1 rel1 ar1 post1 => ?_
  refine tArgs_of rel1 post1 fun xs e2 c vs s2 rel2 ar2 post2 => ?_
  exact post2 c (Step.refl c) rel2 (v :: vs) (.cons (ar1.step rel1.ok s2) ar2)
end
end Mi
namespace Mi
open PySem PySem.Spec PyProof.Rows L2

/-! ### names -/
def mVarA (i : Nat) : EM Arg := fun env => match env[i]? with
  | some (some _) => .ok (.var i, env)
  | _ => .bad
def frzQ (d : D) : D := if fz d = true then d else frz d
def mVarE (i : Nat) : EM D := fun env => match env[i]? with
  | some (some d) => if fz d = true then .ok (d, env) else .ok (frz d, env.set i (some (frz d)))
  | _ => .bad
/- a name handed out for good (not a parameter's) -/
def mVarM (np i : Nat) : EM D := fun env => match env[i]? with
  | some (some d) => if fz d = true then .ok (d, env) else if i < np then .ok (frz d, env.set i (some (frz d))) else .ok (d, env.set i none)
  | _ => .bad
def mFrz (m : EM D) : EM Arg := fun env => (m env).bind fun (d, e) => .ok (.val (frzQ d), e)
theorem frzQ_rep {C : KM} {a : Wd} {r s : Nat} {p q : List Nat} {d : D} {v : V} (k : Ok a) (h : Rep C a r p v d) : fz (frzQ d) = true ∧ Rep C (frzW a r) s q v (frzQ d) := by
  unfold frzQ
  by_cases z : fz d = true
  · rw [if_pos z]; exact ⟨z, h.step k frzW_step z⟩
  · rw [if_neg z]; exact frzW_rep k h
section
variable {G : Gm} {W : WX} {σ : L2.St} {H : Hp} {Q : VK} {a : Wd} {env : EnvD}
theorem RelE.frz0 (r : RelE G a σ env) : RelE G (frzW a 0) σ env :=
  ⟨frzW_ok r.ok, r.len, fun i d h => let ⟨v, e, q⟩ := r.slot i d h; ⟨v, e, frzW_else r.ok (Nat.succ_ne_zero i) q⟩, r.prm⟩
theorem RelE.frzS (r : RelE G a σ env) {i : Nat} {d : D} (h : env[i]? = some (some d)) : RelE G (frzW a (i + 1)) σ (env.set i (some (frz d))) := by
  refine ⟨frzW_ok r.ok, by rw [List.length_set]; exact r.len, fun j e hj => ?_, r.prm⟩
  by_cases ij : i = j
  · subst ij
    have hi : i < env.length := (List.getElem?_eq_some_iff.mp h).1
    rw [List.getElem?_set_self hi] at hj
    cases hj
    obtain ⟨v, e, q⟩ := r.slot i d h
    exact ⟨v, e, (frzW_rep r.ok q).2⟩
  · rw [List.getElem?_set_ne ij] at hj
    obtain ⟨v, e', q⟩ := r.slot j e hj
    exact ⟨v, e', frzW_else r.ok (fun z => ij (Nat.succ.inj z).symm) q⟩
theorem RelE.kill (r : RelE G a σ env) (i : Nat) : RelE G a σ (env.set i none) := by
  refine ⟨r.ok, by rw [List.length_set]; exact r.len, fun j e hj => ?_, r.prm⟩
  by_cases ij : i = j
  · subst ij
    by_cases hi : i < env.length
    · rw [List.getElem?_set_self hi] at hj; cases hj
    · rw [List.getElem?_eq_none (by rw [List.length_set]; omega)] at hj; cases hj
  · rw [List.getElem?_set_ne ij] at hj
    exact r.slot j e hj
theorem varA_w {i : Nat} (h : tArg G W (mVarA i) σ H Q) : tVar i σ H Q := by
  obtain ⟨a, env, rfl, rel, post⟩ := h
  unfold mVarA at post
  split at post
  · rename_i d e
    obtain ⟨v, hv, _⟩ := rel.slot i d e
    exact ⟨v, hv, post a (Step.refl a) rel v hv⟩
  · exact (show False from post).elim
theorem varE_w {i : Nat} (h : tE G W (mVarE i) σ H Q) : tVar i σ H Q := by
  obtain ⟨a, env, rfl, rel, post⟩ := h
  unfold mVarE at post
  split at post
  · rename_i d e
    obtain ⟨v, hv, rp⟩ := rel.slot i d e
    by_cases z : fz d = true
    · rw [if_pos z] at post
      exact ⟨v, hv, post a (Step.refl a) rel v (rp.step rel.ok (Step.refl a) z)⟩
    · rw [if_neg z] at post
      exact ⟨v, hv, post (frzW a (i + 1)) frzW_step (rel.frzS e) v (frzW_rep rel.ok rp).2⟩
  · exact (show False from post).elim
theorem varM_w {np i : Nat} (h : tE G W (mVarM np i) σ H Q) : tVar i σ H Q := by
  obtain ⟨a, env, rfl, rel, post⟩ := h
  unfold mVarM at post
  split at post
  · rename_i d e
    obtain ⟨v, hv, rp⟩ := rel.slot i d e
    by_cases z : fz d = true
    · rw [if_pos z] at post
      exact ⟨v, hv, post a (Step.refl a) rel v (rp.step rel.ok (Step.refl a) z)⟩
    · rw [if_neg z] at post
      by_cases y : i < np
      · rw [if_pos y] at post
        exact ⟨v, hv, post (frzW a (i + 1)) frzW_step (rel.frzS e) v (frzW_rep rel.ok rp).2⟩
      · rw [if_neg y] at post
        have k0 := rel.kill i
        have R : RelE G (mvW a (i + 1) 0) σ (env.set i none) := by
          refine ⟨mvW_ok rel.ok, k0.len, fun j e' hj => ?_, k0.prm⟩
          obtain ⟨v', e2, q⟩ := k0.slot j e' hj
          refine ⟨v', e2, mvW_else (fun ij => ?_) q⟩
          have ij : j = i := Nat.succ.inj ij
          subst ij
          have hi : j < env.length := (List.getElem?_eq_some_iff.mp e).1
          rw [List.getElem?_set_self hi] at hj
          cases hj
        exact ⟨v, hv, post (mvW a (i + 1) 0) mvW_step R v (mvW_rep rp)⟩
  · exact (show False from post).elim
theorem frz_w {m : EM D} (h : tArg G W (mFrz m) σ H Q) : tE G W m σ H Q := by
  obtain ⟨a, env, rfl, rel, post⟩ := h
  refine tE_of rel post fun d e b v s r rp p => ?_
  have k := p (frzW b 0) frzW_step r.frz0 v (frzQ_rep r.ok rp)
  exact k

/-! ### constants -/
def mC (d : D) : EM D := fun env => .ok (d, env)
def atomV : D → Option V
  | .non => some .non
  | .bl b => some (.bl b)
  | .int i => some (.int i)
  | .str s => some (.str s)
  | .ty n => some (.ty n)
  | _ => none
theorem atom_rep {C : KM} {a : Wd} {r : Nat} {p : List Nat} {d : D} {v : V} (h : atomV d = some v) : Rep C a r p v d := by
  cases d <;> simp [atomV] at h <;> subst h <;> simp [Rep]
theorem c_w {d : D} {v : V} (hv : ∀ a, Ok a → Rep G.C a 0 [] v d) (h : tE G W (mC d) σ H Q) : tC v σ H Q := by
  obtain ⟨a, env, rfl, rel, post⟩ := h
  exact post a (Step.refl a) rel v (hv a rel.ok)

/-! ### tests -/
def D.bool : D → Option Bool
  | .bl b => some b
  | _ => none
def mLiftT (o : Option Bool) (e : EnvD) : Res (Bool × EnvD) := match o with
  | some d => .ok (d, e)
  | none => .bad
/- a value that is a flag -/
def mTB (m : EM D) : EM Bool := fun env => (m env).bind fun (d, e) => mLiftT d.bool e
theorem rep_bl {C : KM} {a : Wd} {r : Nat} {p : List Nat} {v : V} {b : Bool} (h : Rep C a r p v (.bl b)) : v = .bl b := h
theorem rep_int {C : KM} {a : Wd} {r : Nat} {p : List Nat} {v : V} {b : Int} (h : Rep C a r p v (.int b)) : v = .int b := h
theorem rep_str {C : KM} {a : Wd} {r : Nat} {p : List Nat} {v : V} {b : Str} (h : Rep C a r p v (.str b)) : v = .str b := h
theorem rep_non {C : KM} {a : Wd} {r : Nat} {p : List Nat} {v : V} (h : Rep C a r p v .non) : v = .non := h
theorem D.bool_eq {d : D} {b : Bool} (h : d.bool = some b) : d = .bl b := by
  cases d <;> simp [D.bool] at h
  rw [h]
theorem tb_w {m : EM D} {R : Bool → Hp → Prop} (h : tT G W (mTB m) σ H R) : tTest (tE G W m) σ H R := by
  obtain ⟨a, env, rfl, rel, post⟩ := h
  refine tE_of rel post fun d e b v s r rp p => ?_
  cases hb : d.bool with
  | none => simp only [hb] at p; exact (show False from p).elim
  | some c =>
    simp only [hb] at p
    have e1 := D.bool_eq hb
    subst e1
    exact ⟨c, rep_bl rp, p b (Step.refl b) r⟩
def mAndT (m n : EM Bool) : EM Bool := fun env => (m env).bind fun (c, e) => if c = true then n e else .ok (false, e)
def mOrT (m n : EM Bool) : EM Bool := fun env => (m env).bind fun (c, e) => if c = true then .ok (true, e) else n e
def mNotT (m : EM Bool) : EM Bool := fun env => (m env).bind fun (c, e) => .ok (!c, e)
section
variable {m n : EM Bool} {R : Bool → Hp → Prop}
theorem and_w (h : tT G W (mAndT m n) σ H R) : tAnd (tT G W m) (tT G W n) σ H R := by
  obtain ⟨a, env, rfl, rel, post⟩ := h
  refine tT_of rel post fun c e b s r p => ?_
  cases c with
  | true => simp only [if_true] at p ⊢; exact ⟨b, e, rfl, r, p⟩
  | false => simp only [if_false, Bool.false_eq_true] at p ⊢; exact p b (Step.refl b) r
theorem or_w (h : tT G W (mOrT m n) σ H R) : tOr (tT G W m) (tT G W n) σ H R := by
  obtain ⟨a, env, rfl, rel, post⟩ := h
  refine tT_of rel post fun c e b s r p => ?_
  cases c with
  | true => simp only [if_true] at p ⊢; exact p b (Step.refl b) r
  | false => simp only [if_false, Bool.false_eq_true] at p ⊢; exact ⟨b, e, rfl, r, p⟩
theorem not_w (h : tT G W (mNotT m) σ H R) : tNot (tT G W m) σ H R := by
  obtain ⟨a, env, rfl, rel, post⟩ := h
  exact tT_of rel post fun c e b s r p => p b (Step.refl b) r
end
/- and, or, not as values: flags -/
def mAndV (m n : EM D) : EM D := fun env => (m env).bind fun (c, e) => match c.bool with
  | some true => n e
  | some false => .ok (.bl false, e)
  | none => .bad
def mOrV (m n : EM D) : EM D := fun env => (m env).bind fun (c, e) => match c.bool with
  | some true => .ok (.bl true, e)
  | some false => n e
  | none => .bad
def mNotV (m : EM D) : EM D := fun env => (m env).bind fun (c, e) => match c.bool with
  | some b => .ok (.bl (!b), e)
  | none => .bad
theorem rep_ofbl {C : KM} {a : Wd} {r : Nat} {p : List Nat} {b : Bool} : Rep C a r p (.bl b) (.bl b) := by simp [Rep]
theorem andV_w {m n : EM D} (h : tE G W (mAndV m n) σ H Q) : tAndV (tE G W m) (tE G W n) σ H Q := by
  obtain ⟨a, env, rfl, rel, post⟩ := h
  refine tE_of rel post fun d e b v s r rp p => ?_
  cases hb : d.bool with
  | none => simp only [hb] at p; exact (show False from p).elim
  | some c =>
    simp only [hb] at p
    have e1 := D.bool_eq hb
    subst e1
    refine ⟨c, rep_bl rp, ?_⟩
    cases c with
    | true => simp only [if_true] at p ⊢; exact ⟨b, e, rfl, r, p⟩
    | false => simp only [if_false, Bool.false_eq_true] at p ⊢; exact p b (Step.refl b) r _ rep_ofbl
theorem orV_w {m n : EM D} (h : tE G W (mOrV m n) σ H Q) : tOrV (tE G W m) (tE G W n) σ H Q := by
  obtain ⟨a, env, rfl, rel, post⟩ := h
  refine tE_of rel post fun d e b v s r rp p => ?_
  cases hb : d.bool with
  | none => simp only [hb] at p; exact (show False from p).elim
  | some c =>
    simp only [hb] at p
    have e1 := D.bool_eq hb
    subst e1
    refine ⟨c, rep_bl rp, ?_⟩
    cases c with
    | true => simp only [if_true] at p ⊢; exact p b (Step.refl b) r _ rep_ofbl
    | false => simp only [if_false, Bool.false_eq_true] at p ⊢; exact ⟨b, e, rfl, r, p⟩
theorem notV_w {m : EM D} (h : tE G W (mNotV m) σ H Q) : tNotV (tE G W m) σ H Q := by
  obtain ⟨a, env, rfl, rel, post⟩ := h
  refine tE_of rel post fun d e b v s r rp p => ?_
  cases hb : d.bool with
  | none => simp only [hb] at p; exact (show False from p).elim
  | some c =>
    simp only [hb] at p
    have e1 := D.bool_eq hb
    subst e1
    exact ⟨c, rep_bl rp, p b (Step.refl b) r _ rep_ofbl⟩
def mIfE (t : EM Bool) (m n : EM D) : EM D := fun env => (t env).bind fun (c, e) => if c = true then m e else n e
theorem ifE_w {t : EM Bool} {m n : EM D} (h : tE G W (mIfE t m n) σ H Q) : tIf (tT G W t) (tE G W m) (tE G W n) σ H Q := by
  obtain ⟨a, env, rfl, rel, post⟩ := h
  refine tT_of rel post fun c e b s r p => ?_
  cases c with
  | true => simp only [if_true] at p ⊢; exact ⟨b, e, rfl, r, p⟩
  | false => simp only [if_false, Bool.false_eq_true] at p ⊢; exact ⟨b, e, rfl, r, p⟩
end

/-! ### truth -/
def truD : D → Option Bool
  | .non => some false
  | .bl b => some b
  | .int i => some (i != 0)
  | .str s => if s.length ≤ sizeLine then some ((s.length : Int) != 0) else none
  | .tup l => some (!l.isEmpty)
  | .lst _ l => some (!l.isEmpty)
  | .dic _ ks _ => some (!ks.isEmpty)
  | _ => none
def mTru (m : EM Arg) : EM Bool := fun env => (m env).bind fun (x, e) => match x.get e with
  | some d => mLiftT (truD d) e
  | none => .bad
theorem RepL.empty {C : KM} {a : Wd} {r : Nat} {p : List Nat} {n : Nat} {vs : List V} {l : List D} (h : RepL C a r p n vs l) : vs.isEmpty = l.isEmpty := by
  cases l with
  | nil => simp only [RepL] at h; rw [h]; rfl
  | cons d l => simp only [RepL] at h; obtain ⟨v, us, e, _⟩ := h; rw [e]; rfl
theorem RepL.len {C : KM} {a : Wd} {r : Nat} {p : List Nat} : ∀ {l : List D} {n : Nat} {vs : List V}, RepL C a r p n vs l → vs.length = l.length
  | [], n, vs, h => by simp only [RepL] at h; rw [h]; rfl
  | d :: l, n, vs, h => by
    simp only [RepL] at h
    obtain ⟨v, us, e, _, h2⟩ := h
    rw [e, List.length_cons, List.length_cons, RepL.len h2]
theorem RepL.get {C : KM} {a : Wd} {r : Nat} {p : List Nat} : ∀ {l : List D} {n : Nat} {vs : List V} {i : Nat} {d : D}, RepL C a r p n vs l → l[i]? = some d → ∃ v, vs[i]? = some v ∧ Rep C a r ((n + i) :: p) v d
  | [], n, vs, i, d, h, e => by simp at e
  | d' :: l, n, vs, 0, d, h, e => by
    simp only [RepL] at h
    obtain ⟨v, us, e1, h1, h2⟩ := h
    simp at e; subst e
    exact ⟨v, by rw [e1]; rfl, h1⟩
  | d' :: l, n, vs, i + 1, d, h, e => by
    simp only [RepL] at h
    obtain ⟨v, us, e1, h1, h2⟩ := h
    simp at e
    obtain ⟨u, g1, g2⟩ := RepL.get h2 e
    refine ⟨u, by rw [e1]; simpa using g1, ?_⟩
    rw [show n + (i + 1) = n + 1 + i by omega]
    exact g2
/- the object of an owned or a frozen list, read -/
theorem rep_lst {C : KM} {a : Wd} {r : Nat} {p : List Nat} {v : V} {o : Bool} {l : List D} (k : Ok a) (h : Rep C a r p v (.lst o l)) : ∃ x vs, v = .ref x ∧ a.H x = some (.lst vs) ∧ RepL C a r p 0 vs l := by
  simp only [Rep] at h
  obtain ⟨x, vs, e, c, h⟩ := h
  refine ⟨x, vs, e, ?_, h⟩
  cases o with
  | true => rw [if_pos rfl] at c; exact c.2
  | false => rw [if_neg Bool.false_ne_true] at c; exact k.sub _ _ c.1
theorem rep_scr {C : KM} {a : Wd} {r : Nat} {p : List Nat} {v : V} {l : List Int} (k : Ok a) (h : Rep C a r p v (.scr l)) : ∃ x, v = .ref x ∧ SqL C.K a.H x (l.map V.int) := by
  simp only [Rep] at h
  obtain ⟨x, e, h⟩ := h
  exact ⟨x, e, sql_mono k.sub h⟩
theorem rep_tup {C : KM} {a : Wd} {r : Nat} {p : List Nat} {v : V} {l : List D} (k : Ok a) (h : Rep C a r p v (.tup l)) : ∃ x vs, v = .ref x ∧ SqT C.K a.H x vs ∧ RepL C a r p 0 vs l := by
  simp only [Rep] at h
  obtain ⟨x, vs, e, c, h⟩ := h
  exact ⟨x, vs, e, sqt_mono k.sub c.sq, h⟩
theorem rep_dic {C : KM} {a : Wd} {r : Nat} {p : List Nat} {v : V} {o : Bool} {ks ws : List D} (k : Ok a) (h : Rep C a r p v (.dic o ks ws)) :
    ∃ x u kv vs, v = .ref x ∧ a.H x = some u ∧ DCell u kv vs ∧ fzL ks = true ∧ RepL C a r p 0 kv ks ∧ RepL C a r p 0 vs ws := by
  simp only [Rep] at h
  obtain ⟨x, u, kv, vs, e, c, dc, f, k1, k2⟩ := h
  refine ⟨x, u, kv, vs, e, ?_, dc, f, k1, k2⟩
  cases o with
  | true => rw [if_pos rfl] at c; exact c.2
  | false => rw [if_neg Bool.false_ne_true] at c; exact k.sub _ _ c.1
theorem tru_rep {C : KM} {a : Wd} {r : Nat} {p : List Nat} {v : V} {d : D} {b : Bool} (k : Ok a) (h : Rep C a r p v d) (e : truD d = some b) : TruV C.K v a.H b := by
  cases d with
  | non => cases rep_non h; cases e; rfl
  | bl x => cases rep_bl h; cases e; rfl
  | int i => cases rep_int h; simp [truD] at e; subst e; rfl
  | str s =>
    cases rep_str h
    simp only [truD] at e
    split at e
    · rename_i z; cases e; exact ⟨z, rfl⟩
    · cases e
  | tup l =>
    obtain ⟨x, vs, rfl, q, hl⟩ := rep_tup k h
    simp only [truD, Option.some.injEq] at e; subst e
    exact .inr (.inl ⟨vs, q, by rw [hl.empty]⟩)
  | lst o l =>
    obtain ⟨x, vs, rfl, q, hl⟩ := rep_lst k h
    simp only [truD, Option.some.injEq] at e; subst e
    exact .inl ⟨vs, SqL.of q, by rw [hl.empty]⟩
  | dic o ks ws =>
    obtain ⟨x, u, kv, vs, rfl, q, dc, f, hk, hw⟩ := rep_dic k h
    simp only [truD, Option.some.injEq] at e; subst e
    cases dc with
    | dk kvs =>
      refine .inr (.inr ⟨kvs, q, ?_⟩)
      rw [← hk.empty]; cases kvs <;> rfl
  | _ => simp [truD] at e
theorem tru_w {G : Gm} {W : WX} {σ : L2.St} {H : Hp} {m : EM Arg} {R : Bool → Hp → Prop} (h : tT G W (mTru m) σ H R) : (tArg G W m) σ H fun x H' => ∃ k, TruV G.C.K x H' k ∧ R k H' := by
  obtain ⟨a, env, rfl, rel, post⟩ := h
  refine tArg_of rel post fun x e b v s r ar p => ?_
  cases hx : x.get e with
  | none => simp only [hx] at p; exact (show False from p).elim
  | some d =>
    simp only [hx] at p
    cases ht : truD d with
    | none => simp only [ht] at p; exact (show False from p).elim
    | some c =>
      simp only [ht] at p
      obtain ⟨r', rp⟩ := ar.rep r hx
      exact ⟨c, tru_rep r.ok rp ht, p b (Step.refl b) r⟩
end Mi
namespace Mi
open PySem PySem.Spec PyProof.Rows L2

/-! ### new things -/
section
variable {C : KM} {a : Wd} {Q : VK}
theorem new_lst {r : Nat} {p : List Nat} {n : Nat} {vs : List V} {l : List D} (k : Ok a) (z : fzL l = true) (h : RepL C a r p n vs l) (q : ∀ z b, Grow a b → Ok b → Rep C b 0 [] z (.lst true l) → Q z b.H) :
    ∀ x, a.H x = none → Q (.ref x) (upd a.H x (.lst vs)) := fun x hx => by
  obtain ⟨g, o⟩ := grow_o (o := .lst vs) (0, []) k hx
  refine q (.ref x) _ g o ⟨x, vs, rfl, ?_, RepL.fz (fun y u e => g.f k e) l p [] n vs z h⟩
  rw [if_pos rfl]
  exact ⟨if_pos rfl, upd_same⟩
theorem new_tup {r : Nat} {p : List Nat} {n : Nat} {vs : List V} {l : List D} (k : Ok a) (z : fzL l = true) (h : RepL C a r p n vs l) (q : ∀ z b, Grow a b → Ok b → Rep C b 0 [] z (.tup l) → Q z b.H) :
    ∀ (x : Addr) (ob : Obj), a.H x = none → ob.dict = none → ob.cls = .type "tuple" → Q (.ref x) (upd a.H x (.frz ob (.tup vs))) := fun x ob hx h1 h2 => by
  obtain ⟨g, o⟩ := grow_f (o := .frz ob (.tup vs)) k hx
  exact q (.ref x) _ g o ⟨x, vs, rfl, .inl ⟨ob, upd_same, h1, h2⟩, RepL.fz (fun y u e => g.f k e) l p [] n vs z h⟩
theorem new_dic {r : Nat} {p : List Nat} {kvs : List (Key × V)} {ks ws : List D} (k : Ok a) (zk : fzL ks = true) (zw : fzL ws = true) (hk : RepL C a r p 0 (kvs.map fun p => kV p.1) ks) (hw : RepL C a r p 0 (kvs.map (·.2)) ws)
    (q : ∀ z b, Grow a b → Ok b → Rep C b 0 [] z (.dic true ks ws) → Q z b.H) : ∀ x, a.H x = none → Q (.ref x) (upd a.H x (.dK kvs)) := fun x hx => by
  obtain ⟨g, o⟩ := grow_o (o := .dK kvs) (0, []) k hx
  refine q (.ref x) _ g o ⟨x, .dK kvs, _, _, rfl, ?_, .dk kvs, zk, RepL.fz (fun y u e => g.f k e) ks p [] 0 _ zk hk, RepL.fz (fun y u e => g.f k e) ws p [] 0 _ zw hw⟩
  rw [if_pos rfl]
  exact ⟨if_pos rfl, upd_same⟩
end
theorem RepL.app {C : KM} {a : Wd} {r : Nat} {p : List Nat} : ∀ {l m : List D} {n : Nat} {vs us : List V}, RepL C a r p n vs l → RepL C a r p (n + l.length) us m → RepL C a r p n (vs ++ us) (l ++ m)
  | [], m, n, vs, us, h, g => by simp only [RepL] at h; subst h; exact g
  | d :: l, m, n, vs, us, h, g => by
    simp only [RepL] at h
    obtain ⟨v, vr, rfl, h1, h2⟩ := h
    exact ⟨v, vr ++ us, rfl, h1, RepL.app h2 (by rw [show n + 1 + l.length = n + (d :: l).length by simp only [List.length_cons]; omega]; exact g)⟩
theorem fzL_append {l m : List D} : fzL (l ++ m) = (fzL l && fzL m) := by
  induction l with
  | nil => rfl
  | cons d l ih => simp only [List.cons_append, fzL, ih, Bool.and_assoc]
theorem fzL_mem {l : List D} (h : fzL l = true) : ∀ d ∈ l, fz d = true := by
  induction l with
  | nil => intro d hd; cases hd
  | cons x l ih =>
    simp only [fzL, Bool.and_eq_true] at h
    intro d hd
    rcases List.mem_cons.mp hd with rfl | hd
    · exact h.1
    · exact ih h.2 d hd
theorem fzL_all {l : List D} (h : ∀ d ∈ l, fz d = true) : fzL l = true := by
  induction l with
  | nil => rfl
  | cons x l ih =>
    simp only [fzL, Bool.and_eq_true]
    exact ⟨h x List.mem_cons_self, ih fun d hd => h d (List.mem_cons_of_mem _ hd)⟩
/- frozen lists, by any tags -/
theorem RepL.appz {C : KM} {a : Wd} {r s : Nat} {p q : List Nat} {l m : List D} {n k : Nat} {vs us : List V} (zl : fzL l = true) (zm : fzL m = true) (h : RepL C a r p n vs l) (g : RepL C a s q k us m) : RepL C a 0 [] 0 (vs ++ us) (l ++ m) :=
  RepL.app (RepL.fz (s := 0) (fun _ _ e => e) l p [] n vs zl h) (RepL.fz (s := 0) (fun _ _ e => e) m q [] k us zm g)

/-! ### tuples laid -/
abbrev TupNew (Q : VK) (H : Hp) (xs : List V) : Prop := ∀ (p : Addr) (ob : Obj), H p = none → ob.dict = none → ob.cls = .type "tuple" → Q (.ref p) (upd H p (.frz ob (.tup xs)))
section
variable {X : Cx} {pins : List (Addr × Obj)} {σ : L2.St} {H : Hp} {s : Shared} {Q : VK} {xs : List V} {its : List Value}
theorem lay_tup (I : Inv X pins σ H s) (r : Vals xs its) (hz : xs.length ≤ sizeLine) (q : TupNew Q H xs) :
    EP X pins σ Q (.ref s.heap.objs.size) { s with heap := s.heap.push { cls := .type "tuple", data := .seq its.toArray } } :=
  ⟨.ref s.heap.objs.size, _, I.laid (t' := s.toks) (o := .frz { cls := .type "tuple", data := .seq its.toArray } (.tup xs)) (fun b ob q => Heap.get?_push_of_some _ q) (Nat.le_refl _)
    ⟨Heap.get?_push_size _ rfl, hz, its, r, IsTup.new _ _⟩, rfl, q _ _ (I.hok.fresh (Nat.le_refl _)) rfl rfl⟩
end
def tTupX (t : TA) : TE := fun σ H Q => t σ H fun xs H1 => xs.length ≤ sizeLine ∧ TupNew Q H1 xs
theorem pe_tupX {X : Cx} {es : List Expr} {t : TA} {k : Nat} {pos : Pos} (h : PA X es t) : PE X (.Tuple es k pos) (tTupX t) := by
  refine ⟨fun pins s σ H Q I hq => wpAny_Tuple_spliced (thn (h.run pos pins s σ H _ I hq) fun us s1 ⟨xs, H1, I1, r, z, q⟩ => ⟨by rw [← r.length]; exact z, ?_⟩)⟩
  exact lay_tup I1 r z q
def rCatX (K : PySem.W.Frag) : R2 := fun x y H Q => ∃ a b xs ys, x = .ref a ∧ y = .ref b ∧ SqT K H a xs ∧ SqT K H b ys ∧ xs.length + ys.length ≤ sizeLine ∧
  (xs = [] → Q (.ref b) H) ∧ (xs ≠ [] → ys = [] → Q (.ref a) H) ∧ (xs ≠ [] → ys ≠ [] → TupNew Q H (xs ++ ys))
theorem op_catX {X : Cx} : OpR X (binaryOp .Add) (rCatX X.K) := by
  intro pins s σ H x y v u Q I rx ry h
  obtain ⟨a, b, xs, ys, rfl, rfl, ha, hb, hz, q0, q1, q2⟩ := h
  by_cases hx : xs = []
  · exact op_catA pins s σ H _ _ v u Q I rx ry ⟨a, b, xs, ys, rfl, rfl, ha, hb, hz, q0, fun z => absurd hx z, fun z => absurd hx z⟩
  by_cases hy : ys = []
  · exact op_catA pins s σ H _ _ v u Q I rx ry ⟨a, b, xs, ys, rfl, rfl, ha, hb, hz, q0, q1, fun _ z => absurd hy z⟩
  cases rx; cases ry
  obtain ⟨its, r1, p1, _⟩ := I.tuple ha
  obtain ⟨its2, r2, p2, _⟩ := I.tuple hb
  refine HT.cat_tup p1 p2 (fun z => hx (r1.nil_iff.mp z)) (fun z => absurd (r2.nil_iff.mp z) hy) (fun z => ?_) (by rw [← r1.length, ← r2.length]; exact hz)
  exact lay_tup I (r1.append r2) (by rw [List.length_append]; exact hz) (q2 hx hy)

/-! ### arithmetic -/
def addD : D → D → Option D
  | .int i, .int j => some (.int (i + j))
  | .str s, .str t => if s.length + t.length ≤ sizeLine then some (.str (s ++ t)) else none
  | .lst _ l, .lst _ m => if fzL l && fzL m && decide (l.length + m.length ≤ sizeLine) then some (.lst true (l ++ m)) else none
  | .tup l, .tup m => if fzL l && fzL m && decide (l.length + m.length ≤ sizeLine) then some (.tup (l ++ m)) else none
  | _, _ => none
def subD : D → D → Option D
  | .int i, .int j => some (.int (i - j))
  | _, _ => none
def mulD : D → D → Option D
  | .int i, .int j => if i.natAbs.log2 + j.natAbs.log2 < 1000000 then some (.int (i * j)) else if j.natAbs < 18446744073709551616 then some (.int (i * j)) else if i.natAbs < 18446744073709551616 then some (.int (i * j)) else none
  | _, _ => none
def fdivD : D → D → Option D
  | .int i, .int j => if 0 < j ∧ j.natAbs.log2 < 9000 then some (.int (i / j)) else none
  | _, _ => none
def modD : D → D → Option D
  | .int i, .int j => if 0 < j then some (.int (i % j)) else if j ≠ 0 then some (.int (i.fmod j)) else none
  | _, _ => none
def powD : D → D → Option D
  | .int i, .int j => if 0 ≤ j ∧ j ≤ 1000000 ∧ i.natAbs < 2 ^ 64 then some (.int (i ^ j.toNat)) else none
  | _, _ => none
def negD : D → Option D
  | .int i => some (.int (-i))
  | _ => none
theorem nab {x : Int} (h : x.natAbs < 18446744073709551616) : -(2 ^ 64) < x ∧ x < 2 ^ 64 := by
  have e : (2 : Int) ^ 64 = 18446744073709551616 := by decide
  rw [e]; omega
section
variable {X : Cx} {C : KM} (hC : C.K = X.K)
include hC
theorem op_addD : OpR X (binaryOp .Add) (rD C addD) := by
  intro pins s σ H x y v u Q I rx ry h
  obtain ⟨a, d1, d2, r1, r2, d, rfl, k, p1, p2, hd, q⟩ := h
  cases d1 <;> cases d2 <;> simp only [addD] at hd <;> try (cases hd; done)
  case int.int i j =>
    cases hd; cases rep_int p1; cases rep_int p2
    exact op_add pins s σ a.H _ _ v u Q I rx ry ⟨i, j, rfl, rfl, q _ a (Grow.refl a) k (by simp [Rep])⟩
  case str.str i j =>
    split at hd
    · rename_i z; cases hd; cases rep_str p1; cases rep_str p2
      exact op_add_str pins s σ a.H _ _ v u Q I rx ry ⟨i, j, rfl, rfl, z, q _ a (Grow.refl a) k (by simp [Rep])⟩
    · cases hd
  case tup.tup l m =>
    split at hd
    · rename_i z; cases hd
      simp only [Bool.and_eq_true, decide_eq_true_eq] at z
      obtain ⟨x1, vs, rfl, q1, h1⟩ := rep_tup k p1
      obtain ⟨x2, us, rfl, q2, h2⟩ := rep_tup k p2
      rw [hC] at q1 q2
      have n1 := h1.len
      have n2 := h2.len
      refine op_catX pins s σ a.H _ _ v u Q I rx ry ⟨x1, x2, vs, us, rfl, rfl, q1, q2, by omega, fun e => ?_, fun e1 e2 => ?_, fun _ _ => new_tup k (by rw [fzL_append, z.1.1, z.1.2]; rfl) (RepL.appz z.1.1 z.1.2 h1 h2) q⟩
      · have el : l = [] := by cases l with | nil => rfl | cons _ _ => rw [e] at n1; simp at n1
        subst el
        exact q _ a (Grow.refl a) k (p2.step k (Step.refl a) (by simpa [fz] using z.1.2))
      · have el : m = [] := by cases m with | nil => rfl | cons _ _ => rw [e2] at n2; simp at n2
        subst el
        rw [List.append_nil] at q
        exact q _ a (Grow.refl a) k (p1.step k (Step.refl a) (by simpa [fz] using z.1.1))
    · cases hd
  case lst.lst o l o' m =>
    split at hd
    · rename_i z; cases hd
      simp only [Bool.and_eq_true, decide_eq_true_eq] at z
      obtain ⟨x1, vs, rfl, q1, h1⟩ := rep_lst k p1
      obtain ⟨x2, us, rfl, q2, h2⟩ := rep_lst k p2
      have n1 := h1.len
      have n2 := h2.len
      exact op_cat pins s σ a.H _ _ v u Q I rx ry ⟨x1, x2, vs, us, rfl, rfl, q1, q2, by omega, new_lst k (by rw [fzL_append, z.1.1, z.1.2]; rfl) (RepL.appz z.1.1 z.1.2 h1 h2) q⟩
    · cases hd
omit hC in
theorem op_subD : OpR X (binaryOp .Sub) (rD C subD) := by
  intro pins s σ H x y v u Q I rx ry h
  obtain ⟨a, d1, d2, r1, r2, d, rfl, k, p1, p2, hd, q⟩ := h
  cases d1 <;> cases d2 <;> simp only [subD] at hd <;> try (cases hd; done)
  case int.int i j =>
    cases hd; cases rep_int p1; cases rep_int p2
    exact op_sub pins s σ a.H _ _ v u Q I rx ry ⟨i, j, rfl, rfl, q _ a (Grow.refl a) k (by simp [Rep])⟩
omit hC in
theorem op_mulD : OpR X (binaryOp .Mult) (rD C mulD) := by
  intro pins s σ H x y v u Q I rx ry h
  obtain ⟨a, d1, d2, r1, r2, d, rfl, k, p1, p2, hd, q⟩ := h
  cases d1 <;> cases d2 <;> simp only [mulD] at hd <;> try (cases hd; done)
  case int.int i j =>
    cases rep_int p1; cases rep_int p2
    split at hd
    · rename_i z
      cases hd
      exact op_mulW pins s σ a.H _ _ v u Q I rx ry ⟨i, j, rfl, rfl, z, q _ a (Grow.refl a) k (by simp [Rep])⟩
    · split at hd
      · rename_i z; cases hd
        exact op_mul pins s σ a.H _ _ v u Q I rx ry ⟨i, j, rfl, rfl, .inr (nab z), q _ a (Grow.refl a) k (by simp [Rep])⟩
      · split at hd
        · rename_i z; cases hd
          exact op_mul pins s σ a.H _ _ v u Q I rx ry ⟨i, j, rfl, rfl, .inl (nab z), q _ a (Grow.refl a) k (by simp [Rep])⟩
        · cases hd
omit hC in
theorem op_fdivD : OpR X (binaryOp .FloorDiv) (rD C fdivD) := by
  intro pins s σ H x y v u Q I rx ry h
  obtain ⟨a, d1, d2, r1, r2, d, rfl, k, p1, p2, hd, q⟩ := h
  cases d1 <;> cases d2 <;> simp only [fdivD] at hd <;> try (cases hd; done)
  case int.int i j =>
    split at hd
    · rename_i z; cases hd; cases rep_int p1; cases rep_int p2
      exact op_fdivW pins s σ a.H _ _ v u Q I rx ry ⟨i, j, rfl, rfl, z, q _ a (Grow.refl a) k (by simp [Rep])⟩
    · cases hd
omit hC in
theorem op_modD : OpR X (binaryOp .Mod) (rD C modD) := by
  intro pins s σ H x y v u Q I rx ry h
  obtain ⟨a, d1, d2, r1, r2, d, rfl, k, p1, p2, hd, q⟩ := h
  cases d1 <;> cases d2 <;> simp only [modD] at hd <;> try (cases hd; done)
  case int.int i j =>
    cases rep_int p1; cases rep_int p2
    split at hd
    · rename_i z; cases hd
      exact op_mod pins s σ a.H _ _ v u Q I rx ry ⟨i, j, rfl, rfl, z, q _ a (Grow.refl a) k (by simp [Rep])⟩
    · split at hd
      · rename_i z; cases hd
        exact op_modN pins s σ a.H _ _ v u Q I rx ry ⟨i, j, rfl, rfl, z, q _ a (Grow.refl a) k (by simp [Rep])⟩
      · cases hd
omit hC in
theorem op_powD : OpR X (binaryOp .Pow) (rD C powD) := by
  intro pins s σ H x y v u Q I rx ry h
  obtain ⟨a, d1, d2, r1, r2, d, rfl, k, p1, p2, hd, q⟩ := h
  cases d1 <;> cases d2 <;> simp only [powD] at hd <;> try (cases hd; done)
  case int.int i j =>
    split at hd
    · rename_i z; cases hd; cases rep_int p1; cases rep_int p2
      exact op_pow pins s σ a.H _ _ v u Q I rx ry ⟨i, j, rfl, rfl, z, q _ a (Grow.refl a) k (by simp [Rep])⟩
    · cases hd
omit hC in
theorem un_negD : UnR X (unaryOp .USub) (uD C negD) := by
  intro pins s σ H x v Q I rx h
  obtain ⟨a, d1, r1, d, rfl, k, p1, hd, q⟩ := h
  cases d1 <;> simp only [negD] at hd <;> try (cases hd; done)
  case int i =>
    cases hd; cases rep_int p1
    exact un_neg pins s σ a.H _ v Q I rx ⟨i, rfl, q _ a (Grow.refl a) k (by simp [Rep])⟩
end
def binD : Operator → Option (D → D → Option D)
  | .Add => some addD
  | .Sub => some subD
  | .Mult => some mulD
  | .FloorDiv => some fdivD
  | .Mod => some modD
  | .Pow => some powD
  | _ => none
theorem op_binD {X : Cx} {C : KM} (hC : C.K = X.K) {op : Operator} {g : D → D → Option D} (h : binD op = some g) : OpR X (binaryOp op) (rD C g) := by
  cases op <;> simp only [binD] at h <;> cases h
  · exact op_addD hC
  · exact op_subD
  · exact op_mulD
  · exact op_modD
  · exact op_powD
  · exact op_fdivD

/-! ### == -/
mutual
def okP : Nat → D → Bool
  | _, .non | _, .bl _ | _, .int _ => true
  | _, .str s => PyData.strOk s
  | 0, .tup _ | 0, .lst _ _ => false
  | n + 1, .tup l => okPL n l
  | n + 1, .lst _ l => okPL n l
  | _, _ => false
def okPL : Nat → List D → Bool
  | _, [] => true
  | n, d :: l => okP n d && okPL n l
end
mutual
def toP : D → PyData
  | .bl b => .bool b
  | .int i => .int i
  | .str s => .str s
  | .tup l => .tuple (toPL l)
  | .lst _ l => .list (toPL l)
  | _ => .none
def toPL : List D → List PyData
  | [] => []
  | d :: l => toP d :: toPL l
end
mutual
theorem okP_shape : ∀ (d : D) (n : Nat), okP n d = true → (toP d).canLay0 = true ∧ (toP d).depth ≤ n
  | .non, n, h => by simp [toP, PyData.canLay0, PyData.depth]
  | .bl _, n, h => by simp [toP, PyData.canLay0, PyData.depth]
  | .int _, n, h => by simp [toP, PyData.canLay0, PyData.depth]
  | .str s, n, h => by
    have h : PyData.strOk s = true := by cases n <;> simpa [okP] using h
    simp [toP, PyData.canLay0, PyData.depth, h]
  | .tup l, 0, h => by simp [okP] at h
  | .lst _ l, 0, h => by simp [okP] at h
  | .tup l, n + 1, h => by
    obtain ⟨h1, h2⟩ := okPL_shape l n (by simpa [okP] using h)
    exact ⟨by simpa [toP, PyData.canLay0] using h1, by simp only [toP, PyData.depth]; omega⟩
  | .lst _ l, n + 1, h => by
    obtain ⟨h1, h2⟩ := okPL_shape l n (by simpa [okP] using h)
    exact ⟨by simpa [toP, PyData.canLay0] using h1, by simp only [toP, PyData.depth]; omega⟩
  | .ty _, n, h => by simp [okP] at h
  | .fn _, n, h => by simp [okP] at h
  | .scr _, n, h => by simp [okP] at h
  | .dic _ _ _, n, h => by simp [okP] at h
  | .ins _ _ _ _, n, h => by simp [okP] at h
theorem okPL_shape : ∀ (l : List D) (n : Nat), okPL n l = true → PyData.canLayAll0 (toPL l) = true ∧ PyData.depthAll (toPL l) ≤ n
  | [], n, h => by simp [toPL, PyData.canLayAll0, PyData.depthAll]
  | d :: l, n, h => by
    simp only [okPL, Bool.and_eq_true] at h
    obtain ⟨h1, h2⟩ := okP_shape d n h.1
    obtain ⟨h3, h4⟩ := okPL_shape l n h.2
    exact ⟨by simp [toPL, PyData.canLayAll0, h1, h3], by simp only [toPL, PyData.depthAll]; omega⟩
end
mutual
theorem okP_dp {C : KM} {a : Wd} (k : Ok a) : ∀ (d : D) (n : Nat) (r : Nat) (p : List Nat) (v : V), okP n d = true → Rep C a r p v d → Dp C.K a.H v (toP d)
  | .non, n, r, p, v, h, q => by cases rep_non q; simp only [toP]; exact .non
  | .bl b, n, r, p, v, h, q => by cases rep_bl q; simp only [toP]; exact .bl b
  | .int i, n, r, p, v, h, q => by cases rep_int q; simp only [toP]; exact .int i
  | .str s, n, r, p, v, h, q => by cases rep_str q; simp only [toP]; exact .str s
  | .tup l, 0, r, p, v, h, q => by simp [okP] at h
  | .lst _ l, 0, r, p, v, h, q => by simp [okP] at h
  | .tup l, n + 1, r, p, v, h, q => by
    obtain ⟨x, vs, rfl, h1, h2⟩ := rep_tup k q
    simp only [toP]
    exact .tup h1 (okPL_dp k l n r p 0 vs (by simpa [okP] using h) h2)
  | .lst _ l, n + 1, r, p, v, h, q => by
    obtain ⟨x, vs, rfl, h1, h2⟩ := rep_lst k q
    simp only [toP]
    exact .lst (SqL.of h1) (okPL_dp k l n r p 0 vs (by simpa [okP] using h) h2)
  | .ty _, n, r, p, v, h, q => by simp [okP] at h
  | .fn _, n, r, p, v, h, q => by simp [okP] at h
  | .scr _, n, r, p, v, h, q => by simp [okP] at h
  | .dic _ _ _, n, r, p, v, h, q => by simp [okP] at h
  | .ins _ _ _ _, n, r, p, v, h, q => by simp [okP] at h
theorem okPL_dp {C : KM} {a : Wd} (k : Ok a) : ∀ (l : List D) (n : Nat) (r : Nat) (p : List Nat) (m : Nat) (vs : List V), okPL n l = true → RepL C a r p m vs l → DpAll C.K a.H vs (toPL l)
  | [], n, r, p, m, vs, h, q => by simp only [RepL] at q; subst q; simp only [toPL]; exact .nil
  | d :: l, n, r, p, m, vs, h, q => by
    simp only [okPL, Bool.and_eq_true] at h
    simp only [RepL] at q
    obtain ⟨v, us, rfl, h1, h2⟩ := q
    simp only [toPL]
    exact .cons (okP_dp k d n r (m :: p) v h.1 h1) (okPL_dp k l n r p (m + 1) us h.2 h2)
end
def eqB (d e : D) : Bool := PyData.eqv (toP d) (toP e)
/- scalars -/
def scalD : D → D → Option Bool
  | .non, .non => some true
  | .int i, .int j => some (i == j)
  | .str s, .str t => some (s == t)
  | .bl a, .bl b => some (a == b)
  | .non, .int _ | .int _, .non | .non, .bl _ | .bl _, .non | .non, .str _ | .str _, .non => some false
  | .int _, .str _ | .str _, .int _ | .bl _, .str _ | .str _, .bl _ => some false
  | _, _ => none
def eqQ (d e : D) : Option Bool := match scalD d e with
  | some b => some b
  | none => if okP 64 d && okP 64 e then some (eqB d e) else none
def eqD (d e : D) : Option D := (eqQ d e).map .bl
def neD (d e : D) : Option D := (eqQ d e).map fun b => .bl (!b)
theorem scalD_eq {C : KM} {a : Wd} {r s : Nat} {x y : V} {d e : D} {b : Bool} (h : scalD d e = some b) (p : Rep C a r [] x d) (q : Rep C a s [] y e) : scal x y = true ∧ decide (x = y) = b := by
  cases d <;> cases e <;> simp only [scalD] at h <;> (try (cases h; done)) <;> (simp only [Option.some.injEq] at h; subst h) <;> (simp only [Rep] at p q; subst p q) <;> simp [scal] <;> (rw [Bool.eq_iff_iff]; simp)
section
variable {X : Cx} {C : KM} (hC : C.K = X.K)
include hC
theorem op_eqDD (hu : X.A.units + 64 < cLine) : OpR X (compareOp .Eq) (rD C eqD) := by
  intro pins s σ H x y v u Q I rx ry h
  obtain ⟨a, d1, d2, r1, r2, d, rfl, k, p1, p2, hd, q⟩ := h
  unfold eqD eqQ at hd
  cases hs : scalD d1 d2 with
  | some b =>
    rw [hs] at hd
    cases hd
    obtain ⟨h1, h2⟩ := scalD_eq hs p1 p2
    exact op_eq pins s σ a.H _ _ v u Q I rx ry ⟨h1, by rw [h2]; exact q _ a (Grow.refl a) k rep_ofbl⟩
  | none =>
    rw [hs] at hd
    dsimp only at hd
    split at hd
    · rename_i z
      cases hd
      simp only [Bool.and_eq_true] at z
      obtain ⟨s1, s2⟩ := okP_shape d1 64 z.1
      obtain ⟨s3, s4⟩ := okP_shape d2 64 z.2
      refine op_eqD hu pins s σ a.H _ _ v u Q I rx ry ⟨toP d1, toP d2, ?_, ?_, by simp [SeqAt.shaped, s1, s2], by simp [SeqAt.shaped, s3, s4], q _ a (Grow.refl a) k rep_ofbl⟩
      · rw [← hC]; exact okP_dp k d1 64 _ _ _ z.1 p1
      · rw [← hC]; exact okP_dp k d2 64 _ _ _ z.2 p2
    · cases hd
theorem op_neDD (hu : X.A.units + 64 < cLine) : OpR X (compareOp .NotEq) (rD C neD) := by
  intro pins s σ H x y v u Q I rx ry h
  obtain ⟨a, d1, d2, r1, r2, d, rfl, k, p1, p2, hd, q⟩ := h
  unfold neD eqQ at hd
  cases hs : scalD d1 d2 with
  | some b =>
    rw [hs] at hd
    cases hd
    obtain ⟨h1, h2⟩ := scalD_eq hs p1 p2
    exact op_ne pins s σ a.H _ _ v u Q I rx ry ⟨h1, by rw [h2]; exact q _ a (Grow.refl a) k rep_ofbl⟩
  | none =>
    rw [hs] at hd
    dsimp only at hd
    split at hd
    · rename_i z
      cases hd
      simp only [Bool.and_eq_true] at z
      obtain ⟨s1, s2⟩ := okP_shape d1 64 z.1
      obtain ⟨s3, s4⟩ := okP_shape d2 64 z.2
      refine op_neD hu pins s σ a.H _ _ v u Q I rx ry ⟨toP d1, toP d2, ?_, ?_, by simp [SeqAt.shaped, s1, s2], by simp [SeqAt.shaped, s3, s4], q _ a (Grow.refl a) k rep_ofbl⟩
      · rw [← hC]; exact okP_dp k d1 64 _ _ _ z.1 p1
      · rw [← hC]; exact okP_dp k d2 64 _ _ _ z.2 p2
    · cases hd
end

/-! ### order, in, is -/
def ltD : D → D → Option D
  | .int i, .int j => some (.bl (decide (i < j)))
  | .str s, .str t => some (.bl (decide (s.cps.toList < t.cps.toList)))
  | _, _ => none
def leD : D → D → Option D
  | .int i, .int j => some (.bl (decide (i ≤ j)))
  | .str s, .str t => some (.bl (!decide (t.cps.toList < s.cps.toList)))
  | _, _ => none
def gtD : D → D → Option D
  | .int i, .int j => some (.bl (decide (j < i)))
  | .str s, .str t => some (.bl (decide (t.cps.toList < s.cps.toList)))
  | _, _ => none
def geD : D → D → Option D
  | .int i, .int j => some (.bl (decide (j ≤ i)))
  | .str s, .str t => some (.bl (!decide (s.cps.toList < t.cps.toList)))
  | _, _ => none
/- atoms as values -/
def flatD : D → Bool
  | .non | .bl _ | .int _ | .str _ => true
  | _ => false
def eqF : D → D → Bool
  | .non, .non => true
  | .bl a, .bl b => a == b
  | .bl a, .int b => (if a then 1 else 0) == b
  | .int a, .bl b => a == (if b then 1 else 0)
  | .int a, .int b => a == b
  | .str a, .str b => a == b
  | _, _ => false
def keyD : D → Option Key
  | .int i => some (.inl i)
  | .str s => some (.inr s)
  | _ => none
def unkD : Key → D
  | .inl i => .int i
  | .inr s => .str s
/- the value at a key -/
def getK : List D → List D → Key → Option D
  | k :: ks, w :: ws, x => if keyD k = some x then some w else getK ks ws x
  | _, _, _ => none
def inQ : D → D → Option Bool
  | .str s, .str t => match s.cps.toList with
    | [c] => some (decide (c ∈ t.cps.toList))
    | _ => some (!(Builtin.Str.occurrences t s 0 t.length 1).isEmpty)
  | x, .dic _ ks ws => match keyD x with
    | some k => some (getK ks ws k).isSome
    | none => none
  | x, .lst _ l => if flatD x && l.all flatD then some (l.any fun y => eqF y x) else none
  | x, .tup l => if flatD x && l.all flatD then some (l.any fun y => eqF y x) else none
  | _, _ => none
def inD (d e : D) : Option D := (inQ d e).map .bl
def ninD (d e : D) : Option D := (inQ d e).map fun b => .bl (!b)
def isQ : D → D → Option Bool
  | .non, .non => some true
  | .int _, .non | .str _, .non | .bl _, .non | .tup _, .non | .lst _ _, .non | .dic _ _ _, .non | .ins _ _ _ _, .non => some false
  | .bl a, .bl b => some (a == b)
  | .non, .bl _ | .int _, .bl _ | .str _, .bl _ | .tup _, .bl _ | .lst _ _, .bl _ | .dic _ _ _, .bl _ | .ins _ _ _ _, .bl _ => some false
  | _, _ => none
def isD (d e : D) : Option D := (isQ d e).map .bl
def nisD (d e : D) : Option D := (isQ d e).map fun b => .bl (!b)
end Mi
namespace Mi
open PySem PySem.Spec PyProof.Rows L2

/-! ### keys -/
theorem rep_key {C : KM} {a : Wd} {r : Nat} {p : List Nat} {d : D} {k : Key} (h : Rep C a r p (kV k) d) : d = unkD k := by
  cases k with
  | inl i => cases d <;> simp only [Rep, kV] at h <;> first | (cases h; done) | (cases h; rfl) | (obtain ⟨_, _, _, _, h, _⟩ := h; cases h; done) | (obtain ⟨_, h⟩ := h; first | (cases h; done) | (obtain ⟨h, _⟩ := h; cases h; done) | (obtain ⟨_, h⟩ := h; first | (cases h; done) | (obtain ⟨h, _⟩ := h; cases h; done) | (obtain ⟨_, _, h, _⟩ := h; cases h; done)))
  | inr i => cases d <;> simp only [Rep, kV] at h <;> first | (cases h; done) | (cases h; rfl) | (obtain ⟨_, _, _, _, h, _⟩ := h; cases h; done) | (obtain ⟨_, h⟩ := h; first | (cases h; done) | (obtain ⟨h, _⟩ := h; cases h; done) | (obtain ⟨_, h⟩ := h; first | (cases h; done) | (obtain ⟨h, _⟩ := h; cases h; done) | (obtain ⟨_, _, h, _⟩ := h; cases h; done)))
theorem keyD_unk (k : Key) : keyD (unkD k) = some k := by cases k <;> rfl
theorem keyD_rep {C : KM} {a : Wd} {r : Nat} {p : List Nat} {d : D} {v : V} {k : Key} (h : keyD d = some k) (q : Rep C a r p v d) : v = kV k := by
  cases d <;> simp only [keyD] at h <;> (try (cases h; done)) <;> cases h
  · exact rep_int q
  · exact rep_str q
theorem getK_rep {C : KM} {a : Wd} {r : Nat} {p : List Nat} (x : Key) : ∀ {kvs : List (Key × V)} {ks ws : List D} {n m : Nat}, RepL C a r p n (kvs.map fun q => kV q.1) ks → RepL C a r p m (kvs.map (·.2)) ws →
    match getK ks ws x with
    | some w => ∃ v j, valV kvs x = some v ∧ Rep C a r (j :: p) v w
    | none => valV kvs x = none
  | [], ks, ws, n, m, h, g => by
    have e : ks = [] := by cases ks with | nil => rfl | cons _ _ => simp only [RepL, List.map_nil] at h; obtain ⟨_, _, e, _⟩ := h; cases e
    subst e
    simp [getK, valV]
  | (k, v) :: kvs, ks, ws, n, m, h, g => by
    cases ks with
    | nil => simp only [RepL, List.map_cons] at h; cases h
    | cons d ks =>
      cases ws with
      | nil => simp only [RepL, List.map_cons] at g; cases g
      | cons w ws =>
        simp only [RepL, List.map_cons] at h g
        obtain ⟨v1, us, e1, h1, h2⟩ := h
        obtain ⟨v2, us', e2, g1, g2⟩ := g
        cases e1; cases e2
        have ed := rep_key h1
        subst ed
        simp only [getK, keyD_unk]
        by_cases e : k = x
        · subst e
          simp only [if_true]
          exact ⟨v, m, valV_pos rfl, g1⟩
        · have ne : ¬ (some k : Option Key) = some x := fun z => e (Option.some.inj z)
          simp only [if_neg ne]
          have ih := getK_rep (C := C) (a := a) (r := r) (p := p) x (kvs := kvs) (ks := ks) (ws := ws) h2 g2
          rw [valV_neg (p := (k, v)) e]
          exact ih

/-! ### order -/
section
variable {X : Cx} {C : KM}
theorem op_ltD : OpR X (compareOp .Lt) (rD C ltD) := by
  intro pins s σ H x y v u Q I rx ry h
  obtain ⟨a, d1, d2, r1, r2, d, rfl, k, p1, p2, hd, q⟩ := h
  cases d1 <;> cases d2 <;> simp only [ltD] at hd <;> try (cases hd; done)
  case int.int i j => cases hd; cases rep_int p1; cases rep_int p2; exact op_lt pins s σ a.H _ _ v u Q I rx ry ⟨i, j, rfl, rfl, q _ a (Grow.refl a) k rep_ofbl⟩
  case str.str i j => cases hd; cases rep_str p1; cases rep_str p2; exact op_lt_str pins s σ a.H _ _ v u Q I rx ry ⟨i, j, rfl, rfl, q _ a (Grow.refl a) k rep_ofbl⟩
theorem op_leD : OpR X (compareOp .LtE) (rD C leD) := by
  intro pins s σ H x y v u Q I rx ry h
  obtain ⟨a, d1, d2, r1, r2, d, rfl, k, p1, p2, hd, q⟩ := h
  cases d1 <;> cases d2 <;> simp only [leD] at hd <;> try (cases hd; done)
  case int.int i j => cases hd; cases rep_int p1; cases rep_int p2; exact op_le pins s σ a.H _ _ v u Q I rx ry ⟨i, j, rfl, rfl, q _ a (Grow.refl a) k rep_ofbl⟩
  case str.str i j => cases hd; cases rep_str p1; cases rep_str p2; exact op_le_str pins s σ a.H _ _ v u Q I rx ry ⟨i, j, rfl, rfl, q _ a (Grow.refl a) k rep_ofbl⟩
theorem op_gtD : OpR X (compareOp .Gt) (rD C gtD) := by
  intro pins s σ H x y v u Q I rx ry h
  obtain ⟨a, d1, d2, r1, r2, d, rfl, k, p1, p2, hd, q⟩ := h
  cases d1 <;> cases d2 <;> simp only [gtD] at hd <;> try (cases hd; done)
  case int.int i j => cases hd; cases rep_int p1; cases rep_int p2; exact op_gt pins s σ a.H _ _ v u Q I rx ry ⟨i, j, rfl, rfl, q _ a (Grow.refl a) k rep_ofbl⟩
  case str.str i j => cases hd; cases rep_str p1; cases rep_str p2; exact op_gt_str pins s σ a.H _ _ v u Q I rx ry ⟨i, j, rfl, rfl, q _ a (Grow.refl a) k rep_ofbl⟩
theorem op_geD : OpR X (compareOp .GtE) (rD C geD) := by
  intro pins s σ H x y v u Q I rx ry h
  obtain ⟨a, d1, d2, r1, r2, d, rfl, k, p1, p2, hd, q⟩ := h
  cases d1 <;> cases d2 <;> simp only [geD] at hd <;> try (cases hd; done)
  case int.int i j => cases hd; cases rep_int p1; cases rep_int p2; exact op_ge pins s σ a.H _ _ v u Q I rx ry ⟨i, j, rfl, rfl, q _ a (Grow.refl a) k rep_ofbl⟩
  case str.str i j => cases hd; cases rep_str p1; cases rep_str p2; exact op_ge_str pins s σ a.H _ _ v u Q I rx ry ⟨i, j, rfl, rfl, q _ a (Grow.refl a) k rep_ofbl⟩
end

/-! ### in -/
theorem flat_rep {C : KM} {a : Wd} {r : Nat} {p : List Nat} {d : D} {v : V} (h : flatD d = true) (q : Rep C a r p v d) : flatV v = true := by
  cases d <;> simp only [flatD] at h <;> (try (cases h; done)) <;> (simp only [Rep] at q; subst q; rfl)
theorem eqF_rep {C : KM} {a : Wd} {r s : Nat} {p p' : List Nat} {d e : D} {v u : V} (h : flatD d = true) (h' : flatD e = true) (q : Rep C a r p v d) (q' : Rep C a s p' u e) : eqV v u = eqF d e := by
  cases d <;> simp only [flatD] at h <;> (try (cases h; done)) <;> cases e <;> simp only [flatD] at h' <;> (try (cases h'; done)) <;> (simp only [Rep] at q q'; subst q q'; rfl)
theorem flats_rep {C : KM} {a : Wd} {r : Nat} {p : List Nat} : ∀ {l : List D} {n : Nat} {vs : List V}, l.all flatD = true → RepL C a r p n vs l → vs.all flatV = true
  | [], n, vs, h, q => by simp only [RepL] at q; subst q; rfl
  | d :: l, n, vs, h, q => by
    simp only [List.all_cons, Bool.and_eq_true] at h
    simp only [RepL] at q
    obtain ⟨v, us, rfl, q1, q2⟩ := q
    rw [List.all_cons, flat_rep h.1 q1, flats_rep h.2 q2]; rfl
theorem anyF_rep {C : KM} {a : Wd} {r s : Nat} {p p' : List Nat} {x : D} {v : V} (hx : flatD x = true) (qx : Rep C a s p' v x) : ∀ {l : List D} {n : Nat} {vs : List V}, l.all flatD = true → RepL C a r p n vs l → inV v vs = l.any fun y => eqF y x
  | [], n, vs, h, q => by simp only [RepL] at q; subst q; rfl
  | d :: l, n, vs, h, q => by
    simp only [List.all_cons, Bool.and_eq_true] at h
    simp only [RepL] at q
    obtain ⟨u, us, rfl, q1, q2⟩ := q
    have ih := anyF_rep hx qx h.2 q2
    unfold inV at ih ⊢
    rw [List.any_cons, List.any_cons, eqF_rep h.1 hx q1 qx, ih]
section
variable {X : Cx} {C : KM} (hC : C.K = X.K)
theorem sign_of {s : Str} {c : Nat} (h : s.cps.toList = [c]) : s = ⟨#[c]⟩ := by
  obtain ⟨a⟩ := s
  have e : a = #[c] := by
    apply Array.ext'
    simpa using h
  rw [e]
include hC
/- in, by its truth b; f the comparison, g what it tells of b -/
theorem op_inG {op : CmpOp} {g : Bool → Bool} (hop : (op = .In ∧ g = id) ∨ (op = .NotIn ∧ g = (!·))) (hu : X.A.units + 1 < cLine) : OpR X (compareOp op) (rD C fun d e => (inQ d e).map fun b => .bl (g b)) := by
  intro pins s σ H x y v u Q I rx ry h
  obtain ⟨a, d1, d2, r1, r2, d, rfl, k, p1, p2, hd, q⟩ := h
  cases hb : inQ d1 d2 with
  | none => simp only [hb] at hd; cases hd
  | some b =>
    simp only [hb] at hd
    cases hd
    have fin : ∀ s', Inv X pins σ a.H s' → EP X pins σ Q (.bool (g b)) s' := fun s' I' => ⟨.bl (g b), a.H, I', rfl, q _ a (Grow.refl a) k rep_ofbl⟩
    have qv : Q (.bl (g b)) a.H := q _ a (Grow.refl a) k rep_ofbl
    have seq : ∀ {x2 : Addr} {us : List V} {l : List D}, y = .ref x2 → (SqL X.K a.H x2 us ∨ SqT X.K a.H x2 us) → RepL C a r2 [] 0 us l → (if flatD d1 && l.all flatD then some (l.any fun y => eqF y d1) else none) = some b →
        wpAny (model X.prog X.w) X.A (compareOp op v u) (EP X pins σ Q) X.xe s := fun {x2 us l} e1 hs hl e2 => by
      split at e2
      · rename_i z
        simp only [Bool.and_eq_true] at z
        cases e2
        subst e1
        have ei := anyF_rep z.1 p1 z.2 hl
        rcases hop with ⟨rfl, rfl⟩ | ⟨rfl, rfl⟩
        · exact op_in_seq pins s σ a.H _ _ v u Q I rx ry ⟨x2, us, rfl, hs, flat_rep z.1 p1, flats_rep z.2 hl, by rw [ei]; exact qv⟩
        · exact op_notIn_seq pins s σ a.H _ _ v u Q I rx ry ⟨x2, us, rfl, hs, flat_rep z.1 p1, flats_rep z.2 hl, by rw [ei]; exact qv⟩
      · cases e2
    have dic : ∀ {o : Bool} {ks ws : List D}, Rep C a r2 [] y (.dic o ks ws) → (match keyD d1 with | some k => some (getK ks ws k).isSome | none => none) = some b → wpAny (model X.prog X.w) X.A (compareOp op v u) (EP X pins σ Q) X.xe s := fun {o ks ws} rp e => by
      cases hk : keyD d1 with
      | none => rw [hk] at e; cases e
      | some key =>
        rw [hk] at e
        cases e
        obtain ⟨x2, ho, kv, vs, rfl, h1, dc, f, hk1, hk2⟩ := rep_dic k rp
        cases dc with
        | dk kvs =>
          have ex := keyD_rep hk p1
          subst ex
          obtain rfl : u = Value.ref x2 := ry
          have gk := getK_rep key hk1 hk2
          have ei : (valV kvs key).isSome = (getK ks ws key).isSome := by
            cases e : getK ks ws key with
            | none => rw [e] at gk; rw [gk]; rfl
            | some w => rw [e] at gk; obtain ⟨v', j, e', _⟩ := gk; rw [e']; rfl
          rcases hop with ⟨rfl, rfl⟩ | ⟨rfl, rfl⟩
          · exact d_in hu I (DGet.k h1) rx fun s3 I3 => by rw [ei]; exact fin s3 I3
          · exact d_notIn hu I (DGet.k h1) rx fun s3 I3 => by rw [ei]; exact fin s3 I3
    cases d2
    case str t =>
      cases d1 <;> simp only [inQ] at hb <;> try (cases hb; done)
      case str z =>
        cases rep_str p1; cases rep_str p2
        split at hb
        · rename_i c e
          cases hb
          have ez := sign_of e
          subst ez
          rcases hop with ⟨rfl, rfl⟩ | ⟨rfl, rfl⟩
          · exact op_in_sign pins s σ a.H _ _ v u Q I rx ry ⟨c, t, rfl, rfl, qv⟩
          · exact op_notIn_sign pins s σ a.H _ _ v u Q I rx ry ⟨c, t, rfl, rfl, qv⟩
        · cases hb
          rcases hop with ⟨rfl, rfl⟩ | ⟨rfl, rfl⟩
          · exact op_in_str pins s σ a.H _ _ v u Q I rx ry ⟨z, t, rfl, rfl, qv⟩
          · exact L2.op_notIn_str pins s σ a.H _ _ v u Q I rx ry ⟨z, t, rfl, rfl, qv⟩
    case dic o ks ws => cases d1 <;> simp only [inQ] at hb <;> exact dic p2 hb
    case lst o l =>
      obtain ⟨x2, us, e, h1, h2⟩ := rep_lst k p2
      cases d1 <;> simp only [inQ] at hb <;> exact seq e (.inl (SqL.of h1)) h2 hb
    case tup l =>
      obtain ⟨x2, us, e, h1, h2⟩ := rep_tup k p2
      rw [hC] at h1
      cases d1 <;> simp only [inQ] at hb <;> exact seq e (.inr h1) h2 hb
    all_goals (cases d1 <;> simp only [inQ] at hb <;> cases hb)
theorem op_inD (hu : X.A.units + 1 < cLine) : OpR X (compareOp .In) (rD C inD) := op_inG hC (g := id) (.inl ⟨rfl, rfl⟩) hu
theorem op_ninD (hu : X.A.units + 1 < cLine) : OpR X (compareOp .NotIn) (rD C ninD) := op_inG hC (g := (!·)) (.inr ⟨rfl, rfl⟩) hu
omit hC in
theorem op_isG {op : CmpOp} {g : Bool → Bool} (hop : (op = .Is ∧ g = id) ∨ (op = .IsNot ∧ g = (!·))) : OpR X (compareOp op) (rD C fun d e => (isQ d e).map fun b => .bl (g b)) := by
  intro pins s σ H x y v u Q I rx ry h
  obtain ⟨a, d1, d2, r1, r2, d, rfl, k, p1, p2, hd, q⟩ := h
  cases hb : isQ d1 d2 with
  | none => simp only [hb] at hd; cases hd
  | some b =>
    simp only [hb] at hd
    cases hd
    have qv : Q (.bl (g b)) a.H := q _ a (Grow.refl a) k rep_ofbl
    cases d2 <;> (try (cases d1 <;> simp only [isQ] at hb <;> cases hb; done))
    case non =>
      cases rep_non p2
      have ex : decide (x = .non) = b := by
        cases d1 <;> simp only [isQ] at hb <;> (try (cases hb; done)) <;> cases hb <;> simp only [Rep] at p1
        · subst p1; rfl
        · subst p1; rfl
        · subst p1; rfl
        · subst p1; rfl
        · obtain ⟨_, _, rfl, _⟩ := p1; rfl
        · obtain ⟨_, _, rfl, _⟩ := p1; rfl
        · obtain ⟨_, _, _, _, rfl, _⟩ := p1; rfl
        · obtain ⟨_, _, _, _, rfl, _⟩ := p1; rfl
      rcases hop with ⟨rfl, rfl⟩ | ⟨rfl, rfl⟩
      · exact op_isN pins s σ a.H _ _ v u Q I rx ry ⟨rfl, by rw [ex]; exact qv⟩
      · exact op_notN pins s σ a.H _ _ v u Q I rx ry ⟨rfl, by rw [ex]; exact qv⟩
    case bl c =>
      cases rep_bl p2
      cases d1 <;> simp only [isQ] at hb <;> (try (cases hb; done))
      case bl c' =>
        cases hb; cases rep_bl p1
        have e : decide (c' = c) = (c' == c) := by rw [Bool.eq_iff_iff]; simp
        rcases hop with ⟨rfl, rfl⟩ | ⟨rfl, rfl⟩
        · exact op_isBl pins s σ a.H _ _ v u Q I rx ry ⟨c', c, rfl, rfl, by rw [e]; exact qv⟩
        · exact op_notBl pins s σ a.H _ _ v u Q I rx ry ⟨c', c, rfl, rfl, by rw [e]; exact qv⟩
      all_goals
        cases hb
        have hv : plainIs v (.bool c) = true ∧ (v == .bool c) = false := by
          simp only [Rep] at p1
          first
            | (subst p1; cases rx; exact ⟨rfl, rfl⟩)
            | (subst p1; obtain ⟨t, rfl⟩ := rx; exact ⟨rfl, rfl⟩)
            | (obtain ⟨_, _, rfl, _⟩ := p1; cases rx; exact ⟨rfl, rfl⟩)
            | (obtain ⟨_, _, _, _, rfl, _⟩ := p1; cases rx; exact ⟨rfl, rfl⟩)
        obtain rfl : u = Value.bool c := ry
        rcases hop with ⟨rfl, rfl⟩ | ⟨rfl, rfl⟩
        · exact wpAny_is_plain hv.1 (by rw [hv.2]; exact ⟨.bl false, a.H, I, rfl, qv⟩)
        · exact wpAny_isNot_plain hv.1 (by rw [hv.2]; exact ⟨.bl true, a.H, I, rfl, qv⟩)
theorem op_isD : OpR X (compareOp .Is) (rD C isD) := op_isG (g := id) (.inl ⟨rfl, rfl⟩)
theorem op_nisD : OpR X (compareOp .IsNot) (rD C nisD) := op_isG (g := (!·)) (.inr ⟨rfl, rfl⟩)
end
end Mi
namespace Mi
open PySem PySem.Spec PyProof.Rows L2

/-! ### subscripts -/
def pick (o : Option D) : Option D := match o with
  | some d => if fz d = true then some d else none
  | none => none
theorem pick_eq {o : Option D} {d : D} (h : pick o = some d) : o = some d ∧ fz d = true := by
  unfold pick at h
  split at h
  · split at h
    · rename_i z; cases h; exact ⟨rfl, z⟩
    · cases h
  · cases h
def ixD : D → D → Option D
  | .lst _ l, .int i => pick (atI l i)
  | .tup l, .int i => pick (atI l i)
  | .scr l, .int i => (atI l i).map .int
  | .str s, .int i => if s.length ≤ sizeLine then (atI s.cps.toList i).map fun c => .str ⟨#[c]⟩ else none
  | .dic _ ks ws, x => match keyD x with
    | some k => pick (getK ks ws k)
    | none => none
  | _, _ => none
theorem atI_rep {C : KM} {a : Wd} {r : Nat} {p : List Nat} {l : List D} {n : Nat} {vs : List V} {i : Int} {d : D} (h : RepL C a r p n vs l) (e : atI l i = some d) : ∃ v j, atI vs i = some v ∧ Rep C a r (j :: p) v d := by
  unfold atI at e ⊢
  rw [h.len]
  cases hx : ixN l.length i with
  | none => rw [hx] at e; cases e
  | some j =>
    rw [hx] at e
    obtain ⟨v, h1, h2⟩ := h.get (show l[j]? = some d from e)
    exact ⟨v, n + j, h1, h2⟩
section
variable {X : Cx} {C : KM} (hC : C.K = X.K)
include hC
theorem ix_D (hu : X.A.units + 1 < cLine) : IxR X (rD C ixD) := by
  intro value slice pins s σ H x y v u Q I rx ry h hs
  obtain ⟨a, d1, d2, r1, r2, d, rfl, k, p1, p2, hd, q⟩ := h
  have fz_ok : ∀ {z : V} {r : Nat} {p : List Nat}, Rep C a r p z d → fz d = true → Q z a.H := fun {z r p} h e => q z a (Grow.refl a) k (h.step k (Step.refl a) e)
  have dic : ∀ {o : Bool} {ks ws : List D}, Rep C a r1 [] x (.dic o ks ws) → (match keyD d2 with | some k => pick (getK ks ws k) | none => none) = some d → wpAny (model X.prog X.w) X.A (subscriptTail value slice v u) (EP X pins σ Q) X.xe s := fun {o ks ws} rp e => by
    cases hk : keyD d2 with
    | none => rw [hk] at e; cases e
    | some key =>
      rw [hk] at e
      obtain ⟨e1, z⟩ := pick_eq e
      obtain ⟨x2, ho, kv, vs, rfl, h1, dc, f, hk1, hk2⟩ := rep_dic k rp
      cases dc with
      | dk kvs =>
        have ex := keyD_rep hk p2
        subst ex
        obtain rfl : v = Value.ref x2 := rx
        have gk := getK_rep key hk1 hk2
        rw [e1] at gk
        obtain ⟨w, j, ew, rw'⟩ := gk
        have g : DGet a.H x2 (kV key) (some w) := by rw [← ew]; exact DGet.k h1
        exact tail_any (dict_typeIs I g) PySem.F.slot_dict_getitem.lookup (d_getItem hu I g ry fun w' s3 I3 r3 => ⟨w, a.H, I3, r3, fz_ok rw' z⟩) hs
  cases d1
  case lst o l =>
    cases d2 <;> simp only [ixD] at hd <;> (try (cases hd; done))
    case int i =>
      obtain ⟨e1, z⟩ := pick_eq hd
      obtain ⟨x1, vs, rfl, h1, h2⟩ := rep_lst k p1
      cases rep_int p2
      obtain ⟨w, j, ew, rw'⟩ := atI_rep h2 e1
      exact ix_list value slice pins s σ a.H _ _ v u Q I rx ry ⟨x1, vs, i, w, rfl, rfl, SqL.of h1, ew, fz_ok rw' z⟩ hs
  case tup l =>
    cases d2 <;> simp only [ixD] at hd <;> (try (cases hd; done))
    case int i =>
      obtain ⟨e1, z⟩ := pick_eq hd
      obtain ⟨x1, vs, rfl, h1, h2⟩ := rep_tup k p1
      cases rep_int p2
      rw [hC] at h1
      obtain ⟨w, j, ew, rw'⟩ := atI_rep h2 e1
      exact ix_tup value slice pins s σ a.H _ _ v u Q I rx ry ⟨x1, vs, i, w, rfl, rfl, h1, ew, fz_ok rw' z⟩ hs
  case scr l =>
    cases d2 <;> simp only [ixD] at hd <;> (try (cases hd; done))
    case int i =>
      obtain ⟨x1, rfl, h1⟩ := rep_scr k p1
      cases rep_int p2
      rw [hC] at h1
      cases e1 : atI l i with
      | none => rw [e1] at hd; cases hd
      | some n =>
        rw [e1] at hd
        cases hd
        have ew : atI (l.map V.int) i = some (.int n) := by
          unfold atI at e1 ⊢
          rw [List.length_map]
          cases hx : ixN l.length i with
          | none => rw [hx] at e1; cases e1
          | some j =>
            rw [hx] at e1
            have e1 : l[j]? = some n := e1
            show (l.map V.int)[j]? = some (.int n)
            rw [List.getElem?_map, e1]; rfl
        exact ix_list value slice pins s σ a.H _ _ v u Q I rx ry ⟨x1, _, i, .int n, rfl, rfl, h1, ew, fz_ok (r := 0) (p := []) (by simp [Rep]) rfl⟩ hs
  case str z =>
    cases d2 <;> simp only [ixD] at hd <;> (try (cases hd; done))
    case int i =>
      split at hd
      · rename_i hz
        cases rep_int p2
        cases rep_str p1
        cases e1 : atI z.cps.toList i with
        | none => rw [e1] at hd; cases hd
        | some n =>
          rw [e1] at hd
          cases hd
          exact ix_str value slice pins s σ a.H _ _ v u Q I rx ry ⟨z, i, n, rfl, rfl, hz, e1, fz_ok (r := 0) (p := []) (by simp [Rep]) rfl⟩ hs
      · cases hd
  case dic o ks ws => cases d2 <;> simp only [ixD] at hd <;> exact dic p1 hd
  all_goals (cases d2 <;> simp only [ixD] at hd <;> cases hd)
end

/-! ### slices -/
def cutD {α : Type} (xs : List α) (lo hi : Option Int) : List α := (xs.drop (HT.sIx xs.length 0 lo)).take (HT.sIx xs.length xs.length hi - HT.sIx xs.length 0 lo)
def slD (d : D) (lo hi : Option Int) : Option D := match d with
  | .lst _ l => if fzL l then some (.lst true (cutD l lo hi)) else none
  | .tup l => if fzL l then some (.tup (cutD l lo hi)) else none
  | .scr l => some (.lst true ((cutD l lo hi).map .int))
  | .str s => if s.length ≤ sizeLine then some (.str (cutS s lo hi)) else none
  | _ => none
theorem RepL.cut {C : KM} {a : Wd} {r s : Nat} {p q : List Nat} : ∀ {l : List D} {n m : Nat} {vs : List V} (i k : Nat), fzL l = true → RepL C a r p n vs l → RepL C a s q m ((vs.drop i).take k) ((l.drop i).take k)
  | [], n, m, vs, i, k, _, h => by simp only [RepL] at h; subst h; simp [RepL]
  | d :: l, n, m, vs, i, 0, _, h => by simp [RepL]
  | d :: l, n, m, vs, 0, k + 1, z, h => by
    simp only [RepL] at h
    obtain ⟨v, us, rfl, h1, h2⟩ := h
    simp only [fzL, Bool.and_eq_true] at z
    simp only [List.drop_zero, List.take_succ_cons]
    have ih := RepL.cut (s := s) (q := q) (m := m + 1) 0 k z.2 h2
    exact ⟨v, _, rfl, Rep.fz (fun _ _ e => e) d _ _ v z.1 h1, ih⟩
  | d :: l, n, m, vs, i + 1, k + 1, z, h => by
    simp only [RepL] at h
    obtain ⟨v, us, rfl, h1, h2⟩ := h
    simp only [fzL, Bool.and_eq_true] at z
    simp only [List.drop_succ_cons]
    exact RepL.cut i (k + 1) z.2 h2
theorem fzL_take {l : List D} (h : fzL l = true) (k : Nat) : fzL (l.take k) = true := fzL_all fun d hd => fzL_mem h d (List.mem_of_mem_take hd)
theorem fzL_drop {l : List D} (h : fzL l = true) (k : Nat) : fzL (l.drop k) = true := fzL_all fun d hd => fzL_mem h d (List.mem_of_mem_drop hd)
theorem repL_ints {C : KM} {a : Wd} {r : Nat} {p : List Nat} : ∀ (l : List Int) (n : Nat), RepL C a r p n (l.map V.int) (l.map D.int)
  | [], n => by simp [RepL]
  | i :: l, n => ⟨.int i, l.map V.int, rfl, by simp [Rep], repL_ints l (n + 1)⟩
theorem fzL_ints : ∀ l : List Int, fzL (l.map D.int) = true
  | [] => rfl
  | i :: l => by simp only [List.map_cons, fzL, fz, fzL_ints l]; rfl
theorem map_cut {α β : Type} (f : α → β) (l : List α) (lo hi : Option Int) : cutD (l.map f) lo hi = (cutD l lo hi).map f := by
  unfold cutD
  rw [List.length_map, List.map_take, List.map_drop]
def rSD (C : KM) : V → Option Int → Option Int → Hp → VK → Prop := fun x lo hi H Q => ∃ a d1 r1 d, a.H = H ∧ Ok a ∧ Rep C a r1 [] x d1 ∧ slD d1 lo hi = some d ∧ ∀ z b, Grow a b → Ok b → Rep C b 0 [] z d → Q z b.H
def rSlX (K : PySem.W.Frag) : V → Option Int → Option Int → Hp → VK → Prop := fun x lo hi H Q => ∃ a xs, x = .ref a ∧ SqT K H a xs ∧
  (HT.sIx xs.length 0 lo = 0 ∧ HT.sIx xs.length xs.length hi = xs.length → Q (.ref a) H) ∧ (¬ (HT.sIx xs.length 0 lo = 0 ∧ HT.sIx xs.length xs.length hi = xs.length) → TupNew Q H (cutV xs lo hi))
theorem sl_tupX {X : Cx} : SlR X (rSlX X.K) := by
  intro pins s σ H x v vl vu lo hi sl Q I rx hs pl pu h
  obtain ⟨a, xs, rfl, hx, q1, q2⟩ := h
  by_cases hw : HT.sIx xs.length 0 lo = 0 ∧ HT.sIx xs.length xs.length hi = xs.length
  · exact sl_tupA pins s σ H _ v vl vu lo hi sl Q I rx hs pl pu ⟨a, xs, rfl, hx, q1, fun z => absurd hw z⟩
  cases rx
  obtain ⟨its, r, ht, hz⟩ := I.tuple hx
  have hlen : its.toArray.size = xs.length := by rw [List.size_toArray]; exact r.length.symm
  refine ⟨"tuple", _, PyProof.Rows.slot_tuple_getitem.lookup, ht.typeIs, HT.getItem_tuple_cut ht hs pl pu (by rw [hlen]; exact hw) ?_ (by rw [hlen]; exact hz)⟩
  rw [hlen]
  exact lay_tup I ((r.drop (HT.sIx xs.length 0 lo)).take (HT.sIx xs.length xs.length hi - HT.sIx xs.length 0 lo)) (Nat.le_trans (cutV_length xs lo hi) hz) (q2 hw)
theorem call_tupleX {X : Cx} : CallR X (.type "tuple") (fun xs H Q => ∃ p ys, xs = [.ref p] ∧ SqL X.K H p ys ∧ TupNew Q H ys) := by
  intro pins s σ H xs us Q I r h
  obtain ⟨p, ys, rfl, hq, q⟩ := h
  obtain ⟨u, rfl, rx⟩ := vals1 r
  cases rx
  obtain ⟨its, r', pl, hz⟩ := I.list hq
  have hlen := r'.length
  refine call_tuple_list pl.isList (fun h' kp => ?_) (by simp only [List.size_toArray] <;> omega)
  have I1 : Inv X pins σ H { s with heap := h' } := I.kept (t' := s.toks) kp
  exact lay_tup I1 r' hz q
section
variable {X : Cx} {C : KM} (hC : C.K = X.K)
include hC
theorem sl_D : SlR X (rSD C) := by
  intro pins s σ H x v vl vu lo hi sl Q I rx hs pl pu h
  obtain ⟨a, d1, r1, d, rfl, k, p1, hd, q⟩ := h
  cases d1 <;> simp only [slD] at hd <;> (try (cases hd; done))
  case str z =>
    split at hd
    · rename_i hz; cases hd; cases rep_str p1
      exact sl_str pins s σ a.H _ v vl vu lo hi sl Q I rx hs pl pu ⟨z, rfl, hz, q _ a (Grow.refl a) k (by simp [Rep])⟩
    · cases hd
  case scr l =>
    cases hd
    obtain ⟨x1, rfl, h1⟩ := rep_scr k p1
    rw [hC] at h1
    refine sl_list pins s σ a.H _ v vl vu lo hi sl Q I rx hs pl pu ⟨x1, _, rfl, h1, ?_⟩
    rw [show cutV (l.map V.int) lo hi = (cutD l lo hi).map V.int from map_cut V.int l lo hi]
    exact new_lst k (fzL_ints _) (repL_ints (r := 0) (p := []) _ 0) q
  case lst o l =>
    split at hd
    · rename_i hz; cases hd
      obtain ⟨x1, vs, rfl, h1, h2⟩ := rep_lst k p1
      refine sl_list pins s σ a.H _ v vl vu lo hi sl Q I rx hs pl pu ⟨x1, vs, rfl, SqL.of h1, ?_⟩
      unfold cutV
      rw [h2.len]
      exact new_lst k (fzL_take (fzL_drop hz _) _) (RepL.cut (s := 0) (q := []) (m := 0) _ _ hz h2) q
    · cases hd
  case tup l =>
    split at hd
    · rename_i hz; cases hd
      obtain ⟨x1, vs, rfl, h1, h2⟩ := rep_tup k p1
      rw [hC] at h1
      refine sl_tupX pins s σ a.H _ v vl vu lo hi sl Q I rx hs pl pu ⟨x1, vs, rfl, h1, fun e => ?_, fun _ => ?_⟩
      · rw [h2.len] at e
        have e2 : cutD l lo hi = l := by unfold cutD; rw [e.1, e.2]; simp
        rw [e2] at q
        exact q _ a (Grow.refl a) k (p1.step k (Step.refl a) (by simpa [fz] using hz))
      · unfold cutV
        rw [h2.len]
        exact new_tup k (fzL_take (fzL_drop hz _) _) (RepL.cut (s := 0) (q := []) (m := 0) _ _ hz h2) q
    · cases hd
end

/-! ### calls of builtins -/
def lenD : List D → Option D
  | [.str s] => if s.length ≤ sizeLine then some (.int s.length) else none
  | [.lst _ l] => some (.int l.length)
  | [.tup l] => some (.int l.length)
  | [.scr l] => some (.int l.length)
  | [.dic _ ks _] => some (.int ks.length)
  | _ => none
def absD : List D → Option D
  | [.int i] => some (.int (if i < 0 then -i else i))
  | _ => none
def intD : List D → Option D
  | [.int i] => some (.int i)
  | [.bl b] => some (.int (if b then 1 else 0))
  | _ => none
def minD : List D → Option D
  | [.int i, .int j] => some (.int (if j < i then j else i))
  | _ => none
def maxD : List D → Option D
  | [.int i, .int j] => some (.int (if j > i then j else i))
  | _ => none
def strD : List D → Option D
  | [.int i] => if i.natAbs.log2 < 1920 then some (.str (toString i)) else none
  | _ => none
def listD : List D → Option D
  | [.lst _ l] => if fzL l then some (.lst true l) else none
  | [.tup l] => if fzL l then some (.lst true l) else none
  | [.scr l] => some (.lst true (l.map .int))
  | _ => none
def tupleD : List D → Option D
  | [.lst _ l] => if fzL l then some (.tup l) else none
  | [.tup l] => if fzL l then some (.tup l) else none
  | _ => none
def blsOf : List D → Option (List Bool)
  | [] => some []
  | .bl b :: l => (blsOf l).map (b :: ·)
  | _ => none
def allD : List D → Option D
  | [.lst _ l] => (blsOf l).map fun bs => .bl (bs.all id)
  | _ => none
def anyD : List D → Option D
  | [.lst _ l] => (blsOf l).map fun bs => .bl (bs.any id)
  | _ => none
def intsOf : List D → Option (List Int)
  | [] => some []
  | .int b :: l => (intsOf l).map (b :: ·)
  | _ => none
def sumD : List D → Option D
  | [.lst _ l] => (intsOf l).map fun bs => .int bs.sum
  | _ => none
theorem one_rep {P : D → V → Prop} {d : D} {xs : List V} (h : Paired P [d] xs) : ∃ v, xs = [v] ∧ P d v := by
  cases h with
  | cons h t => cases t; exact ⟨_, rfl, h⟩
theorem two_rep {P : D → V → Prop} {d e : D} {xs : List V} (h : Paired P [d, e] xs) : ∃ v u, xs = [v, u] ∧ P d v ∧ P e u := by
  cases h with
  | cons h t => cases t with
    | cons h2 t => cases t; exact ⟨_, _, rfl, h, h2⟩
theorem bls_rep {C : KM} {a : Wd} {r : Nat} {p : List Nat} : ∀ {l : List D} {n : Nat} {vs : List V} {bs : List Bool}, blsOf l = some bs → RepL C a r p n vs l → vs = bs.map V.bl
  | [], n, vs, bs, h, q => by simp only [RepL] at q; subst q; cases h; rfl
  | d :: l, n, vs, bs, h, q => by
    simp only [RepL] at q
    obtain ⟨v, us, rfl, q1, q2⟩ := q
    cases d <;> simp only [blsOf] at h <;> (try (cases h; done))
    case bl b =>
      cases hl : blsOf l with
      | none => rw [hl] at h; cases h
      | some cs =>
        rw [hl] at h
        cases h
        rw [rep_bl q1, bls_rep hl q2]; rfl
theorem ints_rep {C : KM} {a : Wd} {r : Nat} {p : List Nat} : ∀ {l : List D} {n : Nat} {vs : List V} {bs : List Int}, intsOf l = some bs → RepL C a r p n vs l → vs = bs.map V.int
  | [], n, vs, bs, h, q => by simp only [RepL] at q; subst q; cases h; rfl
  | d :: l, n, vs, bs, h, q => by
    simp only [RepL] at q
    obtain ⟨v, us, rfl, q1, q2⟩ := q
    cases d <;> simp only [intsOf] at h <;> (try (cases h; done))
    case int b =>
      cases hl : intsOf l with
      | none => rw [hl] at h; cases h
      | some cs =>
        rw [hl] at h
        cases h
        rw [rep_int q1, ints_rep hl q2]; rfl
section
variable {X : Cx} {C : KM} (hC : C.K = X.K)
include hC
theorem call_lenDD : CallR X (.builtin "len") (cD C lenD) := by
  intro pins s σ H xs us Q I r h
  obtain ⟨a, ds, d, rfl, k, ps, hd, q⟩ := h
  match ds, hd with
  | [d1], hd =>
    obtain ⟨v, rfl, r1, p1⟩ := one_rep ps
    cases d1 <;> simp only [lenD] at hd <;> (try (cases hd; done))
    case str z =>
      split at hd
      · rename_i hz; cases hd; cases rep_str p1
        exact call_len pins s σ a.H _ us Q I r ⟨_, _, rfl, ⟨hz, rfl⟩, q _ a (Grow.refl a) k (by simp [Rep])⟩
      · cases hd
    case lst o l =>
      cases hd
      obtain ⟨x1, vs, rfl, h1, h2⟩ := rep_lst k p1
      exact call_len pins s σ a.H _ us Q I r ⟨_, _, rfl, .inl ⟨vs, SqL.of h1, rfl⟩, q _ a (Grow.refl a) k (by simp [Rep, h2.len])⟩
    case tup l =>
      cases hd
      obtain ⟨x1, vs, rfl, h1, h2⟩ := rep_tup k p1
      rw [hC] at h1
      exact call_len pins s σ a.H _ us Q I r ⟨_, _, rfl, .inr ⟨vs, h1, rfl⟩, q _ a (Grow.refl a) k (by simp [Rep, h2.len])⟩
    case scr l =>
      cases hd
      obtain ⟨x1, rfl, h1⟩ := rep_scr k p1
      rw [hC] at h1
      exact call_len pins s σ a.H _ us Q I r ⟨_, _, rfl, .inl ⟨_, h1, rfl⟩, q _ a (Grow.refl a) k (by simp [Rep])⟩
    case dic o ks ws =>
      cases hd
      obtain ⟨x1, ho, kv, vs, rfl, h1, dc, f, hk1, hk2⟩ := rep_dic k p1
      cases dc with
      | dk kvs =>
        have hl : kvs.length = ks.length := by have := hk1.len; simpa using this
        exact call_lenD pins s σ a.H _ us Q I r ⟨x1, kvs, rfl, h1, q _ a (Grow.refl a) k (by simp [Rep, hl])⟩
  | [], hd => simp [lenD] at hd
  | _ :: _ :: _, hd => simp [lenD] at hd
omit hC in
theorem call_absD : CallR X (.builtin "abs") (cD C absD) := by
  intro pins s σ H xs us Q I r h
  obtain ⟨a, ds, d, rfl, k, ps, hd, q⟩ := h
  match ds, hd with
  | [.int i], hd =>
    obtain ⟨v, rfl, r1, p1⟩ := one_rep ps
    simp only [absD] at hd
    cases hd; cases rep_int p1
    exact call_abs pins s σ a.H _ us Q I r ⟨i, rfl, q _ a (Grow.refl a) k (by simp [Rep])⟩
omit hC in
theorem call_intD : CallR X (.type "int") (cD C intD) := by
  intro pins s σ H xs us Q I r h
  obtain ⟨a, ds, d, rfl, k, ps, hd, q⟩ := h
  match ds, hd with
  | [.int i], hd =>
    obtain ⟨v, rfl, r1, p1⟩ := one_rep ps
    simp only [intD] at hd
    cases hd; cases rep_int p1
    exact call_int1 pins s σ a.H _ us Q I r (.inl ⟨i, rfl, q _ a (Grow.refl a) k (by simp [Rep])⟩)
  | [.bl i], hd =>
    obtain ⟨v, rfl, r1, p1⟩ := one_rep ps
    simp only [intD] at hd
    cases hd; cases rep_bl p1
    exact call_int1 pins s σ a.H _ us Q I r (.inr ⟨i, rfl, q _ a (Grow.refl a) k (by simp [Rep])⟩)
omit hC in
theorem call_minD (hc : X.calm = true) : CallR X (.builtin "min") (cD C minD) := by
  intro pins s σ H xs us Q I r h
  obtain ⟨a, ds, d, rfl, k, ps, hd, q⟩ := h
  match ds, hd with
  | [.int i, .int j], hd =>
    obtain ⟨v, w, rfl, ⟨_, p1⟩, ⟨_, p2⟩⟩ := two_rep ps
    simp only [minD] at hd
    cases hd; cases rep_int p1; cases rep_int p2
    exact call_min2 hc pins s σ a.H _ us Q I r ⟨i, j, rfl, q _ a (Grow.refl a) k (by simp [Rep])⟩
omit hC in
theorem call_maxD (hc : X.calm = true) : CallR X (.builtin "max") (cD C maxD) := by
  intro pins s σ H xs us Q I r h
  obtain ⟨a, ds, d, rfl, k, ps, hd, q⟩ := h
  match ds, hd with
  | [.int i, .int j], hd =>
    obtain ⟨v, w, rfl, ⟨_, p1⟩, ⟨_, p2⟩⟩ := two_rep ps
    simp only [maxD] at hd
    cases hd; cases rep_int p1; cases rep_int p2
    exact call_max2 hc pins s σ a.H _ us Q I r ⟨i, j, rfl, q _ a (Grow.refl a) k (by simp [Rep])⟩
omit hC in
theorem call_strD : CallR X (.type "str") (cD C strD) := by
  intro pins s σ H xs us Q I r h
  obtain ⟨a, ds, d, rfl, k, ps, hd, q⟩ := h
  match ds, hd with
  | [.int i], hd =>
    obtain ⟨v, rfl, r1, p1⟩ := one_rep ps
    simp only [strD] at hd
    split at hd
    · rename_i hz; cases hd; cases rep_int p1
      exact call_str_int pins s σ a.H _ us Q I r ⟨i, rfl, hz, q _ a (Grow.refl a) k (by simp [Rep])⟩
    · cases hd
theorem call_listD : CallR X (.type "list") (cD C listD) := by
  intro pins s σ H xs us Q I r h
  obtain ⟨a, ds, d, rfl, k, ps, hd, q⟩ := h
  match ds, hd with
  | [.lst o l], hd =>
    obtain ⟨v, rfl, r1, p1⟩ := one_rep ps
    simp only [listD] at hd
    split at hd
    · rename_i hz; cases hd
      obtain ⟨x1, vs, rfl, h1, h2⟩ := rep_lst k p1
      exact call_list_of pins s σ a.H _ us Q I r ⟨x1, vs, rfl, .inl (SqL.of h1), new_lst k hz h2 q⟩
    · cases hd
  | [.tup l], hd =>
    obtain ⟨v, rfl, r1, p1⟩ := one_rep ps
    simp only [listD] at hd
    split at hd
    · rename_i hz; cases hd
      obtain ⟨x1, vs, rfl, h1, h2⟩ := rep_tup k p1
      rw [hC] at h1
      exact call_list_of pins s σ a.H _ us Q I r ⟨x1, vs, rfl, .inr h1, new_lst k hz h2 q⟩
    · cases hd
  | [.scr l], hd =>
    obtain ⟨v, rfl, r1, p1⟩ := one_rep ps
    simp only [listD] at hd
    cases hd
    obtain ⟨x1, rfl, h1⟩ := rep_scr k p1
    rw [hC] at h1
    exact call_list_of pins s σ a.H _ us Q I r ⟨x1, _, rfl, .inl h1, new_lst k (fzL_ints _) (repL_ints (r := 0) (p := []) _ 0) q⟩
theorem call_tupleD : CallR X (.type "tuple") (cD C tupleD) := by
  intro pins s σ H xs us Q I r h
  obtain ⟨a, ds, d, rfl, k, ps, hd, q⟩ := h
  match ds, hd with
  | [.lst o l], hd =>
    obtain ⟨v, rfl, r1, p1⟩ := one_rep ps
    simp only [tupleD] at hd
    split at hd
    · rename_i hz; cases hd
      obtain ⟨x1, vs, rfl, h1, h2⟩ := rep_lst k p1
      exact call_tupleX pins s σ a.H _ us Q I r ⟨x1, vs, rfl, SqL.of h1, new_tup k hz h2 q⟩
    · cases hd
  | [.tup l], hd =>
    obtain ⟨v, rfl, r1, p1⟩ := one_rep ps
    simp only [tupleD] at hd
    split at hd
    · rename_i hz; cases hd
      have p0 := p1.step (s := 0) (q := []) k (Step.refl a) (show fz (.tup l) = true by simpa [fz] using hz)
      obtain ⟨x1, vs, rfl, h1, h2⟩ := rep_tup k p1
      rw [hC] at h1
      exact call_tuple_of pins s σ a.H _ us Q I r ⟨x1, vs, rfl, .inr ⟨h1, q _ a (Grow.refl a) k p0⟩⟩
    · cases hd
omit hC in
theorem call_allD (hc : X.calm = true) : CallR X (.builtin "all") (cD C allD) := by
  intro pins s σ H xs us Q I r h
  obtain ⟨a, ds, d, rfl, k, ps, hd, q⟩ := h
  match ds, hd with
  | [.lst o l], hd =>
    obtain ⟨v, rfl, r1, p1⟩ := one_rep ps
    simp only [allD] at hd
    cases hb : blsOf l with
    | none => rw [hb] at hd; cases hd
    | some bs =>
      rw [hb] at hd; cases hd
      obtain ⟨x1, vs, rfl, h1, h2⟩ := rep_lst k p1
      have e := bls_rep hb h2
      subst e
      exact cr_all hc pins s σ a.H _ us Q I r ⟨x1, bs, rfl, SqL.of h1, q _ a (Grow.refl a) k (by simp [Rep])⟩
omit hC in
theorem call_anyD (hc : X.calm = true) : CallR X (.builtin "any") (cD C anyD) := by
  intro pins s σ H xs us Q I r h
  obtain ⟨a, ds, d, rfl, k, ps, hd, q⟩ := h
  match ds, hd with
  | [.lst o l], hd =>
    obtain ⟨v, rfl, r1, p1⟩ := one_rep ps
    simp only [anyD] at hd
    cases hb : blsOf l with
    | none => rw [hb] at hd; cases hd
    | some bs =>
      rw [hb] at hd; cases hd
      obtain ⟨x1, vs, rfl, h1, h2⟩ := rep_lst k p1
      have e := bls_rep hb h2
      subst e
      exact cr_any hc pins s σ a.H _ us Q I r ⟨x1, bs, rfl, SqL.of h1, q _ a (Grow.refl a) k (by simp [Rep])⟩
omit hC in
theorem call_sumD (hc : X.calm = true) : CallR X (.builtin "sum") (cD C sumD) := by
  intro pins s σ H xs us Q I r h
  obtain ⟨a, ds, d, rfl, k, ps, hd, q⟩ := h
  match ds, hd with
  | [.lst o l], hd =>
    obtain ⟨v, rfl, r1, p1⟩ := one_rep ps
    simp only [sumD] at hd
    cases hb : intsOf l with
    | none => rw [hb] at hd; cases hd
    | some bs =>
      rw [hb] at hd; cases hd
      obtain ⟨x1, vs, rfl, h1, h2⟩ := rep_lst k p1
      have e := ints_rep hb h2
      subst e
      exact cr_sum hc pins s σ a.H _ us Q I r ⟨x1, bs, rfl, SqL.of h1, q _ a (Grow.refl a) k (by simp [Rep])⟩
end
end Mi
namespace Mi
open PySem PySem.Spec PyProof.Rows L2

/-! ### statements' ends -/
inductive FlowD where
  | next | ret (d : D) | brk | cont
section
variable (G : Gm) (W : WX)
def PostS (D : Ends) (a : Wd) (r : Res (FlowD × EnvD)) : Prop :=
  match r with
  | .ok (.next, e) => ∀ b σ, Step a b → RelE G b σ e → D.nx σ b.H
  | .ok (.brk, e) => ∀ b σ, Step a b → RelE G b σ e → D.bk σ b.H
  | .ok (.cont, e) => ∀ b σ, Step a b → RelE G b σ e → D.ct σ b.H
  | .ok (.ret d, e) => ∀ b σ v, Step a b → RelE G b σ e → Rep G.C b 0 [] v d → D.rt v b.H
  | .exc x e => ∀ b σ cls dd, Step a b → RelE G b σ e → ExcRep G.C b x cls dd → W cls dd σ b.H
  | .bad => False
def tS (m : EM FlowD) : TS := fun D σ H => ∃ a env, a.H = H ∧ RelE G a σ env ∧ PostS G W D a (m env)
end
section
variable {G : Gm} {W : WX} {D : Ends} {a b : Wd} {σ : L2.St} {env : EnvD}
theorem PostS.step {r : Res (FlowD × EnvD)} (st : Step a b) (h : PostS G W D a r) : PostS G W D b r := by
  match r, h with
  | .ok (.next, e), h => exact fun c σ s => h c σ (st.trans s)
  | .ok (.brk, e), h => exact fun c σ s => h c σ (st.trans s)
  | .ok (.cont, e), h => exact fun c σ s => h c σ (st.trans s)
  | .ok (.ret d, e), h => exact fun c σ v s => h c σ v (st.trans s)
  | .exc x e, h => exact fun c σ cls dd s => h c σ cls dd (st.trans s)
  | .bad, h => exact h
/- an expression ahead of the rest of a statement -/
theorem PostS.ahead {α : Type} {m : Res (α × EnvD)} {k : α × EnvD → Res (FlowD × EnvD)} (h : PostS G W D a (m.bind k)) : PostR G W σ a m fun x e b => PostS G W D b (k (x, e)) := by
  cases m with
  | ok x => exact fun c s _ => PostS.step s h
  | exc x e => exact fun c cls dd s r q => h c σ cls dd s r q
  | bad => exact h
theorem tE_ofS {m : EM Mi.D} {k : Mi.D × EnvD → Res (FlowD × EnvD)} {R : VK} (rel : RelE G a σ env) (h : PostS G W D a ((m env).bind k))
    (hq : ∀ x e b v, Step a b → RelE G b σ e → Rep G.C b 0 [] v x → PostS G W D b (k (x, e)) → R v b.H) : tE G W m σ a.H R :=
  ⟨a, env, rfl, rel, h.ahead.imp fun x e b s r p v q => hq x e b v s r q p⟩
theorem tArg_ofS {m : EM Arg} {k : Arg × EnvD → Res (FlowD × EnvD)} {R : VK} (rel : RelE G a σ env) (h : PostS G W D a ((m env).bind k))
    (hq : ∀ x e b v, Step a b → RelE G b σ e → ArgRep G.C b σ x v → PostS G W D b (k (x, e)) → R v b.H) : tArg G W m σ a.H R :=
  ⟨a, env, rfl, rel, h.ahead.imp fun x e b s r p v q => hq x e b v s r q p⟩
theorem tArgs_ofS {m : EM (List Arg)} {k : List Arg × EnvD → Res (FlowD × EnvD)} {R : List V → Hp → Prop} (rel : RelE G a σ env) (h : PostS G W D a ((m env).bind k))
    (hq : ∀ x e b v, Step a b → RelE G b σ e → Paired (ArgRep G.C b σ) x v → PostS G W D b (k (x, e)) → R v b.H) : tArgs G W m σ a.H R :=
  ⟨a, env, rfl, rel, h.ahead.imp fun x e b s r p v q => hq x e b v s r q p⟩
theorem tT_ofS {m : EM Bool} {k : Bool × EnvD → Res (FlowD × EnvD)} {R : Bool → Hp → Prop} (rel : RelE G a σ env) (h : PostS G W D a ((m env).bind k))
    (hq : ∀ x e b, Step a b → RelE G b σ e → PostS G W D b (k (x, e)) → R x b.H) : tT G W m σ a.H R :=
  ⟨a, env, rfl, rel, h.ahead.imp fun x e b s r p => hq x e b s r p⟩
end
/- frozen data put into a slot -/
theorem RelE.setz {G : Gm} {a : Wd} {σ : L2.St} {env : EnvD} (r : RelE G a σ env) {i : Nat} {d : D} {v : V} {s : Nat} {p : List Nat} (hi : i ∉ G.io) (z : fz d = true) (h : Rep G.C a s p v d) : RelE G a (σ.set i (some v)) (env.set i (some d)) := by
  refine ⟨r.ok, by rw [List.length_set, List.length_set]; exact r.len, fun j e hj => ?_, fun j hj w hw => ?_⟩
  · by_cases ij : i = j
    · subst ij
      have hi : i < env.length := by
        by_cases q : i < env.length
        · exact q
        · rw [List.getElem?_eq_none (by rw [List.length_set]; omega)] at hj; cases hj
      rw [List.getElem?_set_self hi] at hj
      cases hj
      exact ⟨v, List.getElem?_set_self (by rw [← r.len]; exact hi), h.step r.ok (Step.refl a) z⟩
    · rw [List.getElem?_set_ne ij] at hj
      obtain ⟨v', e', q⟩ := r.slot j e hj
      exact ⟨v', by rw [List.getElem?_set_ne ij]; exact e', q⟩
  · have ne : i ≠ j := by rintro rfl; exact hi hj
    rw [List.getElem?_set_ne ne]
    exact r.prm j hj w hw
/- a temp put into a slot -/
theorem RelE.sett {G : Gm} {a : Wd} {σ : L2.St} {env : EnvD} (r : RelE G a σ env) {i : Nat} {d : D} {v : V} (hi : i ∉ G.io) (h : Rep G.C a 0 [] v d) : RelE G (mvW a 0 (i + 1)) (σ.set i (some v)) (env.set i (some d)) := by
  refine ⟨mvW_ok r.ok, by rw [List.length_set, List.length_set]; exact r.len, fun j e hj => ?_, fun j hj w hw => ?_⟩
  · by_cases ij : i = j
    · subst ij
      have hi : i < env.length := by
        by_cases q : i < env.length
        · exact q
        · rw [List.getElem?_eq_none (by rw [List.length_set]; omega)] at hj; cases hj
      rw [List.getElem?_set_self hi] at hj
      cases hj
      exact ⟨v, List.getElem?_set_self (by rw [← r.len]; exact hi), mvW_rep h⟩
    · rw [List.getElem?_set_ne ij] at hj
      obtain ⟨v', e', q⟩ := r.slot j e hj
      exact ⟨v', by rw [List.getElem?_set_ne ij]; exact e', mvW_else (Nat.succ_ne_zero j) q⟩
  · have ne : i ≠ j := by rintro rfl; exact hi hj
    rw [List.getElem?_set_ne ne]
    exact r.prm j hj w hw

/-! ### targets -/
inductive Tgt where
  | nm (i : Nat) | tp (ts : List Tgt)
mutual
def mTg : Tgt → D → EnvD → Option EnvD
  | .nm i, d, e => some (e.set i (some d))
  | .tp ts, .tup l, e => mTgs ts l e
  | .tp _, _, _ => none
def mTgs : List Tgt → List D → EnvD → Option EnvD
  | [], [], e => some e
  | t :: ts, d :: ds, e => match mTg t d e with
    | some e1 => mTgs ts ds e1
    | none => none
  | _, _, _ => none
end
mutual
def Tgt.off (io : List Nat) : Tgt → Prop
  | .nm i => i ∉ io
  | .tp ts => Tgt.offs io ts
def Tgt.offs (io : List Nat) : List Tgt → Prop
  | [] => True
  | t :: ts => Tgt.off io t ∧ Tgt.offs io ts
end
mutual
def gT (K : PySem.W.Frag) : Tgt → TG
  | .nm i => gName i
  | .tp ts => gTup K ts.length (gTs K ts)
def gTs (K : PySem.W.Frag) : List Tgt → TGs
  | [] => gNil
  | t :: ts => gCons (gT K t) (gTs K ts)
end
mutual
theorem tg_w {G : Gm} {a : Wd} : ∀ (t : Tgt) {σ : L2.St} {env env' : EnvD} {d : D} {v : V} {s : Nat} {p : List Nat} {Q : L2.St → Hp → Prop}, Tgt.off G.io t → RelE G a σ env → fz d = true → Rep G.C a s p v d → mTg t d env = some env' →
    (∀ σ', RelE G a σ' env' → Q σ' a.H) → gT G.C.K t v σ a.H Q
  | .nm i, σ, env, env', d, v, s, p, Q, hf, rel, z, h, e, q => by
    simp only [mTg] at e
    cases e
    simp only [gT]
    simp only [Tgt.off] at hf
    exact q _ (rel.setz hf z h)
  | .tp ts, σ, env, env', d, v, s, p, Q, hf, rel, z, h, e, q => by
    cases d <;> simp only [mTg] at e <;> (try (cases e; done))
    case tup l =>
      obtain ⟨x, vs, rfl, h1, h2⟩ := rep_tup rel.ok h
      simp only [gT]
      have z : fzL l = true := by simpa [fz] using z
      simp only [Tgt.off] at hf
      refine ⟨x, vs, rfl, h1, ?_, tgs_w ts hf rel z h2 e q⟩
      rw [h2.len]; exact (tgs_len ts l env env' e).symm
theorem tgs_w {G : Gm} {a : Wd} : ∀ (ts : List Tgt) {σ : L2.St} {env env' : EnvD} {l : List D} {vs : List V} {s n : Nat} {p : List Nat} {Q : L2.St → Hp → Prop}, Tgt.offs G.io ts → RelE G a σ env → fzL l = true → RepL G.C a s p n vs l → mTgs ts l env = some env' →
    (∀ σ', RelE G a σ' env' → Q σ' a.H) → gTs G.C.K ts vs σ a.H Q
  | [], σ, env, env', l, vs, s, n, p, Q, hf, rel, z, h, e, q => by
    cases l with
    | nil =>
      simp only [mTgs] at e
      cases e
      simp only [RepL] at h
      simp only [gTs]
      exact ⟨h, q σ rel⟩
    | cons d l => simp [mTgs] at e
  | t :: ts, σ, env, env', l, vs, s, n, p, Q, hf, rel, z, h, e, q => by
    cases l with
    | nil => simp [mTgs] at e
    | cons d l =>
      simp only [mTgs] at e
      simp only [fzL, Bool.and_eq_true] at z
      simp only [RepL] at h
      simp only [Tgt.offs] at hf
      obtain ⟨v, us, rfl, h1, h2⟩ := h
      cases e1 : mTg t d env with
      | none => rw [e1] at e; cases e
      | some e2 =>
        rw [e1] at e
        simp only [gTs]
        exact ⟨v, us, rfl, tg_w t hf.1 rel z.1 h1 e1 fun σ' rel' => tgs_w ts hf.2 rel' z.2 h2 e q⟩
theorem tgs_len : ∀ (ts : List Tgt) (l : List D) (e e' : EnvD), mTgs ts l e = some e' → ts.length = l.length
  | [], [], _, _, _ => rfl
  | [], _ :: _, _, _, h => by simp [mTgs] at h
  | _ :: _, [], _, _, h => by simp [mTgs] at h
  | t :: ts, d :: l, e, e', h => by
    simp only [mTgs] at h
    cases e1 : mTg t d e with
    | none => rw [e1] at h; cases h
    | some e2 => rw [e1] at h; rw [List.length_cons, List.length_cons, tgs_len ts l e2 e' h]
end

/-! ### what is walked -/
/- turn by turn the items ds -/
def ItRep (C : KM) (a : Wd) (ds : List D) (J : It) : Prop := ∀ c, Ok c → Step a c → (∀ i d, ds[i]? = some d → J.go i c.H ∧ ∀ x H', J.yld i c.H x H' → ∃ c', c'.H = H' ∧ Grow c c' ∧ Ok c' ∧ Rep C c' 0 [] x d) ∧ J.stop ds.length c.H
section
variable (G : Gm) (W : WX)
def tI (m : EM (List D)) : TI := fun σ H R => ∃ a env, a.H = H ∧ RelE G a σ env ∧ PostR G W σ a (m env) fun ds _ b => fzL ds = true ∧ ∀ J, ItRep G.C b ds J → R J b.H
end
theorem PI.weak {X : Cx} {tg e : Expr} {t u : TI} (h : PI X tg e t) (w : ∀ σ H R, u σ H R → t σ H R) : PI X tg e u := ⟨fun pins s σ H R I q => h.run pins s σ H R I (w σ H R q)⟩
/- range(..), of its bounds -/
def rngD (lo : Int) (n : Nat) : List D := (List.range n).map fun (i : Nat) => .int (lo + (i : Int))
def mIt (ma : EM (List Arg)) (f : List D → Option (List D)) : EM (List D) := fun env => (ma env).bind fun (xs, e) => match Arg.gets e xs with
  | some ds => match f ds with
    | some l => .ok (l, e)
    | none => .bad
  | none => .bad
def rng1 : List D → Option (List D)
  | [.int n] => if n < 2 ^ 62 ∧ -(2 ^ 62) ≤ n then some (rngD 0 n.toNat) else none
  | _ => none
def rng2 : List D → Option (List D)
  | [.int i, .int j] => if -(2 ^ 62) ≤ i ∧ i < 2 ^ 62 ∧ -(2 ^ 62) ≤ j ∧ j < 2 ^ 62 then some (rngD i (j - i).toNat) else none
  | _ => none
/- a list, a tuple, a text, frozen -/
def seqI : List D → Option (List D)
  | [.lst false l] => if fzL l then some l else none
  | [.tup l] => if fzL l then some l else none
  | [.scr l] => some (l.map .int)
  | [.str s] => some (s.cps.toList.map fun c => .str ⟨#[c]⟩)
  | _ => none
theorem fzL_map {α : Type} (f : α → D) (h : ∀ x, fz (f x) = true) (l : List α) : fzL (l.map f) = true := fzL_all fun d hd => by
  obtain ⟨x, _, rfl⟩ := List.mem_map.mp hd
  exact h x
theorem it_rng {C : KM} {a : Wd} (lo : Int) (n : Nat) : ItRep C a (rngD lo n) (Itr lo n) := fun c ok st => by
  refine ⟨fun i d e => ?_, by simp [rngD, Itr]⟩
  have hi : i < n := by have := (List.getElem?_eq_some_iff.mp e).1; simpa [rngD] using this
  refine ⟨hi, fun x H' y => ?_⟩
  obtain ⟨rfl, rfl⟩ := y
  have e2 : d = .int (lo + (i : Int)) := by
    rw [rngD, List.getElem?_map, List.getElem?_range hi] at e
    exact (Option.some.inj e).symm
  subst e2
  exact ⟨c, rfl, Grow.refl c, ok, by simp [Rep]⟩
theorem it_lst {C : KM} {a : Wd} {l : List D} {x : Addr} {vs : List V} {r n : Nat} {p : List Nat} (k : Ok a) (z : fzL l = true) (hx : a.F x = some (.lst vs)) (h : RepL C a r p n vs l) : ItRep C a l (Itl C.K x) := fun c ok st => by
  have hc : SqL C.K c.H x vs := SqL.of (ok.sub _ _ (st.f k hx))
  refine ⟨fun i d e => ?_, ⟨vs, hc, by rw [h.len]; exact Nat.le_refl _⟩⟩
  obtain ⟨v, h1, h2⟩ := h.get e
  refine ⟨⟨vs, v, hc, h1⟩, fun y H' q => ?_⟩
  obtain ⟨rfl, q⟩ := q
  have e2 := q vs hc
  rw [h1] at e2; cases e2
  exact ⟨c, rfl, Grow.refl c, ok, h2.step k st (fzL_mem z d (List.mem_of_getElem? e))⟩
theorem it_scr {C : KM} {a : Wd} {l : List Int} {x : Addr} (k : Ok a) (hx : SqL C.K a.F x (l.map V.int)) : ItRep C a (l.map .int) (Itl C.K x) := fun c ok st => by
  have hc : SqL C.K c.H x (l.map V.int) := sql_mono (fun y o h => ok.sub _ _ (st.f k h)) hx
  refine ⟨fun i d e => ?_, ⟨_, hc, by simp⟩⟩
  rw [List.getElem?_map] at e
  cases h1 : l[i]? with
  | none => rw [h1] at e; cases e
  | some z =>
    rw [h1] at e; cases e
    have h2 : (l.map V.int)[i]? = some (.int z) := by rw [List.getElem?_map, h1]; rfl
    refine ⟨⟨_, _, hc, h2⟩, fun y H' q => ?_⟩
    obtain ⟨rfl, q⟩ := q
    have e2 := q _ hc
    rw [h2] at e2; cases e2
    exact ⟨c, rfl, Grow.refl c, ok, by simp [Rep]⟩
theorem it_tup {C : KM} {a : Wd} {l : List D} {x : Addr} {vs : List V} {r n : Nat} {p : List Nat} (k : Ok a) (z : fzL l = true) (hx : SqT C.K a.F x vs) (h : RepL C a r p n vs l) : ItRep C a l (Itt C.K x) := fun c ok st => by
  have hc : SqT C.K c.H x vs := sqt_mono (fun y o h => ok.sub _ _ (st.f k h)) hx
  refine ⟨fun i d e => ?_, ⟨vs, hc, by rw [h.len]; exact Nat.le_refl _⟩⟩
  obtain ⟨v, h1, h2⟩ := h.get e
  refine ⟨⟨vs, v, hc, h1⟩, fun y H' q => ?_⟩
  obtain ⟨rfl, q⟩ := q
  have e2 := q vs hc
  rw [h1] at e2; cases e2
  exact ⟨c, rfl, Grow.refl c, ok, h2.step k st (fzL_mem z d (List.mem_of_getElem? e))⟩
theorem it_str {C : KM} {a : Wd} (s : Str) : ItRep C a (s.cps.toList.map fun c => .str ⟨#[c]⟩) (Its s) := fun c ok st => by
  refine ⟨fun i d e => ?_, by simp [Its]⟩
  rw [List.getElem?_map] at e
  cases h1 : s.cps.toList[i]? with
  | none => rw [h1] at e; cases e
  | some z =>
    rw [h1] at e; cases e
    have h2 : s.cps[i]? = some z := by simpa using h1
    refine ⟨(Array.getElem?_eq_some_iff.mp h2).1, fun y H' q => ?_⟩
    obtain ⟨rfl, c', q, rfl⟩ := q
    rw [h2] at q; cases q
    exact ⟨c, rfl, Grow.refl c, ok, by simp [Rep]⟩
section
variable {G : Gm} {W : WX} {σ : L2.St} {H : Hp} {R : It → Hp → Prop} {ma : EM (List Arg)}
theorem it_of {f : List D → Option (List D)} {S : List V → Hp → Prop} (h : tI G W (mIt ma f) σ H R)
    (hq : ∀ b ds vs l, Ok b → Paired (fun d v => ∃ r, Rep G.C b r [] v d) ds vs → f ds = some l → (∀ J, ItRep G.C b l J → R J b.H) → S vs b.H) : tArgs G W ma σ H S := by
  obtain ⟨a, env, rfl, rel, post⟩ := h
  refine ⟨a, env, rfl, rel, post.bind.imp fun xs e b s r p vs q => ?_⟩
  dsimp only at p
  cases hx : Arg.gets e xs with
  | none => rw [hx] at p; exact (show False from p).elim
  | some ds =>
    rw [hx] at p
    dsimp only at p
    cases hf : f ds with
    | none => rw [hf] at p; exact (show False from p).elim
    | some l =>
      rw [hf] at p
      exact hq b ds vs l r.ok (gets_rep r q hx) hf (p b (Step.refl b) r).2
theorem rng1_w (h : tI G W (mIt ma rng1) σ H R) : iRng1 (tArgs G W ma) σ H R := it_of h fun b ds vs l ok ps hf q => by
  match ds, hf with
  | [.int n], hf =>
    obtain ⟨v, rfl, r1, p1⟩ := one_rep ps
    cases rep_int p1
    simp only [rng1] at hf
    split at hf
    · rename_i hz; cases hf
      exact ⟨n, rfl, hz.2, hz.1, q _ (it_rng 0 n.toNat)⟩
    · cases hf
theorem rng2_w (h : tI G W (mIt ma rng2) σ H R) : iRng2 (tArgs G W ma) σ H R := it_of h fun b ds vs l ok ps hf q => by
  match ds, hf with
  | [.int n, .int m], hf =>
    obtain ⟨v, w, rfl, ⟨r1, p1⟩, ⟨r2, p2⟩⟩ := two_rep ps
    cases rep_int p1; cases rep_int p2
    simp only [rng2] at hf
    split at hf
    · rename_i hz; cases hf
      exact ⟨n, m, rfl, hz, q _ (it_rng n (m - n).toNat)⟩
    · cases hf
end
/- one value walked: list, tuple, text -/
def mIt1 (ma : EM Arg) : EM (List D) := fun env => (ma env).bind fun (x, e) => match x.get e with
  | some d => match seqI [d] with
    | some l => .ok (l, e)
    | none => .bad
  | none => .bad
theorem pi_or {X : Cx} {tg e : Expr} {t u : TI} (h : PI X tg e t) (g : PI X tg e u) : PI X tg e (fun σ H R => t σ H R ∨ u σ H R) := ⟨fun pins s σ H R I q => by
  rcases q with q | q
  · exact h.run pins s σ H R I q
  · exact g.run pins s σ H R I q⟩
theorem pe_or2 {X : Cx} {e : Expr} {t u : TE} (h : PE X e t) (g : PE X e u) : PE X e (fun σ H R => t σ H R ∨ u σ H R) := ⟨fun pins s σ H R I q => by
  rcases q with q | q
  · exact h.run pins s σ H R I q
  · exact g.run pins s σ H R I q⟩
theorem it1_w {G : Gm} {W : WX} {σ : L2.St} {H : Hp} {R : It → Hp → Prop} {ma : EM Arg} (h : tI G W (mIt1 ma) σ H R) :
    iList G.C.K (tArg G W ma) σ H R ∨ (iTup G.C.K (tArg G W ma) σ H R ∨ iStr (tArg G W ma) σ H R) := by
  obtain ⟨a, env, rfl, rel, post⟩ := h
  cases hm : ma env with
  | bad => unfold mIt1 at post; rw [hm] at post; exact (show False from post).elim
  | exc x e =>
    refine .inl ⟨a, env, rfl, rel, ?_⟩
    rw [hm]
    have post' := post
    unfold mIt1 at post'
    rw [hm] at post'
    exact post'
  | ok xe =>
    obtain ⟨x, e⟩ := xe
    have post' := post
    unfold mIt1 at post'
    rw [hm] at post'
    dsimp only [Res.bind] at post'
    cases hx : x.get e with
    | none => rw [hx] at post'; exact (show False from post').elim
    | some d =>
      rw [hx] at post'
      dsimp only at post'
      have mk : ∀ {S : VK}, (∀ b v, Step a b → RelE G b σ e → ArgRep G.C b σ x v → S v b.H) → tArg G W ma σ a.H S := fun {S} q => ⟨a, env, rfl, rel, by rw [hm]; exact fun b s r v ar => q b v s r ar⟩
      cases d <;> simp only [seqI] at post' <;> (try exact (show False from post').elim)
      case str z =>
        refine .inr (.inr (mk fun b v s r ar => ?_))
        obtain ⟨r1, p1⟩ := ar.rep r hx
        cases rep_str p1
        exact ⟨z, rfl, (post' b s r).2 _ (it_str z)⟩
      case scr l =>
        refine .inl (mk fun b v s r ar => ?_)
        obtain ⟨r1, p1⟩ := ar.rep r hx
        have p1' := p1
        simp only [Rep] at p1'
        obtain ⟨y, rfl, hy⟩ := p1'
        exact ⟨y, rfl, ⟨_, sql_mono r.ok.sub hy⟩, (post' b s r).2 _ (it_scr r.ok hy)⟩
      case tup l =>
        split at post'
        · rename_i z hz
          split at hz
          · rename_i fl; cases hz
            refine .inr (.inl (mk fun b v s r ar => ?_))
            obtain ⟨r1, p1⟩ := ar.rep r hx
            have p1' := p1
            simp only [Rep] at p1'
            obtain ⟨y, vs, rfl, hy, hl⟩ := p1'
            exact ⟨y, rfl, ⟨_, sqt_mono r.ok.sub hy.sq⟩, (post' b s r).2 _ (it_tup r.ok fl hy.sq hl)⟩
          · cases hz
        · exact (show False from post').elim
      case lst o l =>
        cases o with
        | true => simp only [seqI] at post'; exact (show False from post').elim
        | false =>
          simp only [seqI] at post'
          split at post'
          · rename_i z hz
            split at hz
            · rename_i fl; cases hz
              refine .inl (mk fun b v s r ar => ?_)
              obtain ⟨r1, p1⟩ := ar.rep r hx
              have p1' := p1
              simp only [Rep] at p1'
              obtain ⟨y, vs, rfl, hy, hl⟩ := p1'
              rw [if_neg Bool.false_ne_true] at hy
              exact ⟨y, rfl, ⟨_, SqL.of (r.ok.sub _ _ hy.1)⟩, (post' b s r).2 _ (it_lst r.ok fl hy.1 hl)⟩
            · cases hz
          · exact (show False from post').elim
end Mi
namespace Mi
open PySem PySem.Spec PyProof.Rows L2

/-! ### displays -/
theorem paired_repL {C : KM} {a : Wd} : ∀ {ds : List D} {vs : List V} {n : Nat}, fzL ds = true → Paired (fun d v => ∃ r, Rep C a r [] v d) ds vs → RepL C a 0 [] n vs ds
  | _, _, n, _, .nil => by simp [RepL]
  | d :: ds, v :: vs, n, z, .cons h t => by
    simp only [fzL, Bool.and_eq_true] at z
    obtain ⟨r, h⟩ := h
    exact ⟨v, vs, rfl, Rep.fz (fun _ _ e => e) d _ _ v z.1 h, paired_repL z.2 t⟩
def mTup (ma : EM (List Arg)) : EM D := fun env => (ma env).bind fun (xs, e) => match Arg.gets e xs with
  | some ds => if fzL ds = true ∧ ds.length ≤ 1000 then .ok (.tup ds, e) else .bad
  | none => .bad
def mLst (ma : EM (List Arg)) : EM D := fun env => (ma env).bind fun (xs, e) => match Arg.gets e xs with
  | some ds => if fzL ds = true ∧ ds.length ≤ 1000 then .ok (.lst true ds, e) else .bad
  | none => .bad
theorem sz1000 {n : Nat} (h : n ≤ 1000) : n ≤ sizeLine := Nat.le_of_lt (small1000 h)
theorem plen {α β : Type} {P : α → β → Prop} : ∀ {l : List α} {m : List β}, Paired P l m → l.length = m.length
  | _, _, .nil => rfl
  | _, _, .cons _ t => by rw [List.length_cons, List.length_cons, plen t]
section
variable {G : Gm} {W : WX} {σ : L2.St} {H : Hp} {Q : VK} {ma : EM (List Arg)}
theorem tup_w (h : tE G W (mTup ma) σ H Q) : tTupX (tArgs G W ma) σ H Q := by
  obtain ⟨a, env, rfl, rel, post⟩ := h
  refine tArgs_of rel post fun xs e b vs s r ps p => ?_
  dsimp only at p
  cases hx : Arg.gets e xs with
  | none => rw [hx] at p; exact (show False from p).elim
  | some ds =>
    rw [hx] at p
    dsimp only at p
    split at p
    · rename_i z
      have g := gets_rep r ps hx
      refine ⟨by rw [← plen g]; exact sz1000 z.2, new_tup r.ok z.1 (paired_repL (n := 0) z.1 g) fun y c gr ok rp => p c gr.step (r.grow gr ok) y rp⟩
    · exact (show False from p).elim
theorem lst_w (h : tE G W (mLst ma) σ H Q) : tLst (tArgs G W ma) σ H Q := by
  obtain ⟨a, env, rfl, rel, post⟩ := h
  refine tArgs_of rel post fun xs e b vs s r ps p => ?_
  dsimp only at p
  cases hx : Arg.gets e xs with
  | none => rw [hx] at p; exact (show False from p).elim
  | some ds =>
    rw [hx] at p
    dsimp only at p
    split at p
    · rename_i z
      have g := gets_rep r ps hx
      refine ⟨by rw [← plen g]; exact sz1000 z.2, new_lst r.ok z.1 (paired_repL (n := 0) z.1 g) fun y c gr ok rp => p c gr.step (r.grow gr ok) y rp⟩
    · exact (show False from p).elim
/- {} -/
def mDic0 : EM D := fun env => .ok (.dic true [] [], env)
theorem dic0_w (h : tE G W mDic0 σ H Q) : tDNewK σ H Q := by
  obtain ⟨a, env, rfl, rel, post⟩ := h
  exact new_dic (kvs := []) rel.ok rfl rfl (r := 0) (p := []) (by simp [RepL]) (by simp [RepL]) fun y c gr ok rp => post c gr.step (rel.grow gr ok) y rp
end

/-! ### calls of defs -/
def OutRep (C : KM) (b : Wd) (vs : List V) (outs : EnvD) : Prop := ∀ i d, outs[i]? = some (some d) → ∃ v, vs[i]? = some v ∧ Rep C b (i + 1) [] v d
def spD (C : KM) (g : List D → Res (D × EnvD)) : Sp := fun vs H Q E => ∃ (a : Wd) (ds : List D), a.H = H ∧ Ok a ∧ ds.length = vs.length ∧ (∀ i d, ds[i]? = some d → ∃ v, vs[i]? = some v ∧ Rep C a (i + 1) [] v d) ∧
  match g ds with
  | .ok (d, outs) => ∀ b v, Step a b → Ok b → OutRep C b vs outs → Rep C b 0 [] v d → Q v b.H
  | .exc x outs => ∀ b cls dd, Step a b → Ok b → OutRep C b vs outs → ExcRep C b x cls dd → E cls dd b.H
  | .bad => False
def findP : List Arg → List D → Nat → Nat → Option Nat
  | .var i :: xs, d :: ds, s, k => if i + 1 = s ∧ fz d = false then some (k + 1) else findP xs ds s (k + 1)
  | .val _ :: xs, _ :: ds, s, k => findP xs ds s (k + 1)
  | _, _, _, _ => none
def ownVars : List Arg → List D → List Nat
  | .var i :: xs, d :: ds => if fz d = false then i :: ownVars xs ds else ownVars xs ds
  | .val _ :: xs, _ :: ds => ownVars xs ds
  | _, _ => []
def backP (xs : List Arg) (ds : List D) (k : Nat) : Option Nat := match xs[k]?, ds[k]? with
  | some (.var i), some d => if fz d = false then some (i + 1) else none
  | _, _ => none
def putBack : List Arg → List D → EnvD → EnvD → EnvD
  | .var i :: xs, d :: ds, outs, env => if fz d = true then putBack xs ds outs.tail env else putBack xs ds outs.tail (env.set i (outs.headD none))
  | .val _ :: xs, _ :: ds, outs, env => putBack xs ds outs.tail env
  | _, _, _, env => env
def mCallR (g : List D → Res (D × EnvD)) (xs : List Arg) (e : EnvD) : Res (D × EnvD) := match Arg.gets e xs with
  | none => .bad
  | some ds => if (ownVars xs ds).Nodup then
      match g ds with
      | .ok (d, outs) => .ok (d, putBack xs ds outs e)
      | .exc x outs => .exc x (putBack xs ds outs e)
      | .bad => .bad
    else .bad
def mCall (g : List D → Res (D × EnvD)) (ma : EM (List Arg)) : EM D := fun env => (ma env).bind fun (xs, e) => mCallR g xs e
theorem findP_some : ∀ {xs : List Arg} {ds : List D} {s k m : Nat}, findP xs ds s k = some m → ∃ j i d, m = k + j + 1 ∧ xs[j]? = some (.var i) ∧ ds[j]? = some d ∧ fz d = false ∧ s = i + 1
  | .var i :: xs, d :: ds, s, k, m, h => by
    simp only [findP] at h
    split at h
    · rename_i z; cases h
      exact ⟨0, i, d, rfl, rfl, rfl, z.2, z.1.symm⟩
    · obtain ⟨j, i', d', h1, h2, h3, h4, h5⟩ := findP_some h
      exact ⟨j + 1, i', d', by omega, by simpa using h2, by simpa using h3, h4, h5⟩
  | .val _ :: xs, _ :: ds, s, k, m, h => by
    simp only [findP] at h
    obtain ⟨j, i', d', h1, h2, h3, h4, h5⟩ := findP_some h
    exact ⟨j + 1, i', d', by omega, by simpa using h2, by simpa using h3, h4, h5⟩
  | [], _, s, k, m, h => by simp [findP] at h
  | .var _ :: _, [], s, k, m, h => by simp [findP] at h
  | .val _ :: _, [], s, k, m, h => by simp [findP] at h
theorem ownVars_mem : ∀ {xs : List Arg} {ds : List D} {j i : Nat} {d : D}, xs[j]? = some (.var i) → ds[j]? = some d → fz d = false → i ∈ ownVars xs ds
  | x :: xs, e :: ds, 0, i, d, h1, h2, h3 => by
    simp at h1 h2; subst h1 h2
    simp [ownVars, h3]
  | .var i' :: xs, e :: ds, j + 1, i, d, h1, h2, h3 => by
    simp only [ownVars]
    have ih := ownVars_mem (xs := xs) (ds := ds) (j := j) (by simpa using h1) (by simpa using h2) h3
    split
    · exact List.mem_cons_of_mem _ ih
    · exact ih
  | .val _ :: xs, e :: ds, j + 1, i, d, h1, h2, h3 => by
    simp only [ownVars]
    exact ownVars_mem (xs := xs) (ds := ds) (j := j) (by simpa using h1) (by simpa using h2) h3
  | [], _, j, i, d, h1, h2, h3 => by simp at h1
  | _ :: _, [], j, i, d, h1, h2, h3 => by simp at h2
theorem findP_at : ∀ {xs : List Arg} {ds : List D} {j i k : Nat} {d : D}, (ownVars xs ds).Nodup → xs[j]? = some (.var i) → ds[j]? = some d → fz d = false → findP xs ds (i + 1) k = some (k + j + 1)
  | .var i' :: xs, e :: ds, 0, i, k, d, nd, h1, h2, h3 => by
    simp at h1 h2; subst h1 h2
    simp [findP, h3]
  | .val _ :: xs, e :: ds, 0, i, k, d, nd, h1, h2, h3 => by simp at h1
  | .var i' :: xs, e :: ds, j + 1, i, k, d, nd, h1, h2, h3 => by
    simp only [findP]
    have h1 : xs[j]? = some (.var i) := by simpa using h1
    have h2 : ds[j]? = some d := by simpa using h2
    have hm := ownVars_mem h1 h2 h3
    rw [if_neg (fun z => by
      have e1 : i' = i := Nat.succ.inj z.1
      subst e1
      simp only [ownVars, if_pos z.2] at nd
      exact (List.nodup_cons.mp nd).1 hm)]
    have nd' : (ownVars xs ds).Nodup := by
      simp only [ownVars] at nd
      split at nd
      · exact (List.nodup_cons.mp nd).2
      · exact nd
    rw [findP_at (k := k + 1) nd' h1 h2 h3]
    congr 1; omega
  | .val _ :: xs, e :: ds, j + 1, i, k, d, nd, h1, h2, h3 => by
    simp only [findP]
    simp only [ownVars] at nd
    rw [findP_at (k := k + 1) nd (by simpa using h1) (by simpa using h2) h3]
    congr 1; omega
  | [], _, j, i, k, d, nd, h1, h2, h3 => by simp at h1
  | _ :: _, [], j, i, k, d, nd, h1, h2, h3 => by simp at h2
theorem putBack_len : ∀ (xs : List Arg) (ds : List D) (outs env : EnvD), (putBack xs ds outs env).length = env.length
  | .var i :: xs, d :: ds, outs, env => by
    simp only [putBack]
    split
    · exact putBack_len xs ds _ env
    · rw [putBack_len xs ds _ _, List.length_set]
  | .val _ :: xs, _ :: ds, outs, env => by simp only [putBack]; exact putBack_len xs ds _ env
  | [], _, outs, env => by simp [putBack]
  | .var _ :: _, [], outs, env => by simp [putBack]
  | .val _ :: _, [], outs, env => by simp [putBack]
theorem putBack_at : ∀ {xs : List Arg} {ds : List D} {outs env : EnvD} {j : Nat} {d' : D}, (putBack xs ds outs env)[j]? = some (some d') →
    (∃ (k : Nat) (d : D), xs[k]? = some (.var j) ∧ ds[k]? = some d ∧ fz d = false ∧ outs[k]? = some (some d')) ∨ (env[j]? = some (some d') ∧ ∀ (k : Nat) (d : D), xs[k]? = some (.var j) → ds[k]? = some d → fz d = true)
  | .var i :: xs, d :: ds, outs, env, j, d', h => by
    simp only [putBack] at h
    split at h
    · rename_i z
      rcases putBack_at h with ⟨k, e, h1, h2, h3, h4⟩ | ⟨h1, h2⟩
      · refine .inl ⟨k + 1, e, by simpa using h1, by simpa using h2, h3, ?_⟩
        cases outs with
        | nil => simp at h4
        | cons o outs => simpa using h4
      · refine .inr ⟨h1, fun k e g1 g2 => ?_⟩
        cases k with
        | zero => simp at g2; subst g2; exact z
        | succ k => exact h2 k e (by simpa using g1) (by simpa using g2)
    · rename_i z
      rcases putBack_at h with ⟨k, e, h1, h2, h3, h4⟩ | ⟨h1, h2⟩
      · refine .inl ⟨k + 1, e, by simpa using h1, by simpa using h2, h3, ?_⟩
        cases outs with
        | nil => simp at h4
        | cons o outs => simpa using h4
      · by_cases ij : i = j
        · subst ij
          by_cases hl : i < env.length
          · rw [List.getElem?_set_self hl] at h1
            refine .inl ⟨0, d, rfl, rfl, by simpa using z, ?_⟩
            cases outs with
            | nil => simp at h1
            | cons o outs => simpa using h1
          · rw [List.getElem?_eq_none (by rw [List.length_set]; omega)] at h1; cases h1
        · rw [List.getElem?_set_ne ij] at h1
          refine .inr ⟨h1, fun k e g1 g2 => ?_⟩
          cases k with
          | zero => simp at g1; exact absurd g1 ij
          | succ k => exact h2 k e (by simpa using g1) (by simpa using g2)
  | .val _ :: xs, d :: ds, outs, env, j, d', h => by
    simp only [putBack] at h
    rcases putBack_at h with ⟨k, e, h1, h2, h3, h4⟩ | ⟨h1, h2⟩
    · refine .inl ⟨k + 1, e, by simpa using h1, by simpa using h2, h3, ?_⟩
      cases outs with
      | nil => simp at h4
      | cons o outs => simpa using h4
    · refine .inr ⟨h1, fun k e g1 g2 => ?_⟩
      cases k with
      | zero => simp at g1
      | succ k => exact h2 k e (by simpa using g1) (by simpa using g2)
  | [], _, outs, env, j, d', h => .inr ⟨by simpa [putBack] using h, fun k e g1 g2 => by simp at g1⟩
  | .var _ :: _, [], outs, env, j, d', h => .inr ⟨by simpa [putBack] using h, fun k e g1 g2 => by simp at g2⟩
  | .val _ :: _, [], outs, env, j, d', h => .inr ⟨by simpa [putBack] using h, fun k e g1 g2 => by simp at g2⟩
theorem gets_at {env : EnvD} : ∀ {xs : List Arg} {ds : List D} {j : Nat} {d : D}, Arg.gets env xs = some ds → ds[j]? = some d → ∃ x, xs[j]? = some x ∧ x.get env = some d
  | [], ds, j, d, h, e => by cases h; simp at e
  | x :: xs, ds, j, d, h, e => by
    simp only [Arg.gets] at h
    cases hx : x.get env with
    | none => simp [hx] at h
    | some d1 =>
      cases hr : Arg.gets env xs with
      | none => simp [hx, hr] at h
      | some dr =>
        simp [hx, hr] at h
        subst h
        cases j with
        | zero => simp at e; subst e; exact ⟨x, rfl, hx⟩
        | succ j =>
          obtain ⟨y, h1, h2⟩ := gets_at hr (by simpa using e)
          exact ⟨y, by simpa using h1, h2⟩
theorem gets_len {env : EnvD} : ∀ {xs : List Arg} {ds : List D}, Arg.gets env xs = some ds → ds.length = xs.length
  | [], ds, h => by cases h; rfl
  | x :: xs, ds, h => by
    simp only [Arg.gets] at h
    cases hx : x.get env with
    | none => simp [hx] at h
    | some d1 =>
      cases hr : Arg.gets env xs with
      | none => simp [hx, hr] at h
      | some dr =>
        simp [hx, hr] at h
        subst h
        rw [List.length_cons, List.length_cons, gets_len hr]
theorem pat {α β : Type} {P : α → β → Prop} : ∀ {l : List α} {m : List β} {j : Nat} {x : α}, Paired P l m → l[j]? = some x → ∃ y, m[j]? = some y ∧ P x y
  | _, _, j, x, .nil, e => by simp at e
  | _, _, 0, x, .cons h t, e => by simp at e; subst e; exact ⟨_, rfl, h⟩
  | _, _, j + 1, x, .cons h t, e => by
    obtain ⟨y, h1, h2⟩ := pat (j := j) t (by simpa using e)
    exact ⟨y, by simpa using h1, h2⟩
/- the callee's world; the caller's behind it -/
def inT (xs : List Arg) (ds : List D) : Option Tag → Option Tag
  | some (s, q) => (findP xs ds s 0).map fun m => (m, q)
  | none => none
def restT (xs : List Arg) (ds : List D) : Option Tag → Option Tag
  | some (s, q) => match findP xs ds s 0 with
    | some _ => none
    | none => some (s, q)
  | none => none
def outT (xs : List Arg) (ds : List D) (old : Option Tag) : Option Tag → Option Tag
  | some (0, q) => some (0, q)
  | some (k + 1, q) => (backP xs ds k).map fun s => (s, q)
  | none => restT xs ds old
def inW (a : Wd) (xs : List Arg) (ds : List D) : Wd := ⟨a.F, a.H, fun x => inT xs ds (a.t x)⟩
def outW (a b : Wd) (xs : List Arg) (ds : List D) : Wd := ⟨b.F, b.H, fun x => outT xs ds (a.t x) (b.t x)⟩
theorem inW_t {a : Wd} {xs : List Arg} {ds : List D} {x : Addr} : (inW a xs ds).t x = inT xs ds (a.t x) := rfl
theorem outW_t {a b : Wd} {xs : List Arg} {ds : List D} {x : Addr} : (outW a b xs ds).t x = outT xs ds (a.t x) (b.t x) := rfl
section
variable {G : Gm} {a b : Wd} {σ : L2.St} {env : EnvD} {xs : List Arg} {ds : List D} {vs : List V}
theorem inW_ok (k : Ok a) : Ok (inW a xs ds) := by
  refine ⟨k.sub, fun x t h => ?_⟩
  rw [inW_t] at h
  cases e : a.t x with
  | none => rw [e] at h; cases h
  | some tt => exact k.own x _ e
theorem inW_rep (rel : RelE G a σ env) (nd : (ownVars xs ds).Nodup) (ps : Paired (ArgRep G.C a σ) xs vs) (hg : Arg.gets env xs = some ds) : ∀ i d, ds[i]? = some d → ∃ v, vs[i]? = some v ∧ Rep G.C (inW a xs ds) (i + 1) [] v d := fun i d hd => by
  obtain ⟨x, hx, hget⟩ := gets_at hg hd
  obtain ⟨v, hv, ar⟩ := pat ps hx
  refine ⟨v, hv, ?_⟩
  cases z : fz d with
  | true =>
    obtain ⟨r, rp⟩ := ar.rep rel hget
    exact Rep.fz (a := a) (b := inW a xs ds) (fun _ _ e => e) d [] [] v z rp
  | false =>
    cases x with
    | val d' => cases hget; rw [ar.1] at z; cases z
    | var j =>
      have hget : (match env[j]? with | some (some d) => some d | _ => none) = some d := hget
      split at hget
      · rename_i d' q
        cases hget
        obtain ⟨v', h1, rp⟩ := rel.slot j d q
        have ar : σ[j]? = some (some v) := ar
        rw [ar] at h1; cases h1
        have e := findP_at (k := 0) nd hx hd z
        have := Rep.to (C := G.C) (a := a) (b := inW a xs ds) (r := j + 1) (s := i + 1) (p := []) (q := []) (fun _ _ h => h) (fun y z' o h1 h2 => ⟨by
          rw [inW_t, h1]
          show (findP xs ds (j + 1) 0).map _ = _
          rw [e]; simp, h2⟩) d [] v
        exact this rp
      · cases hget
theorem outW_step (st : Step (inW a xs ds) b) (k : Ok b) : Step a (outW a b xs ds) := fun x o h t => by
  have ti : (inW a xs ds).t x = none := by rw [inW_t, t]; rfl
  obtain ⟨h1, h2, h3⟩ := st x o h ti
  refine ⟨h1, ?_, h3⟩
  rw [outW_t, h2, t]; rfl
theorem outW_ok (ka : Ok a) (st : Step (inW a xs ds) b) (k : Ok b) : Ok (outW a b xs ds) := by
  refine ⟨k.sub, fun x t h => ?_⟩
  rw [outW_t] at h
  cases e : b.t x with
  | some tt => exact k.own x tt e
  | none =>
    rw [e] at h
    cases e2 : a.t x with
    | none => rw [e2] at h; cases h
    | some sq =>
      obtain ⟨s, q⟩ := sq
      cases e3 : findP xs ds s 0 with
      | some m => rw [e2] at h; simp [outT, restT, e3] at h
      | none =>
        obtain ⟨f, o, ho⟩ := ka.own x _ e2
        have ti : (inW a xs ds).t x = none := by rw [inW_t, e2]; simp [inT, e3]
        obtain ⟨h1, h2, h3⟩ := st x o ho ti
        exact ⟨h3.trans f, o, h1⟩
theorem outW_rel (rel : RelE G a σ env) (nd : (ownVars xs ds).Nodup) (ps : Paired (ArgRep G.C a σ) xs vs) (hg : Arg.gets env xs = some ds) (st : Step (inW a xs ds) b) (k : Ok b) {outs : EnvD} (ho : OutRep G.C b vs outs) :
    RelE G (outW a b xs ds) σ (putBack xs ds outs env) := by
  refine ⟨outW_ok rel.ok st k, by rw [putBack_len]; exact rel.len, fun j d' hj => ?_, rel.prm⟩
  rcases putBack_at hj with ⟨i, d, h1, h2, h3, h4⟩ | ⟨h1, h2⟩
  · obtain ⟨v, hv, rp⟩ := ho i d' h4
    obtain ⟨v', hv', ar⟩ := pat ps h1
    rw [hv] at hv'; cases hv'
    refine ⟨v, ar, ?_⟩
    have hb : backP xs ds i = some (j + 1) := by unfold backP; rw [h1, h2]; simp [h3]
    have := Rep.to (C := G.C) (a := b) (b := outW a b xs ds) (r := i + 1) (s := j + 1) (p := []) (q := []) (fun _ _ h => h) (fun y z' o g1 g2 => ⟨by
      rw [outW_t, g1]
      show (backP xs ds i).map _ = _
      rw [hb]; rfl, g2⟩) d' [] v
    exact this rp
  · obtain ⟨v, hv, rp⟩ := rel.slot j d' h1
    refine ⟨v, hv, ?_⟩
    have hf : ∀ y o, a.F y = some o → (outW a b xs ds).F y = some o := fun y o h => by
      have ti : (inW a xs ds).t y = none := by rw [inW_t, rel.ok.tn h]; rfl
      exact ((st y o (rel.ok.sub y o h) ti).2.2).trans h
    cases z : fz d' with
    | true => exact Rep.fz hf d' [] [] v z rp
    | false =>
      have np : findP xs ds (j + 1) 0 = none := by
        cases e : findP xs ds (j + 1) 0 with
        | none => rfl
        | some m =>
          obtain ⟨j', i', d2, g1, g2, g3, g4, g5⟩ := findP_some e
          have e2 : i' = j := (Nat.succ.inj g5).symm
          subst e2
          rw [h2 j' d2 g2 g3] at g4; cases g4
      have := Rep.to (C := G.C) (a := a) (b := outW a b xs ds) (r := j + 1) (s := j + 1) (p := []) (q := []) hf (fun y z' o g1 g2 => by
        have ti : (inW a xs ds).t y = none := by rw [inW_t, g1]; simp [inT, np]
        obtain ⟨k1, k2, k3⟩ := st y o g2 ti
        refine ⟨?_, k1⟩
        rw [outW_t, k2, g1]; simp [outT, restT, np]) d' [] v
      exact this rp
theorem outW_res {C : KM} {d : D} {v : V} (rp : Rep C b 0 [] v d) : Rep C (outW a b xs ds) 0 [] v d := by
  have := Rep.to (C := C) (a := b) (b := outW a b xs ds) (r := 0) (s := 0) (p := []) (q := []) (fun _ _ h => h) (fun y z' o g1 g2 => ⟨by
    rw [outW_t, g1]; rfl, g2⟩) d [] v
  exact this rp
theorem outW_exc {C : KM} {x : Exc} {cls : Value} {dd : Option Addr} (h : ExcRep C b x cls dd) : ExcRep C (outW a b xs ds) x cls dd := by
  obtain ⟨h1, h2⟩ := h
  refine ⟨h1, ?_⟩
  rcases h2 with h2 | ⟨u, ws, e, f, l, z, rp⟩
  · exact .inl h2
  · exact .inr ⟨u, ws, e, f, l, z, RepL.fz (a := b) (b := outW a b xs ds) (fun _ _ h => h) x.ws [] [] 0 ws z rp⟩
end
/- the promise, from the caller's side -/
theorem call_sp {G : Gm} {W : WX} {σ : L2.St} {a : Wd} {env : EnvD} {xs : List Arg} {vs : List V} {g : List D → Res (D × EnvD)} {Q : VK} (rel : RelE G a σ env) (ps : Paired (ArgRep G.C a σ) xs vs)
    (post : PostR G W σ a (mCallR g xs env) fun d _ b => ∀ v, Rep G.C b 0 [] v d → Q v b.H) : spD G.C g vs a.H Q (fun cls dd H' => W cls dd σ H') := by
  unfold mCallR at post
  cases hg : Arg.gets env xs with
  | none => rw [hg] at post; exact (show False from post).elim
  | some ds =>
    rw [hg] at post
    dsimp only at post
    split at post
    · rename_i nd
      refine ⟨inW a xs ds, ds, rfl, inW_ok rel.ok, (gets_len hg).trans (plen ps), inW_rep rel nd ps hg, ?_⟩
      cases hr : g ds with
      | bad => rw [hr] at post; exact (show False from post).elim
      | ok do_ =>
        obtain ⟨d, outs⟩ := do_
        rw [hr] at post
        dsimp only
        exact fun b v st k ho rp => post (outW a b xs ds) (outW_step st k) (outW_rel rel nd ps hg st k ho) v (outW_res rp)
      | exc x outs =>
        rw [hr] at post
        dsimp only
        exact fun b cls dd st k ho er => post (outW a b xs ds) cls dd (outW_step st k) (outW_rel rel nd ps hg st k ho) (outW_exc er)
    · exact (show False from post).elim
/- a def (or class) that may be called from X -/
def CallOk (C : KM) (X : Cx) (g : List D → Res (D × EnvD)) (u : Value) : Prop := ∀ (W : WX), Takes X W → ∀ (pins : List (Addr × Obj)) (s : Shared) (σ : L2.St) (H : Hp) (us : List Value) (vs : List V) (Q : VK), L2.Inv X pins σ H s → Vals vs us →
  spD C g vs H Q (fun cls dd H' => W cls dd σ H') → wpAny (model X.prog X.w) X.A (call u us) (EP X pins σ Q) X.xe s
theorem pe_callD {X : Cx} {G : Gm} {W : WX} {g : List D → Res (D × EnvD)} {f : Addr} {x : Str} {p pos : Pos} {e : Expr} {es : List Expr} {ma : EM (List Arg)} (co : CallOk G.C X g (.ref f)) (tk : Takes X W) (hg : Gl X x) (hm : X.mg x = some (.ref f)) (hk : PySem.W.keepIn X.K (.ref f) = true)
    (ha : PA X (e :: es) (tArgs G W ma)) (hdb : (x == ("__debug__" : Str)) = false) (he : starEach (e :: es) X.env = (false, eval e X.env) :: starEach es X.env) (hpl : (backTo pos (starEach es X.env)).any (·.1) = false) :
    PE X (.Call (.Name x p) (e :: es) [] pos) (tE G W (mCall g ma)) := by
  refine ⟨fun pins s σ H Q I h => ?_⟩
  obtain ⟨a, env, rfl, rel, post⟩ := h
  refine wpAny_Call_Name_kw (ld_glob I hg hm ?_ hdb)
  have hA : tArgs G W ma σ a.H (fun vs H1 => spD G.C g vs H1 Q (fun cls dd H' => W cls dd σ H')) := tArgs_of rel post fun xs e1 b vs s1 r ps p => call_sp r ps p
  refine PySem.W.callWith_K (h₀ := X.base) I.ok.mod.kin hk (thn (ha.run pos pins s σ _ _ I hA) fun us s1 ⟨vs, H1, I1, r, q⟩ => ⟨I1.kIn, ?_⟩) he hpl
  exact co W tk pins s1 σ H1 us vs Q I1 r q
theorem pe_callD0 {X : Cx} {G : Gm} {W : WX} {g : List D → Res (D × EnvD)} {f : Addr} {x : Str} {p pos : Pos} (co : CallOk G.C X g (.ref f)) (tk : Takes X W) (hg : Gl X x) (hm : X.mg x = some (.ref f)) (hk : PySem.W.keepIn X.K (.ref f) = true)
    (hdb : (x == ("__debug__" : Str)) = false) : PE X (.Call (.Name x p) [] [] pos) (tE G W (mCall g (mArgs []))) := by
  refine ⟨fun pins s σ H Q I h => ?_⟩
  obtain ⟨a, env, rfl, rel, post⟩ := h
  refine wpAny_Call_Name_kw (ld_glob I hg hm ?_ hdb)
  exact PySem.W.callWith_K0 I.kIn hk (co W tk pins s σ _ [] [] Q I .nil (call_sp rel .nil (show PostR G W σ a (mCallR g [] env) _ from post)))
end Mi
namespace Mi
open PySem PySem.Spec PyProof.Rows L2

/-! ### statements -/
def mNext : EM FlowD := fun env => .ok (.next, env)
def mBrk : EM FlowD := fun env => .ok (.brk, env)
def mCnt : EM FlowD := fun env => .ok (.cont, env)
def mSeq (m k : EM FlowD) : EM FlowD := fun env => (m env).bind fun (f, e) => match f with
  | .next => k e
  | .brk => .ok (.brk, e)
  | .cont => .ok (.cont, e)
  | .ret d => .ok (.ret d, e)
def mIfS (c : EM Bool) (m n : EM FlowD) : EM FlowD := fun env => (c env).bind fun (b, e) => if b = true then m e else n e
def mRet (m : EM D) : EM FlowD := fun env => (m env).bind fun (d, e) => .ok (.ret d, e)
def mRetN : EM FlowD := fun env => .ok (.ret .non, env)
def mDrop (m : EM D) : EM FlowD := fun env => (m env).bind fun (_, e) => .ok (.next, e)
def mAsg (i : Nat) (m : EM D) : EM FlowD := fun env => (m env).bind fun (d, e) => .ok (.next, e.set i (some d))
/- frozen first, then taken apart -/
def mAsgT (t : Tgt) (m : EM D) : EM FlowD := fun env => (m env).bind fun (d, e) => match mTg t (frzQ d) e with
  | some e1 => .ok (.next, e1)
  | none => .bad
def mPar (i j : Nat) (ma : EM (List Arg)) : EM FlowD := fun env => (ma env).bind fun (xs, e) => match Arg.gets e xs with
  | some [d1, d2] => if fz d1 = true ∧ fz d2 = true then .ok (.next, (e.set i (some d1)).set j (some d2)) else .bad
  | _ => .bad
section
variable {G : Gm} {W : WX} {D : Ends} {σ : L2.St} {H : Hp}
theorem next_w (h : tS G W mNext D σ H) : tNext D σ H := by
  obtain ⟨a, env, rfl, rel, post⟩ := h
  exact post a σ (Step.refl a) rel
theorem brk_w (h : tS G W mBrk D σ H) : tBreak D σ H := by
  obtain ⟨a, env, rfl, rel, post⟩ := h
  exact post a σ (Step.refl a) rel
theorem cnt_w (h : tS G W mCnt D σ H) : tCont D σ H := by
  obtain ⟨a, env, rfl, rel, post⟩ := h
  exact post a σ (Step.refl a) rel
theorem seq_w {m k : EM FlowD} (h : tS G W (mSeq m k) D σ H) : tSeq (tS G W m) (tS G W k) D σ H := by
  obtain ⟨a, env, rfl, rel, post⟩ := h
  refine ⟨a, env, rfl, rel, ?_⟩
  unfold mSeq at post
  cases hm : m env with
  | bad => rw [hm] at post; exact (show False from post).elim
  | exc x e => rw [hm] at post; exact post
  | ok fe =>
    obtain ⟨f, e⟩ := fe
    rw [hm] at post
    cases f with
    | next => exact fun b σ' st r => ⟨b, e, rfl, r, PostS.step st post⟩
    | brk => exact post
    | cont => exact post
    | ret d => exact post
theorem ifS_w {c : EM Bool} {m n : EM FlowD} (h : tS G W (mIfS c m n) D σ H) : tIfS (tT G W c) (tS G W m) (tS G W n) D σ H := by
  obtain ⟨a, env, rfl, rel, post⟩ := h
  refine tT_ofS rel post fun x e b st r p => ?_
  cases x with
  | true => exact ite_tt ⟨b, e, rfl, r, p⟩
  | false => exact ite_ff ⟨b, e, rfl, r, p⟩
theorem ret_w {m : EM Mi.D} (h : tS G W (mRet m) D σ H) : tRet (tE G W m) D σ H := by
  obtain ⟨a, env, rfl, rel, post⟩ := h
  exact tE_ofS rel post fun x e b v st r rp p => p b σ v (Step.refl b) r rp
theorem retN_w (h : tS G W mRetN D σ H) : tRetN D σ H := by
  obtain ⟨a, env, rfl, rel, post⟩ := h
  exact post a σ .non (Step.refl a) rel (by simp [Rep])
theorem drop_w {m : EM Mi.D} (h : tS G W (mDrop m) D σ H) : tDrop (tE G W m) D σ H := by
  obtain ⟨a, env, rfl, rel, post⟩ := h
  exact tE_ofS rel post fun x e b v st r rp p => p b σ (Step.refl b) r
theorem asg_w {i : Nat} {m : EM Mi.D} (hi : i ∉ G.io) (h : tS G W (mAsg i m) D σ H) : tAsg (tE G W m) (gName i) D σ H := by
  obtain ⟨a, env, rfl, rel, post⟩ := h
  exact tE_ofS rel post fun x e b v st r rp p => p (mvW b 0 (i + 1)) _ mvW_step (r.sett hi rp)
theorem asgT_w {t : Tgt} {m : EM Mi.D} (hi : Tgt.off G.io t) (h : tS G W (mAsgT t m) D σ H) : tAsg (tE G W m) (gT G.C.K t) D σ H := by
  obtain ⟨a, env, rfl, rel, post⟩ := h
  refine tE_ofS rel post fun x e b v st r rp p => ?_
  dsimp only at p
  obtain ⟨z, rq⟩ := frzQ_rep (s := 0) (q := []) r.ok rp
  cases ht : mTg t (frzQ x) e with
  | none => rw [ht] at p; exact (show False from p).elim
  | some e1 =>
    rw [ht] at p
    exact tg_w (a := frzW b 0) t hi r.frz0 z rq ht fun σ' r' => p (frzW b 0) σ' frzW_step r'
theorem par_w {i j : Nat} {ma : EM (List Arg)} (hi : i ∉ G.io) (hj : j ∉ G.io) (h : tS G W (mPar i j ma) D σ H) : tPar i j (tArgs G W ma) D σ H := by
  obtain ⟨a, env, rfl, rel, post⟩ := h
  refine tArgs_ofS rel post fun xs e b vs st r ps p => ?_
  dsimp only at p
  cases hx : Arg.gets e xs with
  | none => rw [hx] at p; exact (show False from p).elim
  | some ds =>
    rw [hx] at p
    have g := gets_rep r ps hx
    match ds, p, g with
    | [], p, _ => exact (show False from p).elim
    | [_], p, _ => exact (show False from p).elim
    | _ :: _ :: _ :: _, p, _ => exact (show False from p).elim
    | [d1, d2], p, g =>
      dsimp only at p
      obtain ⟨v, u, rfl, ⟨r1, p1⟩, ⟨r2, p2⟩⟩ := two_rep g
      split at p
      · rename_i z
        exact ⟨v, u, rfl, p b _ (Step.refl b) ((r.setz hi z.1 p1).setz hj z.2 p2)⟩
      · exact (show False from p).elim
end

/-! ### loops -/
def loopF (t : Tgt) (body : EM FlowD) : List D → EnvD → Res (FlowD × EnvD)
  | [], e => .ok (.next, e)
  | d :: ds, e => match mTg t d e with
    | none => .bad
    | some e1 => (body e1).bind fun (f, e2) => match f with
      | .next => loopF t body ds e2
      | .cont => loopF t body ds e2
      | .brk => .ok (.next, e2)
      | .ret d => .ok (.ret d, e2)
def mFor (mi : EM (List D)) (t : Tgt) (body : EM FlowD) : EM FlowD := fun env => (mi env).bind fun (ds, e) => if fzL ds = true then loopF t body ds e else .bad
theorem PostS.aheadI {G : Gm} {W : WX} {D : Ends} {a : Wd} {σ : L2.St} {α : Type} {m : Res (α × EnvD)} {k : α × EnvD → Res (FlowD × EnvD)} (h : PostS G W D a (m.bind k)) : PostR G W σ a m fun x e b => PostS G W D b (k (x, e)) := h.ahead
def whileF (c : EM Bool) (body : EM FlowD) : Nat → EnvD → Res (FlowD × EnvD)
  | 0, _ => .bad
  | n + 1, e => (c e).bind fun (b, e1) => if b = true then (body e1).bind fun (f, e2) => match f with
      | .next => whileF c body n e2
      | .cont => whileF c body n e2
      | .brk => .ok (.next, e2)
      | .ret d => .ok (.ret d, e2)
    else .ok (.next, e1)
def mWhile (fuel : EnvD → Nat) (c : EM Bool) (body : EM FlowD) : EM FlowD := fun env => whileF c body (fuel env) env
section
variable {G : Gm} {W : WX} {D : Ends} {σ : L2.St} {H : Hp}
theorem for_w {mi : EM (List Mi.D)} {t : Tgt} {body : EM FlowD} (hi' : Tgt.off G.io t) (h : tS G W (mFor mi t body) D σ H) : tFor (tI G W mi) (gT G.C.K t) (tS G W body) D σ H := by
  obtain ⟨a, env, rfl, rel, post⟩ := h
  refine ⟨a, env, rfl, rel, post.ahead.imp fun ds e b st r p => ?_⟩
  dsimp only at p
  split at p
  · rename_i z
    refine ⟨z, fun J hJ => ⟨fun i m σ H => m = ds.length - i ∧ i ≤ ds.length ∧ ∃ c e, c.H = H ∧ Step b c ∧ RelE G c σ e ∧ PostS G W D c (loopF t body (ds.drop i) e), ⟨_, rfl, Nat.zero_le _, b, e, rfl, Step.refl b, r, p⟩, ?_⟩⟩
    rintro i m σ H ⟨rfl, hi, c, e, rfl, sc, rc, pc⟩
    obtain ⟨hgo, hstop⟩ := hJ c rc.ok sc
    by_cases hlt : i < ds.length
    · obtain ⟨d, hd⟩ : ∃ d, ds[i]? = some d := ⟨_, List.getElem?_eq_getElem hlt⟩
      obtain ⟨h1, h2⟩ := hgo i d hd
      have hdrop : ds.drop i = d :: ds.drop (i + 1) := by
        rw [List.drop_eq_getElem_cons hlt]
        rw [List.getElem?_eq_getElem hlt] at hd
        cases hd; rfl
      rw [hdrop] at pc
      simp only [loopF] at pc
      refine .inr ⟨h1, fun σ' H' => ∃ c e, c.H = H' ∧ Step b c ∧ RelE G c σ' e ∧ PostS G W D c (loopF t body (ds.drop (i + 1)) e), fun σ' H' q => ⟨ds.length - (i + 1), by omega, rfl, hlt, q⟩, fun x H' y => ?_⟩
      obtain ⟨c', rfl, gr, ok', rp⟩ := h2 x H' y
      cases ht : mTg t d e with
      | none => rw [ht] at pc; exact (show False from pc).elim
      | some e1 =>
        rw [ht] at pc
        dsimp only at pc
        refine tg_w t hi' (rc.grow gr ok') (fzL_mem z d (List.mem_of_getElem? hd)) rp ht fun σ' r' => ⟨c', e1, rfl, r', ?_⟩
        have pc := PostS.step gr.step pc
        have sc' : Step b c' := sc.trans gr.step
        cases hb : body e1 with
        | bad => rw [hb] at pc; exact (show False from pc).elim
        | exc x e2 => rw [hb] at pc; exact pc
        | ok fe =>
          obtain ⟨f, e2⟩ := fe
          rw [hb] at pc
          cases f with
          | next => exact fun b' σ' st' r' => ⟨b', e2, rfl, sc'.trans st', r', PostS.step st' pc⟩
          | brk => exact pc
          | cont => exact fun b' σ' st' r' => ⟨b', e2, rfl, sc'.trans st', r', PostS.step st' pc⟩
          | ret d => exact pc
    · have e1 : i = ds.length := by omega
      subst e1
      rw [List.drop_length] at pc
      exact .inl ⟨hstop, pc c σ (Step.refl c) rc⟩
  · exact (show False from p).elim
theorem while_w {fuel : EnvD → Nat} {c : EM Bool} {body : EM FlowD} (h : tS G W (mWhile fuel c body) D σ H) : tWhile (tT G W c) (tS G W body) D σ H := by
  obtain ⟨a, env, rfl, rel, post⟩ := h
  refine ⟨fun m σ H => ∃ b e, b.H = H ∧ RelE G b σ e ∧ PostS G W D b (whileF c body m e), ⟨fuel env, a, env, rfl, rel, post⟩, ?_⟩
  rintro m σ H ⟨b, e, rfl, r, p⟩
  cases m with
  | zero => exact (show False from p).elim
  | succ n =>
    refine tT_ofS r p fun x e1 b1 st r1 p1 => ?_
    dsimp only at p1
    cases x with
    | false =>
      rw [if_neg Bool.false_ne_true] at p1 ⊢
      exact p1 b1 σ (Step.refl b1) r1
    | true =>
      rw [if_pos rfl] at p1 ⊢
      refine ⟨fun σ' H' => ∃ b e, b.H = H' ∧ RelE G b σ' e ∧ PostS G W D b (whileF c body n e), fun σ' H' q => ⟨n, Nat.lt_succ_self n, q⟩, b1, e1, rfl, r1, ?_⟩
      cases hb : body e1 with
      | bad => rw [hb] at p1; exact (show False from p1).elim
      | exc x e2 => rw [hb] at p1; exact p1
      | ok fe =>
        obtain ⟨f, e2⟩ := fe
        rw [hb] at p1
        cases f with
        | next => exact fun b' σ' st' r' => ⟨b', e2, rfl, r', PostS.step st' p1⟩
        | brk => exact p1
        | cont => exact fun b' σ' st' r' => ⟨b', e2, rfl, r', PostS.step st' p1⟩
        | ret d => exact p1
end
end Mi
namespace Mi
open PySem PySem.Spec PyProof.Rows L2

/-! ### list comprehensions -/
def wipeE (e : EnvD) : List Nat → EnvD
  | [] => e
  | v :: vs => (wipeE e vs).set v none
def restV (e0 : EnvD) (v : Nat) : Option D := match e0[v]? with
  | some (some d) => if fz d = true then some d else none
  | _ => none
def restE (e0 e : EnvD) : List Nat → EnvD
  | [] => e
  | v :: vs => (restE e0 e vs).set v (restV e0 v)
def loopL (t : Tgt) (cond : EM Bool) (elt : EM D) (own : List Nat) : List D → List D → EnvD → Res (List D × EnvD)
  | [], acc, e => .ok (acc, e)
  | d :: ds, acc, e => match mTg t d (wipeE e own) with
    | none => .bad
    | some e1 => match cond e1 with
      | .ok (true, e2) => match elt e2 with
        | .ok (y, e3) => loopL t cond elt own ds (acc ++ [frzQ y]) e3
        | _ => .bad
      | .ok (false, e2) => loopL t cond elt own ds acc e2
      | _ => .bad
def mLc (mi : EM (List D)) (t : Tgt) (cond : EM Bool) (elt : EM D) (own : List Nat) : EM D := fun env => (mi env).bind fun (ds, e) =>
  if fzL ds = true ∧ ds.length ≤ 100000 then (loopL t cond elt own ds [] e).bind fun (l, e') => .ok (.lst true l, restE e e' own) else .bad
def mYes : EM Bool := fun env => .ok (true, env)
abbrev W0 : WX := fun _ _ _ _ => False
theorem wipeE_len (e : EnvD) : ∀ vs : List Nat, (wipeE e vs).length = e.length
  | [] => rfl
  | v :: vs => by unfold wipeE; rw [List.length_set, wipeE_len e vs]
theorem restE_len (e0 e : EnvD) : ∀ vs : List Nat, (restE e0 e vs).length = e.length
  | [] => rfl
  | v :: vs => by unfold restE; rw [List.length_set, restE_len e0 e vs]
theorem wipeE_some {e : EnvD} {i : Nat} {d : D} : ∀ {vs : List Nat}, (wipeE e vs)[i]? = some (some d) → e[i]? = some (some d) ∧ i ∉ vs
  | [], h => ⟨h, by simp⟩
  | v :: vs, h => by
    unfold wipeE at h
    by_cases q : v = i
    · subst q
      by_cases hl : v < (wipeE e vs).length
      · rw [List.getElem?_set_self hl] at h; cases h
      · rw [List.getElem?_eq_none (by rw [List.length_set]; omega)] at h; cases h
    · rw [List.getElem?_set_ne q] at h
      obtain ⟨h1, h2⟩ := wipeE_some h
      exact ⟨h1, by simp [h2, Ne.symm q]⟩
theorem restE_some {e0 e : EnvD} {i : Nat} {d : D} : ∀ {vs : List Nat}, (restE e0 e vs)[i]? = some (some d) → (e[i]? = some (some d) ∧ i ∉ vs) ∨ (i ∈ vs ∧ e0[i]? = some (some d) ∧ fz d = true)
  | [], h => .inl ⟨h, by simp⟩
  | v :: vs, h => by
    unfold restE at h
    by_cases q : v = i
    · subst q
      by_cases hl : v < (restE e0 e vs).length
      · rw [List.getElem?_set_self hl] at h
        have h : restV e0 v = some d := Option.some.inj h
        unfold restV at h
        split at h
        · rename_i d' e1
          split at h
          · rename_i z; cases h
            exact .inr ⟨by simp, e1, z⟩
          · cases h
        · cases h
      · rw [List.getElem?_eq_none (by rw [List.length_set]; omega)] at h; cases h
    · rw [List.getElem?_set_ne q] at h
      rcases restE_some h with ⟨h1, h2⟩ | ⟨h1, h2, h3⟩
      · exact .inl ⟨h1, by simp [h2, Ne.symm q]⟩
      · exact .inr ⟨by simp [h1], h2, h3⟩
theorem wipe_off {σ : L2.St} {i : Nat} : ∀ {vs : List Nat}, i ∉ vs → (wipe σ vs)[i]? = σ[i]?
  | [], _ => rfl
  | v :: vs, h => by
    simp only [List.mem_cons, not_or] at h
    unfold wipe
    rw [List.getElem?_set_ne (Ne.symm h.1)]
    exact wipe_off h.2
section
variable {G : Gm} {W : WX} {σ σ2 : L2.St} {H : Hp} {a b c : Wd} {own : List Nat}
theorem RelE.wiped {e : EnvD} (r : RelE G a σ e) (ho : ∀ i ∈ G.io, i ∉ own) : RelE G a (wipe σ own) (wipeE e own) := by
  refine ⟨r.ok, by rw [wipeE_len, wipe_length]; exact r.len, fun i d h => ?_, fun i hi v hv => ?_⟩
  · obtain ⟨h1, h2⟩ := wipeE_some h
    obtain ⟨v, e1, q⟩ := r.slot i d h1
    exact ⟨v, by rw [wipe_off h2]; exact e1, q⟩
  · rw [wipe_off (ho i hi)]; exact r.prm i hi v hv
theorem RelE.rewiped {e : EnvD} (r : RelE G a σ2 e) (hw : wipe σ2 own = wipe σ own) (ho : ∀ i ∈ G.io, i ∉ own) : RelE G a (wipe σ own) (wipeE e own) := by
  rw [← hw]; exact r.wiped ho
/- behind the block: e0 the frame ahead of it (at b), e the block's last -/
theorem RelE.unwiped {e0 e : EnvD} (r0 : RelE G b σ e0) (r : RelE G c (wipe σ own) (wipeE e own)) (st : Step b c) (le : e.length = e0.length) : RelE G c σ (restE e0 e own) := by
  refine ⟨r.ok, by rw [restE_len, le]; exact r0.len, fun i d h => ?_, r0.prm⟩
  rcases restE_some h with ⟨h1, h2⟩ | ⟨h1, h2, h3⟩
  · have : (wipeE e own)[i]? = some (some d) := by
      clear h r r0
      induction own with
      | nil => exact h1
      | cons v vs ih =>
        simp only [List.mem_cons, not_or] at h2
        unfold wipeE
        rw [List.getElem?_set_ne (Ne.symm h2.1)]
        exact ih h2.2
    obtain ⟨v, e1, q⟩ := r.slot i d this
    exact ⟨v, by rw [wipe_off h2] at e1; exact e1, q⟩
  · obtain ⟨v, e1, q⟩ := r0.slot i d h2
    exact ⟨v, e1, q.step r0.ok st h3⟩
end
/- the list that grows stands at A, outside of the world -/
structure GrowL (C : KM) (b c : Wd) (A : Addr) (acc : List D) : Prop where
  st : Step b c
  ok : Ok c
  f : c.F A = none
  t : c.t A = none
  h : ∃ vs, c.H A = some (.lst vs) ∧ RepL C c 0 [] 0 vs acc
  z : fzL acc = true
theorem GrowL.next {C : KM} {b c c' : Wd} {A : Addr} {acc : List D} (g : GrowL C b c A acc) (st : Step c c') (ok : Ok c') : GrowL C b c' A acc := by
  obtain ⟨vs, h1, h2⟩ := g.h
  obtain ⟨k1, k2, k3⟩ := st A _ h1 g.t
  exact ⟨g.st.trans st, ok, k3.trans g.f, k2, ⟨vs, k1, Rep.stepL g.ok st g.z h2⟩, g.z⟩
/- the list's own object changed -/
def putA (c : Wd) (A : Addr) (o : HO) : Wd := ⟨c.F, upd c.H A o, c.t⟩
theorem putA_ok {c : Wd} {A : Addr} {o : HO} (k : Ok c) (f : c.F A = none) : Ok (putA c A o) := by
  refine ⟨fun x u h => ?_, fun x t h => ?_⟩
  · have ne : x ≠ A := by rintro rfl; have h : c.F x = some u := h; rw [f] at h; cases h
    show upd c.H A o x = _
    rw [upd_ne ne]; exact k.sub x u h
  · obtain ⟨h1, u, h2⟩ := k.own x t h
    by_cases e : x = A
    · subst e; exact ⟨h1, o, upd_same⟩
    · exact ⟨h1, u, by show upd c.H A o x = _; rw [upd_ne e]; exact h2⟩
theorem putA_to {C : KM} {c : Wd} {A : Addr} {o : HO} (t : c.t A = none) {r : Nat} {p : List Nat} {v : V} {d : D} (h : Rep C c r p v d) : Rep C (putA c A o) r p v d := by
  have := Rep.to (C := C) (a := c) (b := putA c A o) (r := r) (s := r) (p := p) (q := p) (fun _ _ h => h) (fun x z u h e => ⟨h, by
    have ne : x ≠ A := by rintro rfl; rw [t] at h; cases h
    show upd c.H A o x = _
    rw [upd_ne ne]; exact e⟩) d [] v
  exact this h
theorem putA_rel {G : Gm} {c : Wd} {A : Addr} {o : HO} {σ : L2.St} {e : EnvD} (r : RelE G c σ e) (f : c.F A = none) (t : c.t A = none) : RelE G (putA c A o) σ e :=
  ⟨putA_ok r.ok f, r.len, fun i d h => let ⟨v, e, q⟩ := r.slot i d h; ⟨v, e, putA_to t q⟩, r.prm⟩
/- at the end it is the temp's -/
def tagA (c : Wd) (A : Addr) : Wd := ⟨c.F, c.H, fun x => if x = A then some (0, []) else c.t x⟩
theorem tagA_ok {c : Wd} {A : Addr} {o : HO} (k : Ok c) (f : c.F A = none) (h : c.H A = some o) : Ok (tagA c A) := by
  refine ⟨k.sub, fun x t e => ?_⟩
  have e : (if x = A then some (0, []) else c.t x) = some t := e
  by_cases q : x = A
  · subst q; exact ⟨f, o, h⟩
  · rw [if_neg q] at e; exact k.own x t e
theorem tagA_to {C : KM} {c : Wd} {A : Addr} (t : c.t A = none) {r : Nat} {p : List Nat} {v : V} {d : D} (h : Rep C c r p v d) : Rep C (tagA c A) r p v d := by
  have := Rep.to (C := C) (a := c) (b := tagA c A) (r := r) (s := r) (p := p) (q := p) (fun _ _ h => h) (fun x z u h e => ⟨by
    have ne : x ≠ A := by rintro rfl; rw [t] at h; cases h
    show (if x = A then some (0, []) else c.t x) = _
    rw [if_neg ne]; exact h, e⟩) d [] v
  exact this h
theorem repL_to {C : KM} {a b : Wd} {r s : Nat} {p q : List Nat} (h : ∀ d j v, fz d = true → Rep C a r (j :: p) v d → Rep C b s (j :: q) v d) : ∀ {l : List D} {n : Nat} {vs : List V}, fzL l = true → RepL C a r p n vs l → RepL C b s q n vs l
  | [], n, vs, _, e => e
  | d :: l, n, vs, z, ⟨v, us, e, h1, h2⟩ => by
    simp only [fzL, Bool.and_eq_true] at z
    exact ⟨v, us, e, h d n v z.1 h1, repL_to h z.2 h2⟩
theorem GrowL.push {C : KM} {b c : Wd} {A : Addr} {acc : List D} {vs : List V} {v : V} {y : D} {r : Nat} (g : GrowL C b c A acc) (hA : b.H A = none) (h : c.H A = some (.lst vs)) (zy : fz y = true) (rp : Rep C c r [] v y) : GrowL C b (putA c A (.lst (vs ++ [v]))) A (acc ++ [y]) := by
  obtain ⟨us, h1, h2⟩ := g.h
  rw [h] at h1; cases h1
  refine ⟨fun x o e t => ?_, putA_ok g.ok g.f, g.f, g.t, ⟨_, upd_same, ?_⟩, by rw [fzL_append, g.z]; simp [fzL, zy]⟩
  · obtain ⟨g1, g2, g3⟩ := g.st x o e t
    have ne : x ≠ A := by rintro rfl; rw [hA] at e; cases e
    exact ⟨by show upd c.H A _ x = _; rw [upd_ne ne]; exact g1, g2, g3⟩
  · refine RepL.appz (r := 0) (p := []) (s := 0) (q := []) (n := 0) (k := 0) g.z (by simp [fzL, zy]) (repL_to (fun d j v _ h => putA_to g.t h) g.z h2) ?_
    exact ⟨v, [], rfl, Rep.fz (a := c) (b := putA c A (.lst (vs ++ [v]))) (fun _ _ h => h) y _ _ v zy rp, by simp [RepL]⟩
mutual
def Tgt.ins (own : List Nat) : Tgt → Prop
  | .nm i => i ∈ own
  | .tp ts => Tgt.inss own ts
def Tgt.inss (own : List Nat) : List Tgt → Prop
  | [] => True
  | t :: ts => Tgt.ins own t ∧ Tgt.inss own ts
end
theorem wipe_set {σ : L2.St} {i : Nat} {v : Option V} : ∀ {own : List Nat}, i ∈ own → wipe (σ.set i v) own = wipe σ own
  | k :: vs, h => by
    unfold wipe
    by_cases e : k = i
    · subst e
      by_cases hm : k ∈ vs
      · rw [wipe_set hm]
      · have : ∀ {vs : List Nat}, k ∉ vs → wipe (σ.set k v) vs = (wipe σ vs).set k v := fun {vs} => by
          induction vs with
          | nil => intro _; rfl
          | cons u us ih =>
            intro h
            simp only [List.mem_cons, not_or] at h
            unfold wipe
            rw [ih h.2, List.set_comm _ _ h.1]
        rw [this hm, List.set_set]
    · rw [wipe_set (by
        rcases List.mem_cons.mp h with h | h
        · exact absurd h.symm e
        · exact h)]
theorem wipe_wipe (σ : L2.St) (own : List Nat) : wipe (wipe σ own) own = wipe σ own := by
  have : ∀ vs : List Nat, (∀ i ∈ vs, i ∈ own) → wipe (wipe σ vs) own = wipe σ own := fun vs => by
    induction vs with
    | nil => intro _; rfl
    | cons v vs ih =>
      intro h
      show wipe ((wipe σ vs).set v none) own = _
      rw [wipe_set (h v (by simp)), ih fun i hi => h i (by simp [hi])]
  exact this own fun _ h => h
mutual
theorem gT_mono {K : PySem.W.Frag} : ∀ (t : Tgt) {σ : L2.St} {v : V} {H : Hp} {R R' : L2.St → Hp → Prop}, gT K t v σ H R → (∀ σ H, R σ H → R' σ H) → gT K t v σ H R'
  | .nm i, σ, v, H, R, R', q, f => by
    simp only [gT] at q ⊢
    exact f _ _ q
  | .tp ts, σ, v, H, R, R', q, f => by
    simp only [gT] at q ⊢
    obtain ⟨x, vs, h1, h2, h3, h4⟩ := q
    exact ⟨x, vs, h1, h2, h3, gTs_mono ts h4 f⟩
theorem gTs_mono {K : PySem.W.Frag} : ∀ (t : List Tgt) {σ : L2.St} {v : List V} {H : Hp} {R R' : L2.St → Hp → Prop}, gTs K t v σ H R → (∀ σ H, R σ H → R' σ H) → gTs K t v σ H R'
  | [], σ, v, H, R, R', q, f => by
    simp only [gTs] at q ⊢
    exact ⟨q.1, f _ _ q.2⟩
  | t :: ts, σ, v, H, R, R', q, f => by
    simp only [gTs] at q ⊢
    obtain ⟨v, us, h1, h2⟩ := q
    exact ⟨v, us, h1, gT_mono t h2 fun σ H q => gTs_mono ts q f⟩
end
mutual
theorem ins_w {K : PySem.W.Frag} {own : List Nat} : ∀ (t : Tgt), Tgt.ins own t → ∀ (σ : L2.St) (v : V) (H : Hp) (R : L2.St → Hp → Prop), gT K t v σ H R → gT K t v σ H fun σ2 H2 => wipe σ2 own = wipe σ own ∧ R σ2 H2
  | .nm i, h, σ, v, H, R, q => by
    simp only [Tgt.ins] at h
    simp only [gT] at q ⊢
    exact ⟨wipe_set h, q⟩
  | .tp ts, h, σ, v, H, R, q => by
    simp only [Tgt.ins] at h
    simp only [gT] at q ⊢
    obtain ⟨x, vs, h1, h2, h3, h4⟩ := q
    exact ⟨x, vs, h1, h2, h3, inss_w ts h σ vs H R h4⟩
theorem inss_w {K : PySem.W.Frag} {own : List Nat} : ∀ (ts : List Tgt), Tgt.inss own ts → ∀ (σ : L2.St) (vs : List V) (H : Hp) (R : L2.St → Hp → Prop), gTs K ts vs σ H R → gTs K ts vs σ H fun σ2 H2 => wipe σ2 own = wipe σ own ∧ R σ2 H2
  | [], h, σ, vs, H, R, q => by
    simp only [gTs] at q ⊢
    exact ⟨q.1, rfl, q.2⟩
  | t :: ts, h, σ, vs, H, R, q => by
    simp only [Tgt.inss] at h
    simp only [gTs] at q ⊢
    obtain ⟨v, us, h1, h2⟩ := q
    refine ⟨v, us, h1, ?_⟩
    have := ins_w t h.1 σ v H _ h2
    have mono : ∀ (t : Tgt) {σ : L2.St} {v : V} {H : Hp} {R R' : L2.St → Hp → Prop}, gT K t v σ H R → (∀ σ H, R σ H → R' σ H) → gT K t v σ H R' := fun t σ v H R R' => gT_mono t
    refine mono t this fun σ1 H1 ⟨w, q⟩ => ?_
    have := inss_w ts h.2 σ1 us H1 R q
    rw [w] at this
    exact this
end
section
variable {G : Gm} {W : WX} {σ : L2.St} {H : Hp} {Q : VK}
theorem lc_w {mi : EM (List D)} {t : Tgt} {cond : EM Bool} {elt : EM D} {own : List Nat} (hf : Tgt.off G.io t) (ho : ∀ i ∈ G.io, i ∉ own) (hown : Tgt.ins own t)
    (h : tE G W (mLc mi t cond elt own) σ H Q) : tLc (tI G W mi) (gT G.C.K t) (tT G W0 cond) (tE G W0 elt) own σ H Q := by
  obtain ⟨a, env, rfl, rel, post⟩ := h
  refine ⟨a, env, rfl, rel, post.bind.imp fun ds e b st r p => ?_⟩
  dsimp only at p
  split at p
  · rename_i z
    refine ⟨z.1, fun J hJ A hA => ?_⟩
    have fA : b.F A = none := by
      cases q : b.F A with
      | none => rfl
      | some u => have := r.ok.sub A u q; rw [hA] at this; cases this
    have tA : b.t A = none := by
      cases q : b.t A with
      | none => rfl
      | some u => obtain ⟨_, u, h⟩ := r.ok.own A u q; rw [hA] at h; cases h
    -- the rest's post, told of a state of the loop
    let K : List D × EnvD → Res (D × EnvD) := fun (l, e') => .ok (.lst true l, restE e e' own)
    refine ⟨fun i m H => m = ds.length - i ∧ i ≤ ds.length ∧ ∃ c acc e1, c.H = H ∧ GrowL G.C b c A acc ∧ acc.length ≤ i ∧ e1.length = e.length ∧ RelE G c (wipe σ own) (wipeE e1 own) ∧
      PostR G W σ b ((loopL t cond elt own (ds.drop i) acc e1).bind K) fun d _ b => ∀ v, Rep G.C b 0 [] v d → Q v b.H, ⟨_, rfl, Nat.zero_le _, putA b A (.lst []), [], e, rfl, ?_, Nat.zero_le _, rfl, ?_, p⟩, ?_⟩
    · refine ⟨fun x o h t => ?_, putA_ok r.ok fA, fA, tA, ⟨[], upd_same, by simp [RepL]⟩, rfl⟩
      have ne : x ≠ A := by rintro rfl; rw [hA] at h; cases h
      exact ⟨by show upd b.H A _ x = _; rw [upd_ne ne]; exact h, t, rfl⟩
    · exact putA_rel (r.wiped ho) fA tA
    · rintro i m H ⟨rfl, hi, c, acc, e1, rfl, gl, hacc, hel, rc, pc⟩
      obtain ⟨hgo, hstop⟩ := hJ c gl.ok gl.st
      by_cases hlt : i < ds.length
      · obtain ⟨d, hd⟩ : ∃ d, ds[i]? = some d := ⟨_, List.getElem?_eq_getElem hlt⟩
        obtain ⟨h1, h2⟩ := hgo i d hd
        have hdrop : ds.drop i = d :: ds.drop (i + 1) := by
          rw [List.drop_eq_getElem_cons hlt]
          rw [List.getElem?_eq_getElem hlt] at hd
          cases hd; rfl
        rw [hdrop] at pc
        simp only [loopL] at pc
        refine .inr ⟨h1, fun H' => ∃ c acc e1, c.H = H' ∧ GrowL G.C b c A acc ∧ acc.length ≤ i + 1 ∧ e1.length = e.length ∧ RelE G c (wipe σ own) (wipeE e1 own) ∧
          PostR G W σ b ((loopL t cond elt own (ds.drop (i + 1)) acc e1).bind K) fun d _ b => ∀ v, Rep G.C b 0 [] v d → Q v b.H, fun H' q => ⟨ds.length - (i + 1), by omega, rfl, hlt, q⟩, fun x H' y => ?_⟩
        obtain ⟨c1, rfl, gr, ok1, rp⟩ := h2 x H' y
        cases ht : mTg t d (wipeE e1 own) with
        | none => rw [ht] at pc; exact (show False from pc).elim
        | some e2 =>
          rw [ht] at pc
          dsimp only at pc
          have gl1 := gl.next gr.step ok1
          refine gT_mono t (ins_w t hown _ x c1.H (fun σ2 H2 => H2 = c1.H ∧ RelE G c1 σ2 e2) (tg_w t hf (rc.grow gr ok1) (fzL_mem z.1 d (List.mem_of_getElem? hd)) rp ht fun σ2 r2 => ⟨rfl, r2⟩)) fun σ2 H2 ⟨hw, hH, r2⟩ => ?_
          subst hH
          rw [wipe_wipe] at hw
          refine ⟨hw, c1, e2, rfl, r2, ?_⟩
          have hlen : ∀ {c : Wd} {e' : EnvD}, RelE G c σ2 e' → e'.length = e.length := fun {c e'} r' => by
            have := congrArg List.length hw
            rw [wipe_length, wipe_length] at this
            rw [r'.len, this, r.len]
          cases hc : cond e2 with
          | bad => rw [hc] at pc; exact (show False from pc).elim
          | exc x e3 => rw [hc] at pc; exact (show False from pc).elim
          | ok be =>
            obtain ⟨bb, e3⟩ := be
            rw [hc] at pc
            intro c2 st2 r3
            cases bb with
            | false =>
              rw [if_neg Bool.false_ne_true]
              exact ⟨c2, acc, e3, rfl, gl1.next st2 r3.ok, Nat.le_succ_of_le hacc, hlen r3, r3.rewiped hw ho, pc⟩
            | true =>
              rw [if_pos rfl]
              refine ⟨c2, e3, rfl, r3, ?_⟩
              dsimp only at pc
              cases he : elt e3 with
              | bad => rw [he] at pc; exact (show False from pc).elim
              | exc x e4 => rw [he] at pc; exact (show False from pc).elim
              | ok ye =>
                obtain ⟨y, e4⟩ := ye
                rw [he] at pc
                intro c3 st3 r4 v rv
                have gl3 := (gl1.next st2 r3.ok).next st3 r4.ok
                obtain ⟨vs, k1, k2⟩ := gl3.h
                obtain ⟨zy, rq⟩ := frzQ_rep (s := 0) (q := []) r4.ok rv
                have gl4 := (gl3.next (frzW_step (r := 0)) (frzW_ok r4.ok)).push (vs := vs) hA k1 zy rq
                refine ⟨vs, k1, ?_, putA (frzW c3 0) A (.lst (vs ++ [v])), acc ++ [frzQ y], e4, rfl, gl4, ?_, hlen r4, ?_, pc⟩
                · rw [k2.len]; rw [show sizeLine = 16777216 from sizeLine_eq]; omega
                · rw [List.length_append]; simp only [List.length_cons, List.length_nil]; omega
                · exact putA_rel ((r4.rewiped hw ho).frz0) (gl3.next (frzW_step (r := 0)) (frzW_ok r4.ok)).f (gl3.next (frzW_step (r := 0)) (frzW_ok r4.ok)).t
      · have e2 : i = ds.length := by omega
        subst e2
        rw [List.drop_length] at pc
        refine .inl ⟨hstop, ?_⟩
        obtain ⟨vs, k1, k2⟩ := gl.h
        have pc : ∀ b', Step b b' → RelE G b' σ (restE e e1 own) → ∀ v, Rep G.C b' 0 [] v (.lst true acc) → Q v b'.H := pc
        have rel' := r.unwiped rc gl.st hel
        refine pc (tagA c A) (fun x o h t => ?_) ?_ (.ref A) ?_
        · obtain ⟨g1, g2, g3⟩ := gl.st x o h t
          have ne : x ≠ A := by rintro rfl; rw [hA] at h; cases h
          exact ⟨g1, by show (if x = A then some (0, []) else c.t x) = none; rw [if_neg ne]; exact g2, g3⟩
        · exact ⟨tagA_ok gl.ok gl.f k1, rel'.len, fun i d h => let ⟨v, e, q⟩ := rel'.slot i d h; ⟨v, e, tagA_to gl.t q⟩, rel'.prm⟩
        · simp only [Rep]
          refine ⟨A, vs, rfl, ?_, ?_⟩
          · rw [if_pos trivial]
            exact ⟨by show (if A = A then some (0, []) else c.t A) = _; rw [if_pos rfl], k1⟩
          · exact repL_to (fun d j v _ h => tagA_to gl.t h) gl.z k2
  · exact (show False from p).elim
end
end Mi
namespace Mi
open PySem PySem.Spec PyProof.Rows L2

/-! ### the context -/
structure St0 (X : Cx) (G : Gm) : Prop where
  p : X.prog = G.C.P
  w : X.w = G.C.w
  k : X.K = G.C.K
  m : X.mg = G.C.mg
  n : X.N.Nodup
  u : X.A.units + 64 < cLine
structure Go (X : Cx) (G : Gm) (W : WX) (lv : Nat) : Prop extends St0 X G where
  tk : Takes X W
  pw : PassesOwn (model X.prog X.w) X.A X.env X.xe
  rm : Room lv X.A
  cm : X.calm = true
theorem Go.blk {X : Cx} {G : Gm} {W : WX} {lv : Nat} (g : Go X G W lv) (s : Shared) (H : Hp) (scope : Scope) (e : Env) (fp : List Addr) : Go (X.blk s H scope e fp) G W0 lv :=
  { p := g.p, w := g.w, k := g.k, m := g.m, n := g.n, u := g.u, tk := takes0, pw := PassesOwn.never, rm := g.rm, cm := g.cm }
theorem Go.tr {X : Cx} {G : Gm} {W W' : WX} {lv : Nat} {pn : List (Addr × Obj)} {xe : Value → Shared → Prop} (g : Go X G W lv) (tk : Takes (X.tr pn xe) W') (pw : PassesOwn (model X.prog X.w) X.A X.env xe) : Go (X.tr pn xe) G W' lv :=
  { p := g.p, w := g.w, k := g.k, m := g.m, n := g.n, u := g.u, tk := tk, pw := pw, rm := g.rm, cm := g.cm }
theorem Go.suite {X : Cx} {G : Gm} {W : WX} {lv : Nat} (g : Go X G W lv) (a : Addr) (pn : List (Addr × Obj)) : St0 (X.suite a pn) G :=
  { p := g.p, w := g.w, k := g.k, m := g.m, n := g.n, u := g.u }

/-! ### isinstance of a built-in -/
inductive TyK where
  | tInt | tBool | tStr | tTup | tLst | tDic
def TyK.nm : TyK → String
  | .tInt => "int" | .tBool => "bool" | .tStr => "str" | .tTup => "tuple" | .tLst => "list" | .tDic => "dict"
def tyD : D → Option String
  | .non => some "NoneType" | .bl _ => some "bool" | .int _ => some "int" | .str _ => some "str" | .tup _ => some "tuple"
  | .lst _ _ => some "list" | .scr _ => some "list" | .dic _ _ _ => some "dict" | _ => none
def isK : TyK → D → Option Bool
  | _, .ty _ => none
  | _, .fn _ => none
  | _, .ins _ _ _ _ => none
  | _, .pd _ _ _ => none
  | _, .exn _ _ _ => none
  | .tInt, .int _ => some true
  | .tInt, .bl _ => some true
  | .tBool, .bl _ => some true
  | .tStr, .str _ => some true
  | .tTup, .tup _ => some true
  | .tLst, .lst _ _ => some true
  | .tLst, .scr _ => some true
  | .tDic, .dic _ _ _ => some true
  | _, _ => some false
theorem isK_kit {k : TyK} {d : D} {b : Bool} (h : isK k d = some b) : ∃ t, tyD d = some t ∧ kitB t k.nm = some b := by
  cases k <;> cases d <;> simp only [isK] at h <;> first | (cases h; done) | (cases h; exact ⟨_, rfl, by decide +kernel⟩)
theorem rep_ty {C : KM} {a : Wd} {r : Nat} {p : List Nat} {v : V} {d : D} {t : String} (k : Ok a) (h : tyD d = some t) (q : Rep C a r p v d) : TyX C.K a.H v (.type t) := by
  cases d <;> simp only [tyD] at h <;> (try (cases h; done)) <;> cases h
  case non => cases rep_non q; exact .base .non
  case bl b => cases rep_bl q; exact .base (.bl b)
  case int b => cases rep_int q; exact .base (.int b)
  case str b => cases rep_str q; exact .base (.str b)
  case tup l =>
    obtain ⟨x, vs, rfl, h1, h2⟩ := rep_tup k q
    rcases h1 with h1 | h1
    · rcases h1 with h1 | ⟨o, h1⟩
      · exact .base (.tup h1)
      · exact .fTuple h1
    · obtain ⟨o, _, _, h1, h2, _⟩ := h1
      exact .kTuple h1 h2
  case lst o l =>
    obtain ⟨x, vs, rfl, h1, h2⟩ := rep_lst k q
    exact .base (.lst h1)
  case scr l =>
    obtain ⟨x, rfl, h1⟩ := rep_scr k q
    rcases h1 with h1 | h1
    · rcases h1 with h1 | ⟨o, h1⟩
      · exact .base (.lst h1)
      · exact .base (.frz h1)
    · obtain ⟨o, _, _, h1, h2, _⟩ := h1
      exact .kList h1 h2
  case dic o ks ws =>
    obtain ⟨x, h, kv, vs, rfl, h1, h2, h3⟩ := rep_dic k q
    cases h2
    exact .base (.dK h1)
def mIsi (k : TyK) (ma : EM Arg) : EM D := fun env => (ma env).bind fun (x, e) => match x.get e with
  | some d => mLift ((isK k d).map .bl) e
  | none => .bad
/-! ### further readings -/
def mChain (g g' : D → D → Option D) (ma mb mc : EM Arg) : EM D := fun env => (ma env).bind fun (x, e1) => (mb e1).bind fun (y, e2) =>
  match x.get e2, y.get e2 with
  | some d1, some d2 => match (g d1 d2).bind D.bool with
    | some true => (mc e2).bind fun (z, e3) => match y.get e3, z.get e3 with
      | some d2', some d3 => mLift (g' d2' d3) e3
      | _, _ => .bad
    | some false => .ok (.bl false, e2)
    | none => .bad
  | _, _ => .bad
def mNoP : EM (Option Int) := fun env => .ok (none, env)
def mPart (m : EM D) : EM (Option Int) := fun env => (m env).bind fun (d, e) => match d with
  | .int i => .ok (some i, e)
  | _ => .bad
def mSl (ma : EM Arg) (ml mh : EM (Option Int)) : EM D := fun env => (ma env).bind fun (x, e1) => (ml e1).bind fun (lo, e2) => (mh e2).bind fun (hi, e3) =>
  match x.get e3 with
  | some d => mLift (slD d lo hi) e3
  | none => .bad
def tO (G : Gm) (W : WX) (m : EM (Option Int)) : TO := fun σ H Q => ∃ a env, a.H = H ∧ RelE G a σ env ∧ PostR G W σ a (m env) fun x _ b => Q x b.H
/- xs[k] = v, xs in slot j -/
def setQ (d i y : D) : Option D := match d, i with
  | .lst true l, .int k => (ixN l.length k).map fun n => .lst true (l.set n y)
  | _, _ => none
def mSet (j : Nat) (mi mv : EM D) : EM FlowD := fun env => (mv env).bind fun (y, e1) =>
  match e1[j]? with
  | some (some _) => (mFrz mi e1).bind fun (x, e2) => match e2[j]?, x.get e2 with
    | some (some d), some i => match setQ d i (frzQ y) with
      | some d' => .ok (.next, e2.set j (some d'))
      | none => .bad
    | _, _ => .bad
  | _ => .bad
theorem repL_map {C : KM} {a b : Wd} {r s : Nat} {p q : List Nat} (h : ∀ d j v, Rep C a r (j :: p) v d → Rep C b s (j :: q) v d) : ∀ {l : List D} {n : Nat} {vs : List V}, RepL C a r p n vs l → RepL C b s q n vs l
  | [], n, vs, e => e
  | d :: l, n, vs, ⟨v, us, e, h1, h2⟩ => ⟨v, us, e, h d n v h1, repL_map h h2⟩
theorem repL_set {C : KM} {a : Wd} {r : Nat} {p : List Nat} {y : D} {v : V} (hy : ∀ k, Rep C a r (k :: p) v y) : ∀ {l : List D} {m n : Nat} {vs : List V}, RepL C a r p m vs l → RepL C a r p m (vs.set n v) (l.set n y)
  | [], m, n, vs, e => by simp only [RepL] at e; subst e; simp [RepL]
  | d :: l, m, 0, vs, ⟨u, us, e, h1, h2⟩ => by subst e; exact ⟨v, us, rfl, hy m, h2⟩
  | d :: l, m, n + 1, vs, ⟨u, us, e, h1, h2⟩ => by subst e; exact ⟨u, us.set n v, rfl, h1, repL_set hy h2⟩
section
variable {G : Gm} {W : WX} {σ : L2.St} {H : Hp} {Q : VK} {ma mb mc : EM Arg}
theorem isi_w {k : TyK} (h : tE G W (mIsi k ma) σ H Q) : tCB (rIsi G.C.K) (tCons (tArg G W ma) (tCons (tC (.ty k.nm)) tNil)) σ H Q := by
  obtain ⟨a, env, rfl, rel, post⟩ := h
  refine tArg_of rel post fun x e b v st r ar p => ?_
  dsimp only at p
  cases hx : x.get e with
  | none => rw [hx] at p; exact (show False from p).elim
  | some d =>
    rw [hx] at p
    dsimp only at p
    obtain ⟨d', hd, k'⟩ := p.lift r
    obtain ⟨r1, p1⟩ := ar.rep r hx
    cases hk : isK k d with
    | none => rw [hk] at hd; cases hd
    | some bb =>
      rw [hk] at hd; cases hd
      obtain ⟨t, h1, h2⟩ := isK_kit hk
      exact ⟨v, .ty k.nm, .type t, .type k.nm, bb, rfl, .ty _, rep_ty r.ok h1 p1, kit_ty h2, k' b (Grow.refl b) r.ok _ rep_ofbl⟩
theorem chain_w {g g' : D → D → Option D} (h : tE G W (mChain g g' ma mb mc) σ H Q) : tChain (rD G.C g) (rD G.C g') (tArg G W ma) (tArg G W mb) (tArg G W mc) σ H Q := by
  obtain ⟨a, env, rfl, rel, post⟩ := h
  refine tArg_of rel post fun x e1 b v s1 rel1 ar1 post1 => ?_
  refine tArg_of rel1 post1 fun y e2 c u s2 rel2 ar2 post2 => ?_
  have ar1 := ar1.step rel1.ok s2
  dsimp only at post2
  cases hx : x.get e2 with
  | none => simp only [hx] at post2; exact (show False from post2).elim
  | some d1 =>
    cases hy : y.get e2 with
    | none => simp only [hx, hy] at post2; exact (show False from post2).elim
    | some d2 =>
      simp only [hx, hy] at post2
      cases hg : g d1 d2 with
      | none => simp only [hg] at post2; exact (show False from post2).elim
      | some dd =>
        cases hb : dd.bool with
        | none => simp only [hg, Option.bind_some, hb] at post2; exact (show False from post2).elim
        | some bb =>
          simp only [hg, Option.bind_some, hb] at post2
          cases D.bool_eq hb
          obtain ⟨r1, p1⟩ := ar1.rep rel2 hx
          obtain ⟨r2, p2⟩ := ar2.rep rel2 hy
          refine ⟨c, d1, d2, r1, r2, _, rfl, rel2.ok, p1, p2, hg, fun z b' gr ok rp => ?_⟩
          cases rep_bl rp
          have rel3 := rel2.grow gr ok
          refine ⟨bb, rfl, ?_⟩
          cases bb with
          | false =>
            rw [if_neg Bool.false_ne_true]
            exact post2 b' gr.step rel3 _ rep_ofbl
          | true =>
            rw [if_pos rfl]
            refine tArg_of rel3 (PostR.step gr.step post2) fun z e3 c3 u3 s3 rel4 ar3 post3 => ?_
            dsimp only at post3
            have ar2 := (ar2.step rel2.ok gr.step).step ok s3
            cases hy : y.get e3 with
            | none => simp only [hy] at post3; exact (show False from post3).elim
            | some d2' =>
              cases hz : z.get e3 with
              | none => simp only [hy, hz] at post3; exact (show False from post3).elim
              | some d3 =>
                simp only [hy, hz] at post3
                obtain ⟨d, hd, k⟩ := post3.lift rel4
                obtain ⟨r3, p3⟩ := ar2.rep rel4 hy
                obtain ⟨r4, p4⟩ := ar3.rep rel4 hz
                exact ⟨c3, d2', d3, r3, r4, d, rfl, rel4.ok, p3, p4, hd, fun z b' gr ok rp => k b' gr ok z rp⟩
theorem noP_w {R : Option Int → Hp → Prop} (h : tO G W mNoP σ H R) : tNoPart σ H R := by
  obtain ⟨a, env, rfl, rel, post⟩ := h
  exact post a (Step.refl a) rel
theorem part_w {m : EM D} {R : Option Int → Hp → Prop} (h : tO G W (mPart m) σ H R) : tPart (tE G W m) σ H R := by
  obtain ⟨a, env, rfl, rel, post⟩ := h
  refine tE_of rel post fun x e b v st r rp p => ?_
  dsimp only at p
  cases x <;> dsimp only at p <;> first | exact (show False from p).elim | skip
  cases rep_int rp
  exact ⟨_, rfl, p b (Step.refl b) r⟩
theorem sl_w {ml mh : EM (Option Int)} (h : tE G W (mSl ma ml mh) σ H Q) : tSl (rSD G.C) (tArg G W ma) (tO G W ml) (tO G W mh) σ H Q := by
  obtain ⟨a, env, rfl, rel, post⟩ := h
  refine tArg_of rel post fun x e1 b v s1 rel1 ar1 post1 => ?_
  refine ⟨b, e1, rfl, rel1, post1.bind.imp fun lo e2 c s2 rel2 post2 => ?_⟩
  refine ⟨c, e2, rfl, rel2, post2.bind.imp fun hi e3 c3 s3 rel3 post3 => ?_⟩
  dsimp only at post3
  have ar1 := (ar1.step rel1.ok s2).step rel2.ok s3
  cases hx : x.get e3 with
  | none => rw [hx] at post3; exact (show False from post3).elim
  | some d1 =>
    rw [hx] at post3
    dsimp only at post3
    obtain ⟨d, hd, k⟩ := post3.lift rel3
    obtain ⟨r1, p1⟩ := ar1.rep rel3 hx
    exact ⟨c3, d1, r1, d, rfl, rel3.ok, p1, hd, fun z b' gr ok rp => k b' gr ok z rp⟩
/- the slot's own list changed at a place -/
theorem RelE.put {a : Wd} {env : EnvD} {j : Nat} {l : List D} {y : D} {v : V} {n s : Nat} {q : List Nat} (r : RelE G a σ env) (h : env[j]? = some (some (.lst true l))) (z : fz y = true) (hy : Rep G.C a s q v y) :
    ∃ x vs, σ[j]? = some (some (.ref x)) ∧ a.H x = some (.lst vs) ∧ vs.length = l.length ∧ Step a ⟨a.F, upd a.H x (.lst (vs.set n v)), a.t⟩ ∧ RelE G ⟨a.F, upd a.H x (.lst (vs.set n v)), a.t⟩ σ (env.set j (some (.lst true (l.set n y)))) := by
  obtain ⟨w, h1, h2⟩ := r.slot j _ h
  simp only [Rep] at h2
  obtain ⟨x, vs, rfl, hx, hl⟩ := h2
  rw [if_pos trivial] at hx
  obtain ⟨tx, hx⟩ := hx
  have ne : ∀ {y : Addr} {t : Option Tag}, a.t y = t → t ≠ some (j + 1, []) → y ≠ x := fun e ht => by rintro rfl; rw [tx] at e; exact ht e.symm
  have fx : a.F x = none := (r.ok.own x _ tx).1
  have up : ∀ {y : Addr}, y ≠ x → upd a.H x (.lst (vs.set n v)) y = a.H y := fun e => upd_ne e
  have ok' : Ok ⟨a.F, upd a.H x (.lst (vs.set n v)), a.t⟩ := by
    refine ⟨fun y o e => ?_, fun y t e => ?_⟩
    · have : y ≠ x := by rintro rfl; have e : a.F y = some o := e; rw [fx] at e; cases e
      show upd a.H x _ y = _
      rw [up this]; exact r.ok.sub y o e
    · obtain ⟨g1, o, g2⟩ := r.ok.own y t e
      by_cases q : y = x
      · subst q; exact ⟨g1, _, upd_same⟩
      · exact ⟨g1, o, by show upd a.H x _ y = _; rw [up q]; exact g2⟩
  have mv : ∀ {d : D} {r p} {v1 : V}, (∀ z, (r, z ++ p) ≠ (j + 1, ([] : List Nat))) → Rep G.C a r p v1 d → Rep G.C ⟨a.F, upd a.H x (.lst (vs.set n v)), a.t⟩ r p v1 d := fun {d r p v1} hne h => by
    have := Rep.to (C := G.C) (a := a) (b := ⟨a.F, upd a.H x (.lst (vs.set n v)), a.t⟩) (r := r) (s := r) (p := p) (q := p) (fun _ _ h => h) (fun y z o h e => ⟨h, by
      show upd a.H x _ y = _
      rw [up (ne h (by intro q; exact hne z (Option.some.inj q)))]; exact e⟩) d [] v1
    exact this h
  refine ⟨x, vs, h1, hx, hl.len, fun y o e t => ⟨by show upd a.H x _ y = _; rw [up (ne t (by simp))]; exact e, t, rfl⟩, ⟨ok', by rw [List.length_set]; exact r.len, fun i d e => ?_, r.prm⟩⟩
  by_cases ij : j = i
  · subst ij
    have hj : j < env.length := (List.getElem?_eq_some_iff.mp h).1
    rw [List.getElem?_set_self hj] at e
    cases e
    refine ⟨.ref x, h1, ?_⟩
    simp only [Rep]
    refine ⟨x, vs.set n v, rfl, ?_, ?_⟩
    · rw [if_pos trivial]; exact ⟨tx, upd_same⟩
    · exact repL_set (fun k => Rep.fz (a := a) (b := ⟨a.F, upd a.H x (.lst (vs.set n v)), a.t⟩) (fun _ _ h => h) y _ _ v z hy) (repL_map (fun d k v1 h => mv (by simp) h) hl)
  · rw [List.getElem?_set_ne ij] at e
    obtain ⟨w, e1, e2⟩ := r.slot i d e
    exact ⟨w, e1, mv (by intro z q; exact ij (Nat.succ.inj (congrArg Prod.fst q)).symm) e2⟩
theorem set_w {j : Nat} {mi mv : EM D} {D : Ends} (h : tS G W (mSet j mi mv) D σ H) : tAsg (tE G W mv) (gSub (tVar j) (tE G W mi) rSetL) D σ H := by
  obtain ⟨a, env, rfl, rel, post⟩ := h
  refine tE_ofS rel post fun y e1 b v st r1 rv p1 => ?_
  dsimp only at p1
  split at p1
  · rename_i dj hj0
    obtain ⟨zy, ry⟩ := frzQ_rep (s := 0) (q := []) r1.ok rv
    have r1' := r1.frz0
    obtain ⟨w, hw, _⟩ := r1.slot j _ hj0
    refine ⟨w, hw, ?_⟩
    show tE G W mi σ (frzW b 0).H _
    refine (frz_w (m := mi) (Q := fun i H2 => rSetL w i v H2 fun H3 => D.nx σ H3) ?_)
    refine tArg_ofS r1' (PostS.step frzW_step p1) fun x e2 c u s2 r2 ar p2 => ?_
    dsimp only at p2
    split at p2
    · rename_i d i hj hi
      cases hs : setQ d i (frzQ y) with
      | none => rw [hs] at p2; exact (show False from p2).elim
      | some d' =>
        rw [hs] at p2
        dsimp only at p2
        obtain ⟨ri, pi⟩ := ar.rep r2 hi
        unfold setQ at hs
        split at hs
        · rename_i l k
          cases rep_int pi
          cases hk : ixN l.length k with
          | none => rw [hk] at hs; cases hs
          | some n =>
            rw [hk] at hs; cases hs
            obtain ⟨xx, vs, g1, g2, g3, g4, g5⟩ := r2.put (n := n) (s := 0) (q := []) hj zy (ry.step r1'.ok s2 zy)
            rw [hw] at g1; cases g1
            refine ⟨xx, vs, k, n, rfl, rfl, g2, by rw [g3]; exact hk, p2 _ σ g4 g5⟩
        · cases hs
    · exact (show False from p2).elim
  · exact (show False from p1).elim
end
end Mi
namespace L2
open PySem PySem.Spec PyProof.Rows
theorem PE.weak {X : Cx} {e : Expr} {t u : TE} (h : PE X e t) (w : ∀ σ H Q, u σ H Q → t σ H Q) : PE X e u := Mi.PE.weak h w
theorem PT.weak {X : Cx} {e : Expr} {t u : TT} (h : PT X e t) (w : ∀ σ H Q, u σ H Q → t σ H Q) : PT X e u := Mi.PT.weak h w
theorem PW.weak {X : Cx} {e : Expr} {t u : TT} (h : PW X e t) (w : ∀ σ H Q, u σ H Q → t σ H Q) : PW X e u := Mi.PW.weak h w
theorem PA.weak {X : Cx} {e : List Expr} {t u : TA} (h : PA X e t) (w : ∀ σ H Q, u σ H Q → t σ H Q) : PA X e u := Mi.PA.weak h w
theorem PS.weak {X : Cx} {e : Stmt} {t u : TS} (h : PS X e t) (w : ∀ D σ H, u D σ H → t D σ H) : PS X e u := Mi.PS.weak h w
theorem PSs.weak {X : Cx} {e : List Stmt} {t u : TS} (h : PSs X e t) (w : ∀ D σ H, u D σ H → t D σ H) : PSs X e u := Mi.PSs.weak h w
theorem PI.weak {X : Cx} {tg e : Expr} {t u : TI} (h : PI X tg e t) (w : ∀ σ H R, u σ H R → t σ H R) : PI X tg e u := Mi.PI.weak h w
end L2
namespace Mi
open PySem PySem.Spec PyProof.Rows L2

/-! ### rules: expressions -/
section
variable {X : Cx} {G : Gm} {W : WX} {lv : Nat} {a b c e : Expr} {es : List Expr} {ma mb mc : EM Arg} {m n : EM D} {ms : List (EM Arg)} {mas : EM (List Arg)} {pos p : Pos} {x : Str}
theorem r_int {i : Int} {j} : PE X (.Constant (.int i) j pos) (tE G W (mC (.int i))) := pe_int.weak fun _ _ _ q => c_w (fun _ _ => by simp [Rep]) q
theorem r_str {i : Str} {j} : PE X (.Constant (.str i) j pos) (tE G W (mC (.str i))) := pe_str.weak fun _ _ _ q => c_w (fun _ _ => by simp [Rep]) q
theorem r_bl {i : Bool} {j} : PE X (.Constant (.bool i) j pos) (tE G W (mC (.bl i))) := pe_bl.weak fun _ _ _ q => c_w (fun _ _ => by simp [Rep]) q
theorem r_non {j} : PE X (.Constant .none j pos) (tE G W (mC .non)) := pe_non.weak fun _ _ _ q => c_w (fun _ _ => by simp [Rep]) q
theorem r_frz (h : PE X e (tE G W m)) : PE X e (tArg G W (mFrz m)) := h.weak fun _ _ _ q => frz_w q
theorem r_varA (i : Nat) (hN : X.N[i]? = some x) (hv : Vis X.env.scope x) (hd : (x == ("__debug__" : Str)) = false := by decide) (hcd : (x == ("__classdict__" : Str)) = false := by decide) : PE X (.Name x pos) (tArg G W (mVarA i)) :=
  (pe_var hN hv hd hcd).weak fun _ _ _ q => varA_w q
theorem r_varE (i : Nat) (hN : X.N[i]? = some x) (hv : Vis X.env.scope x) (hd : (x == ("__debug__" : Str)) = false := by decide) (hcd : (x == ("__classdict__" : Str)) = false := by decide) : PE X (.Name x pos) (tE G W (mVarE i)) :=
  (pe_var hN hv hd hcd).weak fun _ _ _ q => varE_w q
theorem r_varM (np i : Nat) (hN : X.N[i]? = some x) (hv : Vis X.env.scope x) (hd : (x == ("__debug__" : Str)) = false := by decide) (hcd : (x == ("__classdict__" : Str)) = false := by decide) : PE X (.Name x pos) (tE G W (mVarM np i)) :=
  (pe_var hN hv hd hcd).weak fun _ _ _ q => varM_w q
/- a module's constant -/
theorem r_gInt (s : St0 X G) {i : Int} (hm : ∃ t, G.C.mg x = some (.int i t)) (hg : Gl X x) (hd : (x == ("__debug__" : Str)) = false := by decide) : PE X (.Name x pos) (tE G W (mC (.int i))) := by
  obtain ⟨t, hm⟩ := hm
  exact (pe_glob (v := .int i) hg (by rw [s.m]; exact hm) ⟨_, rfl⟩ hd).weak fun _ _ _ q => c_w (fun _ _ => by simp [Rep]) q
theorem r_gStr (s : St0 X G) {i : Str} (hm : ∃ t, G.C.mg x = some (.str i t)) (hg : Gl X x) (hd : (x == ("__debug__" : Str)) = false := by decide) : PE X (.Name x pos) (tE G W (mC (.str i))) := by
  obtain ⟨t, hm⟩ := hm
  exact (pe_glob (v := .str i) hg (by rw [s.m]; exact hm) ⟨_, rfl⟩ hd).weak fun _ _ _ q => c_w (fun _ _ => by simp [Rep]) q
theorem r_tup {k} (h : PA X es (tArgs G W mas)) : PE X (.Tuple es k pos) (tE G W (mTup mas)) := (pe_tupX h).weak fun _ _ _ q => tup_w q
theorem r_lst (h : PA X es (tArgs G W mas)) : PE X (.List es pos) (tE G W (mLst mas)) := (pe_lst h).weak fun _ _ _ q => lst_w q
theorem r_dic0 : PE X (.Dict [] [] pos) (tE G W mDic0) := pe_dnewK.weak fun _ _ _ q => dic0_w q
theorem r_nil : PA X [] (tArgs G W (mArgs [])) := pa_nil.weak fun _ _ _ q => args_nil_w q
theorem r_cons (ha : PE X e (tArg G W ma)) (hr : PA X es (tArgs G W (mArgs ms))) (hs : starEach (e :: es) X.env = (false, eval e X.env) :: starEach es X.env := by rfl) : PA X (e :: es) (tArgs G W (mArgs (ma :: ms))) :=
  (pa_cons ha hr hs).weak fun _ _ _ q => args_cons_w q
theorem r_bin (s : St0 X G) {op : Operator} {g : D → D → Option D} (h : binD op = some g) (ha : PE X a (tArg G W ma)) (hb : PE X b (tArg G W mb)) : PE X (.BinOp a op b pos) (tE G W (mBin g ma mb)) :=
  (pe_op (op_binD s.k.symm h) ha hb).weak fun _ _ _ q => bin_w q
theorem r_neg (ha : PE X a (tArg G W ma)) : PE X (.UnaryOp .USub a pos) (tE G W (mUn negD ma)) := (pe_un un_negD ha).weak fun _ _ _ q => un_w q
def cmpD : CmpOp → Option (D → D → Option D)
  | .Eq => some eqD | .NotEq => some neD | .Lt => some ltD | .LtE => some leD | .Gt => some gtD | .GtE => some geD
  | .In => some inD | .NotIn => some ninD | .Is => some isD | .IsNot => some nisD
theorem op_cmpD (s : St0 X G) {op : CmpOp} {g : D → D → Option D} (h : cmpD op = some g) : OpR X (compareOp op) (rD G.C g) := by
  have u1 : X.A.units + 1 < cLine := by have := s.u; omega
  cases op <;> cases h
  · exact op_eqDD s.k.symm s.u
  · exact op_neDD s.k.symm s.u
  · exact op_ltD
  · exact op_leD
  · exact op_gtD
  · exact op_geD
  · exact op_isD s.k.symm
  · exact op_nisD s.k.symm
  · exact op_inD s.k.symm u1
  · exact op_ninD s.k.symm u1
theorem r_cmp (s : St0 X G) {op : CmpOp} {g : D → D → Option D} (h : cmpD op = some g) (ha : PE X a (tArg G W ma)) (hb : PE X b (tArg G W mb)) (hm : behindInMarks op b = false := by first | rfl | exact nobehind _ (by decide) (by decide)) : PE X (.Compare a [op] [b] pos) (tE G W (mBin g ma mb)) :=
  (pe_cmpR (op_cmpD s h) ha hb hm).weak fun _ _ _ q => bin_w q
theorem rt_cmp (s : St0 X G) {op : CmpOp} {g : D → D → Option D} (h : cmpD op = some g) (ha : PE X a (tArg G W ma)) (hb : PE X b (tArg G W mb)) (hm : behindInMarks op b = false := by first | rfl | exact nobehind _ (by decide) (by decide)) : PT X (.Compare a [op] [b] pos) (tT G W (mTB (mBin g ma mb))) :=
  (pt_cmpR (op_cmpD s h) ha hb hm).weak fun _ _ _ q => bin_w (tb_w q)
theorem r_chain (s : St0 X G) {op op' : CmpOp} {g g' : D → D → Option D} (h : cmpD op = some g) (h' : cmpD op' = some g') (ha : PE X a (tArg G W ma)) (hb : PE X b (tArg G W mb)) (hc : PE X c (tArg G W mc)) (hm : lastMarks [op, op'] [b, c] = false := by with_unfolding_all rfl) :
    PE X (.Compare a [op, op'] [b, c] pos) (tE G W (mChain g g' ma mb mc)) := (pe_chain (op_cmpD s h) (op_cmpD s h') ha hb hc hm).weak fun _ _ _ q => chain_w q
theorem rt_chain (s : St0 X G) {op op' : CmpOp} {g g' : D → D → Option D} (h : cmpD op = some g) (h' : cmpD op' = some g') (ha : PE X a (tArg G W ma)) (hb : PE X b (tArg G W mb)) (hc : PE X c (tArg G W mc)) (hm : lastMarks [op, op'] [b, c] = false := by with_unfolding_all rfl) :
    PT X (.Compare a [op, op'] [b, c] pos) (tT G W (mTB (mChain g g' ma mb mc))) := (pt_chain (op_cmpD s h) (op_cmpD s h') ha hb hc hm).weak fun _ _ _ q => chain_w (tb_w q)
/-! values of and, or, not, if -/
theorem r_one {op} (h : PE X a (tE G W m)) : PE X (.BoolOp op [a] pos) (tE G W m) := pe_one h
theorem r_and (ha : PE X a (tE G W m)) (hb : PE X (.BoolOp .And (b :: es) pos) (tE G W n)) : PE X (.BoolOp .And (a :: b :: es) pos) (tE G W (mAndV m n)) := (pe_and ha hb).weak fun _ _ _ q => andV_w q
theorem r_or (ha : PE X a (tE G W m)) (hb : PE X (.BoolOp .Or (b :: es) pos) (tE G W n)) : PE X (.BoolOp .Or (a :: b :: es) pos) (tE G W (mOrV m n)) := (pe_or ha hb).weak fun _ _ _ q => orV_w q
theorem r_not (ha : PE X a (tE G W m)) : PE X (.UnaryOp .Not a pos) (tE G W (mNotV m)) := (pe_not ha).weak fun _ _ _ q => notV_w q
variable {mt nt : EM Bool}
theorem r_ifE (hc : PT X c (tT G W mt)) (ha : PE X a (tE G W m)) (hb : PE X b (tE G W n)) : PE X (.IfExp c a b pos) (tE G W (mIfE mt m n)) := (pe_ifExp hc ha hb).weak fun _ _ _ q => ifE_w q
/-! tests -/
theorem rt_and1 (h : PT X a (tT G W mt)) : PW X (.BoolOp .And [a] pos) (tT G W mt) := pw_and1 h
theorem rt_or1 (h : PT X a (tT G W mt)) : PW X (.BoolOp .Or [a] pos) (tT G W mt) := pw_or1 h
theorem rt_and (h : PT X a (tT G W mt)) (hb : PW X (.BoolOp .And (b :: es) pos) (tT G W nt)) : PW X (.BoolOp .And (a :: b :: es) pos) (tT G W (mAndT mt nt)) := (pw_and h hb).weak fun _ _ _ q => and_w q
theorem rt_or (h : PT X a (tT G W mt)) (hb : PW X (.BoolOp .Or (b :: es) pos) (tT G W nt)) : PW X (.BoolOp .Or (a :: b :: es) pos) (tT G W (mOrT mt nt)) := (pw_or h hb).weak fun _ _ _ q => or_w q
theorem rt_not (h : PT X a (tT G W mt)) : PT X (.UnaryOp .Not a pos) (tT G W (mNotT mt)) := (pt_not h).weak fun _ _ _ q => not_w q
theorem rt_bl (h : PE X e (tE G W m)) (he : ∀ whole, isTrue e X.env whole = (do let v ← whole; standAt e.pos; holding [v] (truthy v)) := by intro _; rfl) : PT X e (tT G W (mTB m)) := (pt_val h he).weak fun _ _ _ q => tb_w q
theorem rt_tru (s : St0 X G) (h : PE X e (tArg G W ma)) (he : ∀ whole, isTrue e X.env whole = (do let v ← whole; standAt e.pos; holding [v] (truthy v)) := by intro _; rfl) : PT X e (tT G W (mTru ma)) := (pt_truth h he).weak fun _ _ _ q => by
  have := tru_w q
  rw [s.k]; exact this
/-! subscripts -/
theorem r_ix (s : St0 X G) (ha : PE X a (tArg G W ma)) (hb : PE X b (tArg G W mb)) (hs : PlainIx b := by intro _ _; rfl) : PE X (.Subscript a b pos) (tE G W (mBin ixD ma mb)) := (pe_ix (ix_D s.k.symm (by have := s.u; omega)) ha hb hs).weak fun _ _ _ q => bin_w q
variable {lo hi : Option Expr} {ml mh : EM (Option Int)} {p2 : Pos}
theorem PO.weak {o : Option Expr} {t u : TO} (h : PO X o t) (w : ∀ σ H Q, u σ H Q → t σ H Q) : PO X o u := ⟨fun pins s σ H Q I q => h.run pins s σ H Q I (w σ H Q q)⟩
theorem r_noP : PO X none (tO G W mNoP) := PO.weak po_none fun _ _ _ q => noP_w q
theorem r_part (h : PE X e (tE G W m)) : PO X (some e) (tO G W (mPart m)) := PO.weak (po_some h) fun _ _ _ q => part_w q
theorem r_sl (s : St0 X G) (ha : PE X a (tArg G W ma)) (hl : PO X lo (tO G W ml)) (hh : PO X hi (tO G W mh)) : PE X (.Subscript a (.Slice lo hi none p2) pos) (tE G W (mSl ma ml mh)) := (pe_slice (sl_D s.k.symm) ha hl hh).weak fun _ _ _ q => sl_w q
/-! builtins -/
theorem r_isi (s : St0 X G) (k : TyK) {tn : Str} {p3 : Pos} (ha : PE X a (tArg G W ma)) (h1 : G.C.mg "isinstance" = none) (h2 : G.C.mg tn = none) (hg : Gl X "isinstance") (hgt : Gl X tn) (hv : bootBuiltins tn = some (.type k.nm)) (hv1 : bootBuiltins "isinstance" = some (.builtin "isinstance"))
    (hn : tn ≠ "__name__" := by decide) (hd : (tn == ("__debug__" : Str)) = false := by decide)
    (hs : starEach [a, .Name tn p3] X.env = (false, eval a X.env) :: starEach [.Name tn p3] X.env := by rfl) (hpl : (backTo pos (starEach [Expr.Name tn p3] X.env)).any (·.1) = false := by rfl) :
    PE X (.Call (.Name "isinstance" p) [a, .Name tn p3] [] pos) (tE G W (mIsi k ma)) :=
  (pe_callB call_isi hg (by rw [s.m]; exact h1) hv1 (pa_cons ha (pa_cons (pe_bltn hgt (by rw [s.m]; exact h2) hv (show RelV (.ty k.nm) _ from rfl) hn hd) pa_nil) hs) (by decide) (by decide) hs hpl).weak fun _ _ _ q => by
    have := isi_w q
    rw [s.k]; exact this
theorem r_cb (s : St0 X G) {id : String} {g : List D → Option D} (hc : CallR X (.builtin id) (cD G.C g)) (hm : G.C.mg x = none) (hv : bootBuiltins x = some (.builtin id)) (hg : Gl X x) (ha : PA X (e :: es) (tArgs G W mas)) (hn : x ≠ "__name__" := by decide) (hdb : (x == ("__debug__" : Str)) = false := by decide)
    (he : starEach (e :: es) X.env = (false, eval e X.env) :: starEach es X.env := by rfl) (hpl : (backTo pos (starEach es X.env)).any (·.1) = false := by rfl) : PE X (.Call (.Name x p) (e :: es) [] pos) (tE G W (mCB g mas)) :=
  (pe_callB hc hg (by rw [s.m]; exact hm) hv ha hn hdb he hpl).weak fun _ _ _ q => cb_w q
theorem r_cty (s : St0 X G) {id : String} {g : List D → Option D} (hc : CallR X (.type id) (cD G.C g)) (hm : G.C.mg x = none) (hv : bootBuiltins x = some (.type id)) (hg : Gl X x) (ha : PA X (e :: es) (tArgs G W mas)) (hn : x ≠ "__name__" := by decide) (hdb : (x == ("__debug__" : Str)) = false := by decide)
    (he : starEach (e :: es) X.env = (false, eval e X.env) :: starEach es X.env := by rfl) (hpl : (backTo pos (starEach es X.env)).any (·.1) = false := by rfl) : PE X (.Call (.Name x p) (e :: es) [] pos) (tE G W (mCB g mas)) :=
  (pe_callTy hc hg (by rw [s.m]; exact hm) hv ha hn hdb he hpl).weak fun _ _ _ q => cb_w q
end

/-! ### rules: own defs -/
structure Fn (C : KM) (k : Nat) (x : Str) (g : List D → Res (D × EnvD)) : Prop where
  ex : ∃ (a : Addr) (fd : FuncData) (ps : List Str), C.mg x = some (.ref a) ∧ PySem.W.keepIn C.K (.ref a) = true ∧ Binds C.K fd ps [] ∧ ∀ base : Heap, C.K.In base → base.Ns mainGlobals C.mg → FnOk C.P C.w C.K C.mg base (L2.CX C.P C.w) k a fd ps (spD C g)
section
variable {X : Cx} {G : Gm} {W : WX} {lv j : Nat} {e : Expr} {es : List Expr} {mas : EM (List Arg)} {pos p : Pos} {x : Str} {g : List D → Res (D × EnvD)}
theorem Fn.call (F : Fn G.C j x g) (s : Go X G W lv) (h : j ≤ lv) : ∃ a, G.C.mg x = some (.ref a) ∧ PySem.W.keepIn G.C.K (.ref a) = true ∧ CallOk G.C X g (.ref a) := by
  obtain ⟨a, fd, ps, h1, h2, h3, h4⟩ := F.ex
  refine ⟨a, h1, h2, fun W' tk pins s0 σ H us vs Q I r hsp => ?_⟩
  have hk : G.C.K.In X.base := by rw [← s.k]; exact I.ok.mod.kin
  have hb : X.base.Ns mainGlobals G.C.mg := by rw [← s.m]; exact I.ok.mod.glob
  have F' := h4 X.base hk hb
  have e1 := s.p; have e2 := s.w; have e3 := s.k; have e4 := s.m
  rw [← e1, ← e2, ← e3, ← e4] at F'
  rw [← e3] at h3
  exact run_fnS (E := WE W') F' (s.rm.mono h) h3 (passAt tk σ) I r hsp
theorem r_call (s : Go X G W lv) (F : Fn G.C j x g) (hj : j ≤ lv) (hg : Gl X x) (ha : PA X (e :: es) (tArgs G W mas)) (hdb : (x == ("__debug__" : Str)) = false := by decide) (he : starEach (e :: es) X.env = (false, eval e X.env) :: starEach es X.env := by rfl)
    (hpl : (backTo pos (starEach es X.env)).any (·.1) = false := by rfl) : PE X (.Call (.Name x p) (e :: es) [] pos) (tE G W (mCall g mas)) := by
  obtain ⟨a, h1, h2, h3⟩ := F.call s hj
  exact pe_callD h3 s.tk hg (by rw [s.m]; exact h1) (by rw [s.k]; exact h2) ha hdb he hpl
theorem r_call0 (s : Go X G W lv) (F : Fn G.C j x g) (hj : j ≤ lv) (hg : Gl X x) (hdb : (x == ("__debug__" : Str)) = false := by decide) : PE X (.Call (.Name x p) [] [] pos) (tE G W (mCall g (mArgs []))) := by
  obtain ⟨a, h1, h2, h3⟩ := F.call s hj
  exact pe_callD0 h3 s.tk hg (by rw [s.m]; exact h1) (by rw [s.k]; exact h2) hdb
end

/-! ### rules: walks, targets -/
section
variable {X : Cx} {G : Gm} {W : WX} {lv : Nat} {a b e tg : Expr} {es : List Expr} {ma : EM Arg} {mas : EM (List Arg)} {pos p : Pos} {x : Str}
theorem ri_rng1 (s : St0 X G) (h1 : G.C.mg "range" = none) (hg : Gl X "range") (ha : PA X [a] (tArgs G W mas)) (hs : starEach [a] X.env = [(false, eval a X.env)] := by rfl) : PI X tg (.Call (.Name "range" p) [a] [] pos) (tI G W (mIt mas rng1)) :=
  (pi_range1 hg (by rw [s.m]; exact h1) ha hs).weak fun _ _ _ q => rng1_w q
theorem ri_rng2 (s : St0 X G) (h1 : G.C.mg "range" = none) (hg : Gl X "range") (ha : PA X [a, b] (tArgs G W mas)) (hs : starEach [a, b] X.env = [(false, eval a X.env), (false, eval b X.env)] := by rfl) (hs2 : starEach [b] X.env = [(false, eval b X.env)] := by rfl) : PI X tg (.Call (.Name "range" p) [a, b] [] pos) (tI G W (mIt mas rng2)) :=
  (pi_range2 hg (by rw [s.m]; exact h1) ha hs hs2).weak fun _ _ _ q => rng2_w q
theorem ri_val (s : St0 X G) (ha : PE X e (tArg G W ma)) : PI X tg e (tI G W (mIt1 ma)) :=
  (pi_or (pi_list ha) (pi_or (pi_tup ha) (pi_str ha))).weak fun _ _ _ q => by
    have := it1_w q
    rw [s.k]; exact this
theorem rg_nm (s : St0 X G) (i : Nat) (hi : X.N[i]? = some x) (hx : Loc X.env.scope x) (hf : X.fn x = true ∨ X.env.scope.names.lookup x = some .local := by first | exact .inl rfl | exact .inr rfl) : PG X (.Name x pos) (gT G.C.K (.nm i)) := by
  have := pg_name (pos := pos) s.n hi hx hf
  simpa only [gT] using this
theorem rg_nil : PGs X [] (gTs G.C.K []) := by simpa only [gTs] using pgs_nil
theorem rg_cons {t : Tgt} {ts : List Tgt} (h1 : PG X e (gT G.C.K t)) (h2 : PGs X es (gTs G.C.K ts)) (hs : (assignEach (e :: es) X.env).map (·.2) = assign e X.env :: (assignEach es X.env).map (·.2) := by rfl) : PGs X (e :: es) (gTs G.C.K (t :: ts)) := by
  simpa only [gTs] using pgs_cons h1 h2 hs
theorem rg_tup (s : St0 X G) (cm : X.calm = true) {k : Nat} {ts : List Tgt} (h : PGs X es (gTs G.C.K ts)) (hn : (assignEach es X.env).length = ts.length := by rfl) (hst : (assignEach es X.env).findIdx? (·.1) = none := by rfl) : PG X (.Tuple es k pos) (gT G.C.K (.tp ts)) := by
  have := pg_tup (pos := pos) (k := k) (n := ts.length) cm h hn hst
  rw [s.k] at this
  simpa only [gT] using this
end
end Mi
namespace Mi
open PySem PySem.Spec PyProof.Rows L2

/-! ### rules: statements -/
section
variable {X : Cx} {G : Gm} {W : WX} {lv : Nat} {a b c e tg : Expr} {es : List Expr} {st : Stmt} {sts sus : List Stmt} {m n : EM D} {ma : EM Arg} {mas : EM (List Arg)} {mt : EM Bool} {ms ns : EM FlowD} {mi : EM (List D)} {pos p : Pos} {x : Str}
theorem rs_nil : PSs X [] (tS G W mNext) := pss_nil.weak fun _ _ _ q => next_w q
theorem rs_cons (h1 : PS X st (tS G W ms)) (h2 : PSs X sts (tS G W ns)) : PSs X (st :: sts) (tS G W (mSeq ms ns)) := (pss_cons h1 h2).weak fun _ _ _ q => seq_w q
theorem rs_one (h1 : PS X st (tS G W ms)) : PSs X [st] (tS G W ms) := pss_one h1
theorem rs_pass : PS X (.Pass pos) (tS G W mNext) := ps_pass.weak fun _ _ _ q => next_w q
theorem rs_brk : PS X (.Break pos) (tS G W mBrk) := ps_break.weak fun _ _ _ q => brk_w q
theorem rs_cnt : PS X (.Continue pos) (tS G W mCnt) := ps_continue.weak fun _ _ _ q => cnt_w q
theorem rs_if (hc : PT X c (tT G W mt)) (ha : PSs X sts (tS G W ms)) (hb : PSs X sus (tS G W ns)) : PS X (.If c sts sus pos) (tS G W (mIfS mt ms ns)) := (ps_if hc ha hb).weak fun _ _ _ q => ifS_w q
theorem rs_ret (h : PE X e (tE G W m)) : PS X (.Return (some e) pos) (tS G W (mRet m)) := (ps_ret h).weak fun _ _ _ q => ret_w q
theorem rs_retN : PS X (.Return none pos) (tS G W mRetN) := ps_retN.weak fun _ _ _ q => retN_w q
theorem rs_expr (h : PE X e (tE G W m)) (hs : swapsWith e none pos.line X.env = pure false := by rfl) : PS X (.Expr e pos) (tS G W (mDrop m)) := (ps_expr h hs).weak fun _ _ _ q => drop_w q
theorem rs_set (s : St0 X G) (i : Nat) {pos' : Pos} (hio : i ∉ G.io) (hi : X.N[i]? = some x) (hx : Loc X.env.scope x) (he : PE X e (tE G W m)) (hs : swapsWith e (some (.Name x pos')) pos.line X.env = pure false := by rfl)
    (hf : X.fn x = true ∨ X.env.scope.names.lookup x = some .local := by first | exact .inl rfl | exact .inr rfl) : PS X (.Assign [.Name x pos'] e pos) (tS G W (mAsg i m)) := (ps_set s.n hi hx he hs hf).weak fun _ _ _ q => asg_w hio q
theorem rs_setT (t : Tgt) (hio : Tgt.off G.io t) (he : PE X e (tE G W m)) (hg : PG X tg (gT G.C.K t)) (hs : swapsWithSole [tg] e pos.line X.env = pure false := by rfl) (hw : swappedStores [tg] e X.env = pure none := by rfl)
    (h1 : (assignEach [tg] X.env).map (·.2) = [assign tg X.env] := by rfl) : PS X (.Assign [tg] e pos) (tS G W (mAsgT t m)) := (ps_asg he hg hs hw h1).weak fun _ _ _ q => asgT_w hio q
theorem rs_par (s : St0 X G) (cm : X.calm = true) (i j : Nat) {y : Str} {px py pt : Pos} {kt k2 pt2} (ioi : i ∉ G.io) (ioj : j ∉ G.io) (hi : X.N[i]? = some x) (hj : X.N[j]? = some y) (hij : i ≠ j)
    (hx : X.env.scope.names.lookup x = some .local) (hy : X.env.scope.names.lookup y = some .local) (ha : PA X [a, b] (tArgs G W mas)) (hw : swappedStores [.Tuple [.Name x px, .Name y py] kt pt] (.Tuple [a, b] k2 pt2) X.env = pure (some [x, y]))
    (hs : swapsWithSole [.Tuple [.Name x px, .Name y py] kt pt] (.Tuple [a, b] k2 pt2) pos.line X.env = pure false := by rfl) : PS X (.Assign [.Tuple [.Name x px, .Name y py] kt pt] (.Tuple [a, b] k2 pt2) pos) (tS G W (mPar i j mas)) :=
  (ps_par cm s.n hi hj hij hx hy ha hw hs).weak fun _ _ _ q => par_w ioi ioj q
theorem rs_put (j : Nat) {pos' : Pos} (hN : X.N[j]? = some x) (hv : Vis X.env.scope x) (hi : PE X a (tE G W n)) (he : PE X e (tE G W m)) (hs : swapsWithSole [.Subscript (.Name x p) a pos'] e pos.line X.env = pure false := by rfl) (hw : swappedStores [.Subscript (.Name x p) a pos'] e X.env = pure none := by rfl)
    (h1 : (assignEach [.Subscript (.Name x p) a pos'] X.env).map (·.2) = [assign (.Subscript (.Name x p) a pos') X.env] := by rfl)
    (ha : ∀ v, assign (.Subscript (.Name x p) a pos') X.env v = (do
      let ov ← holding [v] (eval (.Name x p) X.env)
      let iv ← holding [v, ov] (eval a X.env)
      standAt pos'
      holding [v, ov, iv] (setItem ov iv v)
      release [v, ov, iv] []) := by intro _; rfl) (hd : (x == ("__debug__" : Str)) = false := by decide) (hcd : (x == ("__classdict__" : Str)) = false := by decide) : PS X (.Assign [.Subscript (.Name x p) a pos'] e pos) (tS G W (mSet j n m)) :=
  (ps_asg he (pg_sub (pe_var hN hv hd hcd) hi set_list ha) hs hw h1).weak fun _ _ _ q => set_w q
theorem rs_for (s : Go X G W lv) (t : Tgt) (hio : Tgt.off G.io t) (hi : PI X tg e (tI G W mi)) (hg : PG X tg (gT G.C.K t)) (hb : PSs X sts (tS G W ms)) (hs : ∀ x, foldedSetIterable e X.env x = pure x := by intro _; rfl) : PS X (.For tg e sts [] pos) (tS G W (mFor mi t ms)) :=
  (ps_for s.pw s.cm hi hg hb hs).weak fun _ _ _ q => for_w hio q
theorem rs_while (s : Go X G W lv) (fuel : EnvD → Nat) (hc : PT X c (tT G W mt)) (hb : PSs X sts (tS G W ms)) : PS X (.While c sts [] pos) (tS G W (mWhile fuel mt ms)) :=
  (ps_while s.pw hc hb).weak fun _ _ _ q => while_w q
/-! comprehensions -/
theorem rts_nil : PTs X [] (tT G W mYes) := ⟨fun pins s σ H Q I h => pts_nil.run pins s σ H Q I (by
  obtain ⟨a, env, rfl, rel, post⟩ := h
  exact post a (Step.refl a) rel)⟩
theorem rts_one (h : PT X c (tT G W mt)) : PTs X [c] (tT G W mt) := pts_one h
theorem r_lc {elt : Expr} {ifs : List Expr} {scope : Scope} (s : Go X G W lv) (own : List (Str × Nat)) (t : Tgt) (hio : Tgt.off G.io t) (hio2 : ∀ i ∈ G.io, i ∉ own.map (·.2)) (hown : Tgt.ins (own.map (·.2)) t) (hi : PI X tg e (tI G W mi)) (ok : BlkOk X.N X.env.scope scope own)
    (hg : ∀ (s : Shared) (H : Hp) (C : Addr) (cl : List (Str × Addr)) (fp : List Addr), PG (X.blk s H scope (compEnvC scope cl C X.env) fp) tg (gT G.C.K t))
    (ht : ∀ (s : Shared) (H : Hp) (C : Addr) (cl : List (Str × Addr)) (fp : List Addr), Go (X.blk s H scope (compEnvC scope cl C X.env) fp) G W0 lv → PTs (X.blk s H scope (compEnvC scope cl C X.env) fp) ifs (tT G W0 mt))
    (he : ∀ (s : Shared) (H : Hp) (C : Addr) (cl : List (Str × Addr)) (fp : List Addr), Go (X.blk s H scope (compEnvC scope cl C X.env) fp) G W0 lv → PE (X.blk s H scope (compEnvC scope cl C X.env) fp) elt (tE G W0 m)) (hs : ∀ x, foldedSetIterable e X.env x = pure x := by intro _; rfl) :
    PE X (.ListComp elt [⟨tg, e, ifs, 0⟩] scope pos) (tE G W (mLc mi t mt m (own.map (·.2)))) :=
  (pe_lc s.cm s.n hi ok hg (fun s0 H C cl fp => ht s0 H C cl fp (s.blk ..)) (fun s0 H C cl fp => he s0 H C cl fp (s.blk ..)) hs).weak fun _ _ _ q => lc_w hio hio2 hown q
theorem rs_lc {elt : Expr} {ifs : List Expr} {scope : Scope} {py : Pos} (s : Go X G W lv) (i : Nat) (own : List (Str × Nat)) (t : Tgt) (hioi : i ∉ G.io) (hio : Tgt.off G.io t) (hio2 : ∀ i ∈ G.io, i ∉ own.map (·.2)) (hown : Tgt.ins (own.map (·.2)) t)
    (hy : X.N[i]? = some x) (hyl : X.env.scope.names.lookup x = some .local) (hsw : swapsWith (.ListComp elt [⟨tg, e, ifs, 0⟩] scope p) (some (.Name x py)) pos.line X.env = pure true) (hi : PI X tg e (tI G W mi)) (ok : BlkOk X.N X.env.scope scope own)
    (hg : ∀ (s : Shared) (H : Hp) (C : Addr) (cl : List (Str × Addr)) (fp : List Addr), PG (X.blk s H scope (compEnvC scope cl C X.env) fp) tg (gT G.C.K t))
    (ht : ∀ (s : Shared) (H : Hp) (C : Addr) (cl : List (Str × Addr)) (fp : List Addr), Go (X.blk s H scope (compEnvC scope cl C X.env) fp) G W0 lv → PTs (X.blk s H scope (compEnvC scope cl C X.env) fp) ifs (tT G W0 mt))
    (he : ∀ (s : Shared) (H : Hp) (C : Addr) (cl : List (Str × Addr)) (fp : List Addr), Go (X.blk s H scope (compEnvC scope cl C X.env) fp) G W0 lv → PE (X.blk s H scope (compEnvC scope cl C X.env) fp) elt (tE G W0 m)) (hs : ∀ x, foldedSetIterable e X.env x = pure x := by intro _; rfl) :
    PS X (.Assign [.Name x py] (.ListComp elt [⟨tg, e, ifs, 0⟩] scope p) pos) (tS G W (mAsg i (mLc mi t mt m (own.map (·.2))))) :=
  (ps_setLc s.cm s.n hy hyl hsw hi ok hg (fun s0 H C cl fp => ht s0 H C cl fp (s.blk ..)) (fun s0 H C cl fp => he s0 H C cl fp (s.blk ..)) hs).weak fun D σ H q => by
    obtain ⟨a, env, h1, rel, post⟩ := asg_w hioi q
    exact lc_w hio hio2 hown ⟨a, env, h1, rel, post⟩
end

/-! ### exceptions -/
def mExc (x : Str) : EM FlowD := fun env => .exc ⟨x, [], []⟩ env
/- an own class over ValueError, no __init__ -/
structure ExcC (C : KM) (x : Str) : Prop where
  ex : ∃ a, C.mg x = some (.ref a) ∧ PySem.W.excIn C.K a [.type "ValueError", .type "Exception", .type "BaseException", .type "object"] "ValueError.__new__" = true ∧ PySem.W.keepIn C.K (.ref a) = true ∧ PySem.W.subIn C.K (.ref a) (.type "BaseException") = some true ∧ PySem.W.typeIn C.K (.ref a) = some (.type "type")
def calmR (r : Res (FlowD × EnvD)) : Res (FlowD × EnvD) := match r with
  | .ok x => .ok x
  | _ => .bad
def mTry (yes no : List Str) (body suite : EM FlowD) : EM FlowD := fun env => match body env with
  | .exc x e => if x.cls ∈ yes then calmR (suite e) else if x.cls ∈ no then .exc x e else .bad
  | r => r
section
variable {X : Cx} {G : Gm} {W : WX} {lv : Nat} {pos p pos' : Pos} {x : Str}
theorem pmk_own0 {C : Addr} {bmB : List Value} {B newId initId : String} (F : ExcBaseFacts B newId initId bmB) (q : PySem.W.excIn X.K C bmB newId = true) (gC : X.mg x = some (.ref C)) (kC : PySem.W.keepIn X.K (.ref C) = true) (r : Raises X (.ref C)) (hg : Gl X x)
    (hdb : (x == ("__debug__" : Str)) = false := by decide) : PMk X (.Call (.Name x p) [] [] pos) (fun _ H Q => Q (.ref C) none H) := by
  intro pins s σ H Q I h
  refine wpAny_Call_Name_kw (ld_glob I hg gC ?_ hdb)
  obtain ⟨hp1, g1, d1, tk1, os1⟩ := s
  refine PySem.W.callWith_K0 I.kIn kC ?_
  show wpAny _ _ (call (.ref C) []) _ _ _
  obtain ⟨bm, N, nm, qn, bs, hdct, sn, sub, ab, col, dd, k0, k1, k2, k3, k5, mN, hC, hN, hni, T⟩ := exc_obj I.kIn q
  refine wpAny_call_exc_subT F T hC hN hni (fun h' e hm => ?_) (Nat.zero_le _)
  exact mk_of I hm r h (I.hok.gone hm.new)
theorem rs_raise0 (s : Go X G W lv) (E : ExcC G.C x) (hg : Gl X x) (hdb : (x == ("__debug__" : Str)) = false := by decide) : PS X (.Raise (some (.Call (.Name x p) [] [] pos)) none pos') (tS G W (mExc x)) := by
  obtain ⟨a, h1, h2, h3, h4, h5⟩ := E.ex
  rw [← s.k] at h2 h3 h4 h5
  rw [← s.m] at h1
  refine (ps_raise s.cm s.tk (pmk_own0 PySem.F.excBase_ValueError h2 h1 h3 (raises_own h4 h5) hg hdb)).weak fun D σ H q => ?_
  obtain ⟨a', env, rfl, rel, post⟩ := q
  exact post a' σ (.ref a) none (Step.refl a') rel ⟨by rw [← s.m]; exact h1, .inl ⟨rfl, rfl, rfl⟩⟩
theorem rs_try {c : Value} {body : List Stmt} {b0 : Stmt} {suite : List Stmt} {np : Pos} {ms ns : EM FlowD} (s : Go X G W lv) (hst : X.stack = X.env :: X.outer) (hf : X.env.frame = some X.env.locals) (hc : Names X x c) (yes no : List Str)
    (hy : ∀ n ∈ yes, ∀ u, G.C.mg n = some u → PySem.W.exmOne G.C.K u c = some true) (hn : ∀ n ∈ no, ∀ u, G.C.mg n = some u → PySem.W.exmOne G.C.K u c = some false)
    (hb : ∀ (W' : WX) (pn : List (Addr × Obj)) (xe : Value → Shared → Prop), Go (X.tr pn xe) G W' lv → PSs (X.tr pn xe) body (tS G W' ms))
    (hsu : ∀ (a : Addr) (pn : List (Addr × Obj)), St0 (X.suite a pn) G → PSs (X.suite a pn) (b0 :: suite) (tS G W0 ns)) :
    PS X (.Try body [.ExceptHandler (some (.Name x np)) none (b0 :: suite) pos'] [] [] pos) (tS G W (mTry yes no ms ns)) := by
  refine (ps_try_only hst hf hc s.tk (fun W' pn xe tk pw => hb W' pn xe (s.tr tk pw)) (fun a oe cls d pn _ _ => hsu a ((a, oe) :: pn) (s.suite a _))).weak fun D σ H q => ?_
  obtain ⟨a, env, rfl, rel, post⟩ := q
  refine ⟨a, env, rfl, rel, ?_⟩
  unfold mTry at post
  cases hm : ms env with
  | bad => rw [hm] at post; exact post
  | ok fe =>
    obtain ⟨f, e⟩ := fe
    rw [hm] at post
    cases f <;> exact post
  | exc y e =>
    rw [hm] at post
    dsimp only at post
    split at post
    · rename_i hin
      intro b σ' cls dd st r er
      refine ⟨true, by rw [s.k]; exact hy _ hin _ er.1, fun _ u _ => ?_, fun z => Bool.noConfusion z⟩
      refine ⟨b, e, rfl, r, PostS.step st ?_⟩
      cases hs : ns e with
      | bad => rw [hs] at post; exact post
      | exc z e2 => rw [hs] at post; exact (show False from post).elim
      | ok fe =>
        obtain ⟨f, e2⟩ := fe
        rw [hs] at post
        cases f <;> exact post
    · split at post
      · rename_i hin
        intro b σ' cls dd st r er
        exact ⟨false, by rw [s.k]; exact hn _ hin _ er.1, fun z => Bool.noConfusion z, fun _ => post b σ' cls dd st r er⟩
      · exact (show False from post).elim
end

/-! ### a def -/
def ownOk (io : List Nat) : List D → Nat → Bool
  | [], _ => true
  | d :: ds, i => (fz d || io.contains i) && ownOk io ds (i + 1)
def outsD (np : Nat) (io : List Nat) (e : EnvD) : EnvD := (List.range np).map fun i => if io.contains i then (e[i]?).join else none
def runD (np n : Nat) (io : List Nat) (m : EM FlowD) : List D → Res (D × EnvD) := fun ds =>
  if ds.length = np ∧ ownOk io ds 0 = true then
    match m (ds.map some ++ List.replicate (n - np) none) with
    | .ok (.ret d, e) => .ok (d, outsD np io e)
    | .ok (.next, e) => .ok (.non, outsD np io e)
    | .exc x e => .exc x (outsD np io e)
    | _ => .bad
  else .bad
theorem outs_rep {G : Gm} {b : Wd} {σ : L2.St} {e : EnvD} (r : RelE G b σ e) {np : Nat} (hv : np ≤ G.vs0.length) : OutRep G.C b G.vs0 (outsD np G.io e) := fun i d h => by
  unfold outsD at h
  rw [List.getElem?_map] at h
  by_cases hi : i < np
  · rw [List.getElem?_range hi] at h
    have h : (if G.io.contains i then (e[i]?).join else none) = some d := Option.some.inj h
    split at h
    · rename_i hio
      have hio : i ∈ G.io := by simpa using hio
      cases he : e[i]? with
      | none => rw [he] at h; cases h
      | some o =>
        rw [he] at h
        have h : o = some d := h
        subst h
        obtain ⟨v, h1, h2⟩ := r.slot i d he
        have hl : i < G.vs0.length := Nat.lt_of_lt_of_le hi hv
        have h3 := r.prm i hio _ (List.getElem?_eq_getElem hl)
        rw [h1] at h3; cases h3
        exact ⟨_, List.getElem?_eq_getElem hl, h2⟩
    · cases h
  · rw [List.getElem?_eq_none (by simpa using hi)] at h; cases h
abbrev CxD (C : KM) (base : Heap) (N : List Str) (qual : Str) (sc : Scope) (f : Addr) (cd : Value) (A : Around) (outer : List Env) (s : Shared) (H : Hp) (E : XK) : Cx := cxOf (L2.CX C.P C.w) C.P C.w C.K C.mg base N qual sc f cd A outer s H E
theorem fn_def {C : KM} {N ps : List Str} {st : Stmt} {x : Str} {f : Addr} {fd : FuncData} {lv : Nat} (io : List Nat) (m : EM FlowD) (F : Fun C.K x x st f fd) (S : FnScope N ps (defScope st)) (hb : Binds C.K fd ps []) (hm : C.mg x = some (.ref f))
    (body : ∀ (base : Heap) (cdv : Value) (A : Around) (outer : List Env) (s : Shared) (H : Hp) (E : XK) (vs : List V) (W : WX), Go (CxD C base N x (defScope st) f cdv A outer s H E) ⟨C, vs, io⟩ W lv → PSs (CxD C base N x (defScope st) f cdv A outer s H E) (defBody st) (tS ⟨C, vs, io⟩ W m)) :
    Fn C (lv + 1) x (runD ps.length N.length io m) := by
  refine ⟨f, fd, ps, hm, F.kp, hb, fun base _ _ => ?_⟩
  have hpl : ps.length ≤ N.length := by have := congrArg List.length S.pre; rw [List.length_take] at this; omega
  refine F.okX S (fun vs H Q E h => ?_) fun cdv A outer s H vs Q E hr h => ?_
  · obtain ⟨a, ds, _, _, hl, _, h⟩ := h
    unfold runD at h
    by_cases z : ds.length = ps.length ∧ ownOk io ds 0 = true
    · rw [← hl, z.1]
    · rw [if_neg z] at h; exact h.elim
  · obtain ⟨a, ds, rfl, ok, hl, hrep, h⟩ := h
    have go : Go (CxD C base N x (defScope st) f cdv A outer s a.H E) ⟨C, vs, io⟩ (fun cls d _ H => E cls d H) lv :=
      { p := rfl, w := rfl, k := rfl, m := rfl, n := S.nd, u := by have := hr.un; show (A.deeper _).units + 64 < cLine; omega, tk := takes_of rfl rfl rfl rfl, pw := passes_of rfl, rm := hr, cm := rfl }
    refine ⟨_, body base cdv A outer s a.H E vs _ go, ?_⟩
    unfold runD at h
    by_cases z : ds.length = ps.length ∧ ownOk io ds 0 = true
    · rw [if_pos z] at h
      have hlen : vs.length = ps.length := by rw [← hl, z.1]
      refine ⟨a, ds.map some ++ List.replicate (N.length - ps.length) none, rfl, ⟨ok, ?_, fun i d e => ?_, fun i hi v hv => ?_⟩, ?_⟩
      · unfold L2.start
        rw [List.length_append, List.length_append, List.length_map, List.length_map, List.length_replicate, List.length_replicate, z.1, hlen]
      · have hi : i < ds.length := by
          by_cases hi : i < ds.length
          · exact hi
          · rw [List.getElem?_append_right (by simpa using hi), List.getElem?_replicate] at e
            split at e <;> cases e
        have e2 : ds[i]? = some d := by
          rw [List.getElem?_append_left (by simpa using hi), List.getElem?_map] at e
          cases q : ds[i]? with
          | none => rw [q] at e; cases e
          | some d' => rw [q] at e; cases e; rfl
        obtain ⟨v, h1, h2⟩ := hrep i d e2
        refine ⟨v, ?_, h2⟩
        unfold L2.start
        rw [List.getElem?_append_left (by rw [List.length_map]; exact (List.getElem?_eq_some_iff.mp h1).1), List.getElem?_map, h1]; rfl
      · have hv : vs[i]? = some v := hv
        unfold L2.start
        rw [List.getElem?_append_left (by rw [List.length_map]; exact (List.getElem?_eq_some_iff.mp hv).1), List.getElem?_map, hv]; rfl
      · cases hm : m (ds.map some ++ List.replicate (N.length - ps.length) none) with
        | bad => rw [hm] at h; exact h.elim
        | exc y e => rw [hm] at h; exact fun b σ cls dd st r er => h b cls dd st r.ok (outs_rep r (Nat.le_of_eq hlen.symm)) er
        | ok fe =>
          obtain ⟨fl, e⟩ := fe
          rw [hm] at h
          cases fl with
          | next => exact fun b σ st r => h b .non st r.ok (outs_rep r (Nat.le_of_eq hlen.symm)) (by simp [Rep])
          | ret d => exact fun b σ v st r rp => h b v st r.ok (outs_rep r (Nat.le_of_eq hlen.symm)) rp
          | brk => exact h.elim
          | cont => exact h.elim
    · rw [if_neg z] at h; exact h.elim
end Mi
namespace Mi
open PySem PySem.Spec PyProof.Rows L2
/-! ### {k: v} -/
def mDic1 (mk mv : EM Arg) : EM D := fun env => (mk env).bind fun (x, e1) => (mv e1).bind fun (y, e2) => match x.get e2, y.get e2 with
  | some d1, some d2 => match keyD d1 with
    | some _ => if fz d2 = true then .ok (.dic true [d1] [d2], e2) else .bad
    | none => .bad
  | _, _ => .bad
theorem keyD_fz {d : D} {k : Key} (h : keyD d = some k) : fz d = true := by
  cases d <;> simp [keyD] at h <;> rfl
theorem dic1_w {G : Gm} {W : WX} {σ : L2.St} {H : Hp} {Q : VK} {mk mv : EM Arg} (h : tE G W (mDic1 mk mv) σ H Q) : tDisp [(tArg G W mk, tArg G W mv)] σ H Q := by
  obtain ⟨a, env, rfl, rel, post⟩ := h
  intro A hA
  have fA : a.F A = none := by
    cases q : a.F A with
    | none => rfl
    | some u => have := rel.ok.sub A u q; rw [hA] at this; cases this
  have tA : a.t A = none := by
    cases q : a.t A with
    | none => rfl
    | some u => obtain ⟨_, u, h⟩ := rel.ok.own A u q; rw [hA] at h; cases h
  have st0 : Step a (putA a A (.dK [])) := fun x o h t => by
    have ne : x ≠ A := by rintro rfl; rw [hA] at h; cases h
    exact ⟨by show upd a.H A _ x = _; rw [upd_ne ne]; exact h, t, rfl⟩
  have rel0 := putA_rel (o := .dK []) rel fA tA
  refine ⟨putA a A (.dK []), env, rfl, rel0, ?_⟩
  unfold mDic1 at post
  cases hm : mk env with
  | bad => rw [hm] at post; exact (show False from post).elim
  | exc x e => rw [hm] at post; exact PostR.step (K := fun x e b => ∀ v, ArgRep G.C b σ x v → _) (r := .exc x e) st0 post
  | ok xe =>
    obtain ⟨x, e1⟩ := xe
    rw [hm] at post
    intro b s1 rel1 v ar1
    refine ⟨b, e1, rfl, rel1, ?_⟩
    dsimp only [Res.bind] at post
    cases hn : mv e1 with
    | bad => rw [hn] at post; exact (show False from post).elim
    | exc y e => rw [hn] at post; exact PostR.step (K := fun x e b => ∀ v, ArgRep G.C b σ x v → _) (r := .exc y e) (st0.trans s1) post
    | ok ye =>
      obtain ⟨y, e2⟩ := ye
      rw [hn] at post
      intro c s2 rel2 u ar2
      have ar1 := ar1.step rel1.ok s2
      dsimp only [Res.bind] at post
      obtain ⟨g1, g2, g3⟩ := s1 A _ (show upd a.H A (.dK []) A = some (.dK []) from upd_same) tA
      obtain ⟨k1, k2, k3⟩ := s2 A _ g1 g2
      have k3 : c.F A = none := k3.trans (g3.trans fA)
      refine ⟨k1, ?_⟩
      cases hx : x.get e2 with
      | none => simp only [hx] at post; exact (show False from post).elim
      | some d1 =>
        cases hy : y.get e2 with
        | none => simp only [hx, hy] at post; exact (show False from post).elim
        | some d2 =>
          simp only [hx, hy] at post
          cases hk : keyD d1 with
          | none => simp only [hk] at post; exact (show False from post).elim
          | some k =>
            simp only [hk] at post
            split at post
            · rename_i zd
              obtain ⟨r1, p1⟩ := ar1.rep rel2 hx
              obtain ⟨r2, p2⟩ := ar2.rep rel2 hy
              have ev := keyD_rep hk p1
              refine ⟨[(k, u)], by rw [ev]; rfl, by simp, ?_⟩
              show Q (.ref A) (upd c.H A (.dK [(k, u)]))
              have post : ∀ b', Step a b' → RelE G b' σ e2 → ∀ v, Rep G.C b' 0 [] v (.dic true [d1] [d2]) → Q v b'.H := post
              have rel3 : RelE G (putA c A (.dK [(k, u)])) σ e2 := putA_rel rel2 k3 k2
              refine post (tagA (putA c A (.dK [(k, u)])) A) (fun z o h t => ?_) ?_ (.ref A) ?_
              · have ne : z ≠ A := by rintro rfl; rw [hA] at h; cases h
                obtain ⟨q1, q2, q3⟩ := (st0.trans (s1.trans s2)) z o h t
                exact ⟨by show upd c.H A _ z = _; rw [upd_ne ne]; exact q1, by show (if z = A then some (0, []) else c.t z) = none; rw [if_neg ne]; exact q2, q3⟩
              · exact ⟨tagA_ok (o := .dK [(k, u)]) rel3.ok k3 upd_same, rel3.len, fun i d h => let ⟨v, e, q⟩ := rel3.slot i d h; ⟨v, e, tagA_to (A := A) (c := putA c A (.dK [(k, u)])) k2 q⟩, rel3.prm⟩
              · have fr : ∀ z o, c.F z = some o → (tagA (putA c A (.dK [(k, u)])) A).F z = some o := fun z o h => h
                simp only [Rep]
                refine ⟨A, .dK [(k, u)], [kV k], [u], rfl, ?_, .dk [(k, u)], by simp [fzL, keyD_fz hk], ?_, ?_⟩
                · rw [if_pos trivial]
                  exact ⟨by show (if A = A then some (0, []) else c.t A) = _; rw [if_pos rfl], upd_same⟩
                · refine ⟨kV k, [], rfl, ?_, by simp [RepL]⟩
                  rw [ev] at p1
                  exact Rep.fz (a := c) (b := tagA (putA c A (.dK [(k, u)])) A) fr d1 _ _ _ (keyD_fz hk) p1
                · exact ⟨u, [], rfl, Rep.fz (a := c) (b := tagA (putA c A (.dK [(k, u)])) A) fr d2 _ _ _ zd p2, by simp [RepL]⟩
            · exact (show False from post).elim
theorem r_dic1 {X : Cx} {G : Gm} {W : WX} {ke ve : Expr} {mk mv : EM Arg} {pos : Pos} (s : St0 X G) (hk : PE X ke (tArg G W mk)) (hv : PE X ve (tArg G W mv)) : PE X (.Dict [some ke] [ve] pos) (tE G W (mDic1 mk mv)) :=
  (pe_disp (pps_cons hk hv pps_nil) rfl rfl (by simp) (by simp)).weak fun _ _ _ q => dic1_w q
theorem fn_ok {C : KM} {N ps : List Str} {st : Stmt} {x : Str} {f : Addr} {fd : FuncData} {lv : Nat} (io : List Nat) (m : EM FlowD) (F : Fun C.K x x st f fd) (S : FnScope N ps (defScope st)) (base : Heap)
    (body : ∀ (base : Heap) (cdv : Value) (A : Around) (outer : List Env) (s : Shared) (H : Hp) (E : XK) (vs : List V) (W : WX), Go (CxD C base N x (defScope st) f cdv A outer s H E) ⟨C, vs, io⟩ W lv → PSs (CxD C base N x (defScope st) f cdv A outer s H E) (defBody st) (tS ⟨C, vs, io⟩ W m)) :
    FnOk C.P C.w C.K C.mg base (L2.CX C.P C.w) (lv + 1) f fd ps (spD C (runD ps.length N.length io m)) := by
  have hpl : ps.length ≤ N.length := by have := congrArg List.length S.pre; rw [List.length_take] at this; omega
  refine F.okX S (fun vs H Q E h => ?_) fun cdv A outer s H vs Q E hr h => ?_
  · obtain ⟨a, ds, _, _, hl, _, h⟩ := h
    unfold runD at h
    by_cases z : ds.length = ps.length ∧ ownOk io ds 0 = true
    · rw [← hl, z.1]
    · rw [if_neg z] at h; exact h.elim
  · obtain ⟨a, ds, rfl, ok, hl, hrep, h⟩ := h
    have go : Go (CxD C base N x (defScope st) f cdv A outer s a.H E) ⟨C, vs, io⟩ (fun cls d _ H => E cls d H) lv :=
      { p := rfl, w := rfl, k := rfl, m := rfl, n := S.nd, u := by have := hr.un; show (A.deeper _).units + 64 < cLine; omega, tk := takes_of rfl rfl rfl rfl, pw := passes_of rfl, rm := hr, cm := rfl }
    refine ⟨_, body base cdv A outer s a.H E vs _ go, ?_⟩
    unfold runD at h
    by_cases z : ds.length = ps.length ∧ ownOk io ds 0 = true
    · rw [if_pos z] at h
      have hlen : vs.length = ps.length := by rw [← hl, z.1]
      refine ⟨a, ds.map some ++ List.replicate (N.length - ps.length) none, rfl, ⟨ok, ?_, fun i d e => ?_, fun i hi v hv => ?_⟩, ?_⟩
      · unfold L2.start
        rw [List.length_append, List.length_append, List.length_map, List.length_map, List.length_replicate, List.length_replicate, z.1, hlen]
      · have hi : i < ds.length := by
          by_cases hi : i < ds.length
          · exact hi
          · rw [List.getElem?_append_right (by simpa using hi), List.getElem?_replicate] at e
            split at e <;> cases e
        have e2 : ds[i]? = some d := by
          rw [List.getElem?_append_left (by simpa using hi), List.getElem?_map] at e
          cases q : ds[i]? with
          | none => rw [q] at e; cases e
          | some d' => rw [q] at e; cases e; rfl
        obtain ⟨v, h1, h2⟩ := hrep i d e2
        refine ⟨v, ?_, h2⟩
        unfold L2.start
        rw [List.getElem?_append_left (by rw [List.length_map]; exact (List.getElem?_eq_some_iff.mp h1).1), List.getElem?_map, h1]; rfl
      · have hv : vs[i]? = some v := hv
        unfold L2.start
        rw [List.getElem?_append_left (by rw [List.length_map]; exact (List.getElem?_eq_some_iff.mp hv).1), List.getElem?_map, hv]; rfl
      · cases hm : m (ds.map some ++ List.replicate (N.length - ps.length) none) with
        | bad => rw [hm] at h; exact h.elim
        | exc y e => rw [hm] at h; exact fun b σ cls dd st r er => h b cls dd st r.ok (outs_rep r (Nat.le_of_eq hlen.symm)) er
        | ok fe =>
          obtain ⟨fl, e⟩ := fe
          rw [hm] at h
          cases fl with
          | next => exact fun b σ st r => h b .non st r.ok (outs_rep r (Nat.le_of_eq hlen.symm)) (by simp [Rep])
          | ret d => exact fun b σ v st r rp => h b v st r.ok (outs_rep r (Nat.le_of_eq hlen.symm)) rp
          | brk => exact h.elim
          | cont => exact h.elim
    · rw [if_neg z] at h; exact h.elim
theorem exm_sub {K : PySem.W.Frag} {S T : Addr} {b : Bool} (h1 : PySem.W.subIn K (.ref T) (.type "BaseException") = some true) (h2 : PySem.W.isClsIn K T = true) (h3 : PySem.W.typeIn K (.ref T) = some (.type "type")) (h4 : PySem.W.subIn K (.ref S) (.ref T) = some b) : PySem.W.exmOne K (.ref S) (.ref T) = some b := by
  have e1 : (PySem.W.subIn K (.ref T) (.type "BaseException") == some true) = true := by rw [h1]; rfl
  have e2 : ((PySem.W.clsIn K T).isSome && PySem.W.typeIn K (.ref T) == some (.type "type")) = true := by
    have h2' : (PySem.W.clsIn K T).isSome = true := h2
    rw [h2', h3] <;> rfl
  show (if (PySem.W.subIn K (.ref T) (.type "BaseException") == some true) = true then (if ((PySem.W.clsIn K T).isSome && PySem.W.typeIn K (.ref T) == some (.type "type")) = true then PySem.W.subIn K (.ref S) (.ref T) else none) else none) = some b
  rw [if_pos e1, if_pos e2]
  exact h4
def scriptW (H : Hp) : Wd := ⟨H, H, fun _ => none⟩
theorem law_walk {l : PySem.W.OpenLaw} {k : Nat} {g : List D → Res (D × EnvD)} {q : Program} {loose : List Str} {XP : (Str → Option Value) → Heap → Prop} {YP : World → Heap → Prop} {d : DefRec} {K : Params → PySem.W.Frag} (hn : l.most = some 63) (hdf : d.params.defaults = []) (hr : Room k callerA)
    (hY : ∀ (w : World) (h : Heap), YP w h → (K w.params).In h)
    (F : ∀ (w : World) (mg : Str → Option Value) (fa : Addr) (h : Heap), (K w.params).In h → h.Ns mainGlobals mg → mg d.name = some (.ref fa) →
      ∃ fd : FuncData, (∀ (s : Shared) (u : Value), BindsTo s fd ⟨[u], []⟩ [("_law_script", u)]) ∧ ∀ base : Heap, (K w.params).In base → base.Ns mainGlobals mg → FnOk l.prog w (K w.params) mg base (L2.CX l.prog w) k fa fd ["_law_script"] (spD ⟨l.prog, w, K w.params, mg⟩ g))
    (hg : ∀ ns : List Int, ns.length ≤ 63 → (∀ z ∈ ns, Builtin.Int.intBits z ≤ 1048576) → ∃ outs, g [.scr ns] = .ok (.bl true, outs)) :
    PySem.W.WalkO q loose XP YP l.row.toRowW d [] (fun f vs => PySem.call f vs) := by
  refine L2.walk_ofB (n := 63) (k := k) (x := "_law_script") (CX := fun w => L2.CX l.prog w) (sp := fun w vs H Q _ => ∃ (a : Addr) (ns : List Int), vs = [.ref a] ∧ SqL (K w.params) H a (ns.map V.int) ∧ ns.length ≤ 63 ∧ (∀ z ∈ ns, Builtin.Int.intBits z ≤ 1048576) ∧ ∀ H', Q (.bl true) H') hn (by decide) hdf hr hY (fun w mg fa h h1 h2 h3 => ?_)
    (fun w H a ns hl hb _ hS => ⟨a, ns, rfl, hS, hl, hb, fun _ => rfl⟩) fun w H s e s' h => ?_
  · obtain ⟨fd, h4, h5⟩ := F w mg fa h h1 h2 h3
    refine ⟨fd, h4, fun base h6 h7 => (h5 base h6 h7).imp fun vs H Q E ⟨a, ns, e, hS, hl, hb, q⟩ => ?_⟩
    subst e
    obtain ⟨outs, hr⟩ := hg ns hl hb
    refine ⟨scriptW H, [.scr ns], rfl, ⟨fun _ _ h => h, fun _ _ h => by cases h⟩, rfl, fun i d e => ?_, ?_⟩
    · cases i with
      | zero => simp at e; subst e; exact ⟨_, rfl, by simp only [Rep]; exact ⟨a, rfl, hS⟩⟩
      | succ i => simp at e
    · rw [hr]
      intro b v _ _ _ rp
      cases rep_bl rp
      exact q b.H
  · obtain ⟨_, _, _, _, _, _, _, _, _, _, _, _, z⟩ := h
    exact z.elim
end Mi
namespace Mi
open PySem PySem.Spec PyProof.Rows L2

/-! ### what a mirror answers: rows for simp; a continuation is a name with its arguments, so that simp goes on only where the first part is told -/
section
variable {α β : Type} {e env : EnvD} {m n : EM D} {ma mb mc : EM Arg} {mas : EM (List Arg)} {mt nt : EM Bool} {ms ns : EM FlowD} {d d1 d2 : D} {x y : Arg} {b : Bool} {i j : Nat}
theorem bind_ext {r : Res α} {k k' : α → Res β} (h : ∀ x, k x = k' x) : r.bind k = r.bind k' := by rw [funext h]
@[simp] theorem bind_ok (x : α) (k : α → Res β) : Res.bind (.ok x) k = k x := rfl
@[simp] theorem bind_exc (x : Exc) (e : EnvD) (k : α → Res β) : Res.bind (.exc x e) k = .exc x e := rfl
@[simp] theorem bind_bad (k : α → Res β) : Res.bind .bad k = .bad := rfl
def kSeq (k : EM FlowD) : FlowD × EnvD → Res (FlowD × EnvD) := fun (f, e) => match f with
  | .next => k e
  | .brk => .ok (.brk, e)
  | .cont => .ok (.cont, e)
  | .ret d => .ok (.ret d, e)
@[simp] theorem e_seq : mSeq ms ns env = (ms env).bind (kSeq ns) := rfl
@[simp] theorem kSeq_next : kSeq ns (.next, e) = ns e := rfl
@[simp] theorem kSeq_ret : kSeq ns (.ret d, e) = .ok (.ret d, e) := rfl
@[simp] theorem kSeq_brk : kSeq ns (.brk, e) = .ok (.brk, e) := rfl
@[simp] theorem kSeq_cont : kSeq ns (.cont, e) = .ok (.cont, e) := rfl
@[simp] theorem e_next : mNext env = .ok (.next, env) := rfl
@[simp] theorem e_brk : mBrk env = .ok (.brk, env) := rfl
@[simp] theorem e_cnt : mCnt env = .ok (.cont, env) := rfl
def kIf {α : Type} (m n : EM α) : Bool × EnvD → Res (α × EnvD) := fun (b, e) => if b = true then m e else n e
@[simp] theorem e_ifS : mIfS mt ms ns env = (mt env).bind (kIf ms ns) := rfl
@[simp] theorem e_ifE : mIfE mt m n env = (mt env).bind (kIf m n) := rfl
@[simp] theorem kIf_t {m n : EM α} : kIf m n (true, e) = m e := rfl
@[simp] theorem kIf_f {m n : EM α} : kIf m n (false, e) = n e := rfl
def kRet : D × EnvD → Res (FlowD × EnvD) := fun (d, e) => .ok (.ret d, e)
@[simp] theorem e_ret : mRet m env = (m env).bind kRet := rfl
@[simp] theorem kRet_ok : kRet (d, e) = .ok (.ret d, e) := rfl
@[simp] theorem e_retN : mRetN env = .ok (.ret .non, env) := rfl
def kDrop : D × EnvD → Res (FlowD × EnvD) := fun (_, e) => .ok (.next, e)
@[simp] theorem e_drop : mDrop m env = (m env).bind kDrop := rfl
@[simp] theorem kDrop_ok : kDrop (d, e) = .ok (.next, e) := rfl
def kAsg (i : Nat) : D × EnvD → Res (FlowD × EnvD) := fun (d, e) => .ok (.next, e.set i (some d))
@[simp] theorem e_asg : mAsg i m env = (m env).bind (kAsg i) := rfl
@[simp] theorem kAsg_ok : kAsg i (d, e) = .ok (.next, e.set i (some d)) := rfl
def oFlow : Option EnvD → Res (FlowD × EnvD)
  | some e => .ok (.next, e)
  | none => .bad
def kAsgT (t : Tgt) : D × EnvD → Res (FlowD × EnvD) := fun (d, e) => oFlow (mTg t (frzQ d) e)
@[simp] theorem e_asgT {t : Tgt} : mAsgT t m env = (m env).bind (kAsgT t) := by
  unfold mAsgT
  refine bind_ext fun x => ?_
  obtain ⟨d, e⟩ := x
  show _ = oFlow (mTg t (frzQ d) e)
  dsimp only
  cases mTg t (frzQ d) e <;> rfl
@[simp] theorem kAsgT_ok {t : Tgt} : kAsgT t (d, e) = oFlow (mTg t (frzQ d) e) := rfl
@[simp] theorem oFlow_some : oFlow (some e) = .ok (.next, e) := rfl
def kPar (i j : Nat) : List Arg × EnvD → Res (FlowD × EnvD) := fun (xs, e) => match Arg.gets e xs with
  | some [d1, d2] => if fz d1 = true ∧ fz d2 = true then .ok (.next, (e.set i (some d1)).set j (some d2)) else .bad
  | _ => .bad
@[simp] theorem e_par : mPar i j mas env = (mas env).bind (kPar i j) := rfl
def pV (i j : Nat) (e : EnvD) : Option (List D) → Res (FlowD × EnvD)
  | some [d1, d2] => if fz d1 = true ∧ fz d2 = true then .ok (.next, (e.set i (some d1)).set j (some d2)) else .bad
  | _ => .bad
@[simp] theorem kPar_g {xs : List Arg} : kPar i j (xs, e) = pV i j e (Arg.gets e xs) := by
  unfold kPar pV; rfl
@[simp] theorem pV_ok : pV i j e (some [d1, d2]) = if fz d1 = true ∧ fz d2 = true then .ok (.next, (e.set i (some d1)).set j (some d2)) else .bad := rfl
theorem kPar_ok {xs : List Arg} (h : Arg.gets e xs = some [d1, d2]) (h1 : fz d1 = true) (h2 : fz d2 = true) : kPar i j (xs, e) = .ok (.next, (e.set i (some d1)).set j (some d2)) := by
  unfold kPar; simp only [h]; rw [if_pos ⟨h1, h2⟩]
def kFrz : D × EnvD → Res (Arg × EnvD) := fun (d, e) => .ok (.val (frzQ d), e)
@[simp] theorem e_frz : mFrz m env = (m env).bind kFrz := rfl
@[simp] theorem kFrz_ok : kFrz (d, e) = .ok (.val (frzQ d), e) := rfl
@[simp] theorem e_c : mC d env = .ok (d, env) := rfl
def vA (i : Nat) (env : EnvD) : Option (Option D) → Res (Arg × EnvD)
  | some (some _) => .ok (.var i, env)
  | _ => .bad
@[simp] theorem e_varA : mVarA i env = vA i env (env[i]?) := by
  unfold mVarA vA; rfl
@[simp] theorem vA_ok : vA i env (some (some d)) = .ok (.var i, env) := rfl
def vE (i : Nat) (env : EnvD) : Option (Option D) → Res (D × EnvD)
  | some (some d) => if fz d = true then .ok (d, env) else .ok (frz d, env.set i (some (frz d)))
  | _ => .bad
@[simp] theorem e_varE : mVarE i env = vE i env (env[i]?) := by
  unfold mVarE vE; rfl
@[simp] theorem vE_ok (h : fz d = true) : vE i env (some (some d)) = .ok (d, env) := by unfold vE; simp [h]
def vM (np i : Nat) (env : EnvD) : Option (Option D) → Res (D × EnvD)
  | some (some d) => if fz d = true then .ok (d, env) else if i < np then .ok (frz d, env.set i (some (frz d))) else .ok (d, env.set i none)
  | _ => .bad
@[simp] theorem e_varM : mVarM j i env = vM j i env (env[i]?) := by
  unfold mVarM vM; rfl
@[simp] theorem vM_ok (h : fz d = true) : vM j i env (some (some d)) = .ok (d, env) := by unfold vM; simp [h]
theorem vM_mv (h : fz d = false) (h2 : ¬ i < j) : vM j i env (some (some d)) = .ok (d, env.set i none) := by unfold vM; simp [h, h2]
@[simp] theorem get_val : Arg.get e (.val d) = some d := rfl
def gV : Option (Option D) → Option D
  | some (some d) => some d
  | _ => none
@[simp] theorem get_var : Arg.get e (.var i) = gV (e[i]?) := by
  show (match e[i]? with | some (some d) => some d | _ => none) = _
  unfold gV; rfl
@[simp] theorem gV_ok : gV (some (some d)) = some d := rfl
@[simp] theorem mLift_ok : mLift (some d) e = .ok (d, e) := rfl
@[simp] theorem mLift_no : mLift none e = .bad := rfl
def bV (g : D → D → Option D) (e : EnvD) : Option D → Option D → Res (D × EnvD)
  | some d1, some d2 => mLift (g d1 d2) e
  | _, _ => .bad
def kBin2 (g : D → D → Option D) (x : Arg) : Arg × EnvD → Res (D × EnvD) := fun (y, e) => bV g e (x.get e) (y.get e)
def kBin1 (g : D → D → Option D) (mb : EM Arg) : Arg × EnvD → Res (D × EnvD) := fun (x, e) => (mb e).bind (kBin2 g x)
@[simp] theorem e_bin {g : D → D → Option D} : mBin g ma mb env = (ma env).bind (kBin1 g mb) := by
  unfold mBin
  refine bind_ext fun x => ?_
  obtain ⟨x, e1⟩ := x
  show _ = (mb e1).bind (kBin2 g x)
  refine bind_ext fun y => ?_
  obtain ⟨y, e2⟩ := y
  show _ = bV g e2 (x.get e2) (y.get e2)
  dsimp only
  cases x.get e2 <;> cases y.get e2 <;> rfl
@[simp] theorem kBin1_ok {g : D → D → Option D} : kBin1 g mb (x, e) = (mb e).bind (kBin2 g x) := rfl
@[simp] theorem kBin2_ok {g : D → D → Option D} : kBin2 g x (y, e) = bV g e (x.get e) (y.get e) := rfl
@[simp] theorem bV_ok {g : D → D → Option D} : bV g e (some d1) (some d2) = mLift (g d1 d2) e := rfl
def uV (g : D → Option D) (e : EnvD) : Option D → Res (D × EnvD)
  | some d1 => mLift (g d1) e
  | _ => .bad
def kUn (g : D → Option D) : Arg × EnvD → Res (D × EnvD) := fun (x, e) => uV g e (x.get e)
@[simp] theorem e_un {g : D → Option D} : mUn g ma env = (ma env).bind (kUn g) := by
  unfold mUn
  refine bind_ext fun x => ?_
  obtain ⟨x, e1⟩ := x
  show _ = uV g e1 (x.get e1)
  dsimp only
  cases x.get e1 <;> rfl
@[simp] theorem kUn_ok {g : D → Option D} : kUn g (x, e) = uV g e (x.get e) := rfl
@[simp] theorem uV_ok {g : D → Option D} : uV g e (some d) = mLift (g d) e := rfl
def lV (g : List D → Option D) (e : EnvD) : Option (List D) → Res (D × EnvD)
  | some ds => mLift (g ds) e
  | _ => .bad
def kCB (g : List D → Option D) : List Arg × EnvD → Res (D × EnvD) := fun (xs, e) => lV g e (Arg.gets e xs)
@[simp] theorem e_cb {g : List D → Option D} : mCB g mas env = (mas env).bind (kCB g) := by
  unfold mCB
  refine bind_ext fun x => ?_
  obtain ⟨x, e1⟩ := x
  show _ = lV g e1 (Arg.gets e1 x)
  dsimp only
  cases Arg.gets e1 x <;> rfl
@[simp] theorem kCB_ok {g : List D → Option D} {xs : List Arg} : kCB g (xs, e) = lV g e (Arg.gets e xs) := rfl
@[simp] theorem lV_ok {g : List D → Option D} {ds : List D} : lV g e (some ds) = mLift (g ds) e := rfl
def oCons : Option D → Option (List D) → Option (List D)
  | some d, some ds => some (d :: ds)
  | _, _ => none
@[simp] theorem gets_nil : Arg.gets e [] = some [] := rfl
@[simp] theorem gets_cons {xs : List Arg} : Arg.gets e (x :: xs) = oCons (x.get e) (Arg.gets e xs) := by
  unfold oCons
  rw [Arg.gets] <;> rfl
@[simp] theorem oCons_ok {ds : List D} : oCons (some d) (some ds) = some (d :: ds) := rfl
def kA2 (x : Arg) : List Arg × EnvD → Res (List Arg × EnvD) := fun (xs, e) => .ok (x :: xs, e)
def kA1 (ms : List (EM Arg)) : Arg × EnvD → Res (List Arg × EnvD) := fun (x, e) => (mArgs ms e).bind (kA2 x)
@[simp] theorem e_args0 : mArgs [] env = .ok ([], env) := rfl
@[simp] theorem e_args {ms : List (EM Arg)} : mArgs (ma :: ms) env = (ma env).bind (kA1 ms) := rfl
@[simp] theorem kA1_ok {ms : List (EM Arg)} : kA1 ms (x, e) = (mArgs ms e).bind (kA2 x) := rfl
@[simp] theorem kA2_ok {xs : List Arg} : kA2 x (xs, e) = .ok (x :: xs, e) := rfl
/-! tests -/
@[simp] theorem bool_bl : D.bool (.bl b) = some b := rfl
@[simp] theorem mLiftT_ok : mLiftT (some b) e = .ok (b, e) := rfl
def kTB : D × EnvD → Res (Bool × EnvD) := fun (d, e) => mLiftT d.bool e
@[simp] theorem e_tb : mTB m env = (m env).bind kTB := rfl
@[simp] theorem kTB_ok : kTB (.bl b, e) = .ok (b, e) := rfl
def kNotT : Bool × EnvD → Res (Bool × EnvD) := fun (c, e) => .ok (!c, e)
@[simp] theorem e_notT : mNotT mt env = (mt env).bind kNotT := rfl
@[simp] theorem kNotT_ok : kNotT (b, e) = .ok (!b, e) := rfl
def kAndT (n : EM Bool) : Bool × EnvD → Res (Bool × EnvD) := fun (c, e) => if c = true then n e else .ok (false, e)
def kOrT (n : EM Bool) : Bool × EnvD → Res (Bool × EnvD) := fun (c, e) => if c = true then .ok (true, e) else n e
@[simp] theorem e_andT : mAndT mt nt env = (mt env).bind (kAndT nt) := rfl
@[simp] theorem e_orT : mOrT mt nt env = (mt env).bind (kOrT nt) := rfl
@[simp] theorem kAndT_t : kAndT nt (true, e) = nt e := rfl
@[simp] theorem kAndT_f : kAndT nt (false, e) = .ok (false, e) := rfl
@[simp] theorem kOrT_t : kOrT nt (true, e) = .ok (true, e) := rfl
@[simp] theorem kOrT_f : kOrT nt (false, e) = nt e := rfl
def aV (n : EM D) (e : EnvD) : Option Bool → Res (D × EnvD)
  | some true => n e
  | some false => .ok (.bl false, e)
  | none => .bad
def oV (n : EM D) (e : EnvD) : Option Bool → Res (D × EnvD)
  | some true => .ok (.bl true, e)
  | some false => n e
  | none => .bad
def kAndV (n : EM D) : D × EnvD → Res (D × EnvD) := fun (c, e) => aV n e c.bool
def kOrV (n : EM D) : D × EnvD → Res (D × EnvD) := fun (c, e) => oV n e c.bool
@[simp] theorem e_andV : mAndV m n env = (m env).bind (kAndV n) := by
  unfold mAndV
  refine bind_ext fun x => ?_
  obtain ⟨x, e1⟩ := x
  show _ = aV n e1 x.bool
  dsimp only
  rcases x.bool with _ | _ | _ <;> rfl
@[simp] theorem e_orV : mOrV m n env = (m env).bind (kOrV n) := by
  unfold mOrV
  refine bind_ext fun x => ?_
  obtain ⟨x, e1⟩ := x
  show _ = oV n e1 x.bool
  dsimp only
  rcases x.bool with _ | _ | _ <;> rfl
@[simp] theorem kAndV_t : kAndV n (.bl true, e) = n e := rfl
@[simp] theorem kAndV_f : kAndV n (.bl false, e) = .ok (.bl false, e) := rfl
@[simp] theorem kOrV_t : kOrV n (.bl true, e) = .ok (.bl true, e) := rfl
@[simp] theorem kOrV_f : kOrV n (.bl false, e) = n e := rfl
def kNotV : D × EnvD → Res (D × EnvD) := fun (c, e) => mLift (c.bool.map fun b => .bl (!b)) e
@[simp] theorem e_notV : mNotV m env = (m env).bind kNotV := by
  unfold mNotV
  refine bind_ext fun x => ?_
  obtain ⟨x, e1⟩ := x
  show _ = mLift (x.bool.map fun b => .bl (!b)) e1
  dsimp only
  cases x.bool <;> rfl
@[simp] theorem kNotV_ok : kNotV (.bl b, e) = .ok (.bl (!b), e) := rfl
def tV (e : EnvD) : Option D → Res (Bool × EnvD)
  | some d => mLiftT (truD d) e
  | none => .bad
def kTru : Arg × EnvD → Res (Bool × EnvD) := fun (x, e) => tV e (x.get e)
@[simp] theorem e_tru : mTru ma env = (ma env).bind kTru := by
  unfold mTru
  refine bind_ext fun x => ?_
  obtain ⟨x, e1⟩ := x
  show _ = tV e1 (x.get e1)
  dsimp only
  cases x.get e1 <;> rfl
@[simp] theorem kTru_ok : kTru (x, e) = tV e (x.get e) := rfl
@[simp] theorem tV_ok : tV e (some d) = mLiftT (truD d) e := rfl
@[simp] theorem e_yes : mYes env = .ok (true, env) := rfl
/-! displays -/
def dV (f : List D → D) (e : EnvD) : Option (List D) → Res (D × EnvD)
  | some ds => if fzL ds = true ∧ ds.length ≤ 1000 then .ok (f ds, e) else .bad
  | none => .bad
def kDsp (f : List D → D) : List Arg × EnvD → Res (D × EnvD) := fun (xs, e) => dV f e (Arg.gets e xs)
@[simp] theorem e_tup : mTup mas env = (mas env).bind (kDsp .tup) := by
  unfold mTup
  refine bind_ext fun x => ?_
  obtain ⟨x, e1⟩ := x
  show _ = dV .tup e1 (Arg.gets e1 x)
  dsimp only
  cases Arg.gets e1 x <;> rfl
@[simp] theorem e_lst : mLst mas env = (mas env).bind (kDsp (.lst true)) := by
  unfold mLst
  refine bind_ext fun x => ?_
  obtain ⟨x, e1⟩ := x
  show _ = dV (.lst true) e1 (Arg.gets e1 x)
  dsimp only
  cases Arg.gets e1 x <;> rfl
@[simp] theorem kDsp_ok {f : List D → D} {xs : List Arg} : kDsp f (xs, e) = dV f e (Arg.gets e xs) := rfl
@[simp] theorem dV_ok {f : List D → D} {ds : List D} : dV f e (some ds) = if fzL ds = true ∧ ds.length ≤ 1000 then .ok (f ds, e) else .bad := rfl
@[simp] theorem e_dic0 : mDic0 env = .ok (.dic true [] [], env) := rfl
def kCall (g : List D → Res (D × EnvD)) : List Arg × EnvD → Res (D × EnvD) := fun (xs, e) => mCallR g xs e
@[simp] theorem e_call {g : List D → Res (D × EnvD)} : mCall g mas env = (mas env).bind (kCall g) := rfl
def cV (xs : List Arg) (ds : List D) (e : EnvD) : Res (D × EnvD) → Res (D × EnvD)
  | .ok (d, outs) => .ok (d, putBack xs ds outs e)
  | .exc x outs => .exc x (putBack xs ds outs e)
  | .bad => .bad
theorem kCall_ok {g : List D → Res (D × EnvD)} {xs : List Arg} {ds : List D} (h : Arg.gets e xs = some ds) (h2 : (ownVars xs ds).Nodup) : kCall g (xs, e) = cV xs ds e (g ds) := by
  show mCallR g xs e = _
  unfold mCallR cV
  rw [h]; dsimp only; rw [if_pos h2] <;> rfl
@[simp] theorem cV_ok {xs : List Arg} {ds : List D} {outs : EnvD} : cV xs ds e (.ok (d, outs)) = .ok (d, putBack xs ds outs e) := rfl
@[simp] theorem cV_exc {xs : List Arg} {ds : List D} {outs : EnvD} {z : Exc} : cV xs ds e (.exc z outs) = .exc z (putBack xs ds outs e) := rfl
def gCall (g : List D → Res (D × EnvD)) (xs : List Arg) (e : EnvD) : Option (List D) → Res (D × EnvD)
  | some ds => if (ownVars xs ds).Nodup then cV xs ds e (g ds) else .bad
  | none => .bad
@[simp] theorem kCall_g {g : List D → Res (D × EnvD)} {xs : List Arg} : kCall g (xs, e) = gCall g xs e (Arg.gets e xs) := by
  show mCallR g xs e = _
  unfold mCallR gCall
  cases Arg.gets e xs with
  | none => rfl
  | some ds =>
    dsimp only
    by_cases h : (ownVars xs ds).Nodup
    · rw [if_pos h, if_pos h]; rfl
    · rw [if_neg h, if_neg h]
@[simp] theorem gCall_ok {g : List D → Res (D × EnvD)} {xs : List Arg} {ds : List D} : gCall g xs e (some ds) = if (ownVars xs ds).Nodup then cV xs ds e (g ds) else .bad := rfl
def iV (k : TyK) (e : EnvD) : Option D → Res (D × EnvD)
  | some d => mLift ((isK k d).map .bl) e
  | none => .bad
def kIsi (k : TyK) : Arg × EnvD → Res (D × EnvD) := fun (x, e) => iV k e (x.get e)
@[simp] theorem e_isi {k : TyK} : mIsi k ma env = (ma env).bind (kIsi k) := by
  unfold mIsi
  refine bind_ext fun x => ?_
  obtain ⟨x, e1⟩ := x
  show _ = iV k e1 (x.get e1)
  dsimp only
  cases x.get e1 <;> rfl
@[simp] theorem kIsi_ok {k : TyK} : kIsi k (x, e) = iV k e (x.get e) := rfl
@[simp] theorem iV_ok {k : TyK} : iV k e (some d) = mLift ((isK k d).map .bl) e := rfl
/-! chains -/
def chV3 (g' : D → D → Option D) (y : Arg) : Arg × EnvD → Res (D × EnvD) := fun (z, e) => bV g' e (y.get e) (z.get e)
def chV2 (g' : D → D → Option D) (mc : EM Arg) (y : Arg) (e : EnvD) : Option Bool → Res (D × EnvD)
  | some true => (mc e).bind (chV3 g' y)
  | some false => .ok (.bl false, e)
  | none => .bad
def chV1 (g g' : D → D → Option D) (mc : EM Arg) (y : Arg) (e : EnvD) : Option D → Option D → Res (D × EnvD)
  | some d1, some d2 => chV2 g' mc y e ((g d1 d2).bind D.bool)
  | _, _ => .bad
def kCh2 (g g' : D → D → Option D) (mc : EM Arg) (x : Arg) : Arg × EnvD → Res (D × EnvD) := fun (y, e) => chV1 g g' mc y e (x.get e) (y.get e)
def kCh1 (g g' : D → D → Option D) (mb mc : EM Arg) : Arg × EnvD → Res (D × EnvD) := fun (x, e) => (mb e).bind (kCh2 g g' mc x)
@[simp] theorem e_chain {g g' : D → D → Option D} : mChain g g' ma mb mc env = (ma env).bind (kCh1 g g' mb mc) := by
  unfold mChain
  refine bind_ext fun x => ?_
  obtain ⟨x, e1⟩ := x
  show _ = (mb e1).bind (kCh2 g g' mc x)
  refine bind_ext fun y => ?_
  obtain ⟨y, e2⟩ := y
  show _ = chV1 g g' mc y e2 (x.get e2) (y.get e2)
  dsimp only
  cases x.get e2 with
  | none => rfl
  | some d1 =>
    cases y.get e2 with
    | none => rfl
    | some d2 =>
      show _ = chV2 g' mc y e2 ((g d1 d2).bind D.bool)
      dsimp only
      rcases (g d1 d2).bind D.bool with _ | _ | _
      · rfl
      · rfl
      · show (mc e2).bind _ = (mc e2).bind (chV3 g' y)
        refine bind_ext fun z => ?_
        obtain ⟨z, e3⟩ := z
        show _ = bV g' e3 (y.get e3) (z.get e3)
        dsimp only
        cases y.get e3 <;> cases z.get e3 <;> rfl
@[simp] theorem kCh1_ok {g g' : D → D → Option D} : kCh1 g g' mb mc (x, e) = (mb e).bind (kCh2 g g' mc x) := rfl
@[simp] theorem kCh2_ok {g g' : D → D → Option D} : kCh2 g g' mc x (y, e) = chV1 g g' mc y e (x.get e) (y.get e) := rfl
@[simp] theorem chV1_ok {g g' : D → D → Option D} : chV1 g g' mc y e (some d1) (some d2) = chV2 g' mc y e ((g d1 d2).bind D.bool) := rfl
@[simp] theorem chV2_t {g' : D → D → Option D} : chV2 g' mc y e (some true) = (mc e).bind (chV3 g' y) := rfl
@[simp] theorem chV2_f {g' : D → D → Option D} : chV2 g' mc y e (some false) = .ok (.bl false, e) := rfl
@[simp] theorem chV3_ok {g' : D → D → Option D} : chV3 g' y (x, e) = bV g' e (y.get e) (x.get e) := rfl
/-! slices -/
def kSl3 (x : Arg) (lo : Option Int) : Option Int × EnvD → Res (D × EnvD) := fun (hi, e) => uV (fun d => slD d lo hi) e (x.get e)
def kSl2 (mh : EM (Option Int)) (x : Arg) : Option Int × EnvD → Res (D × EnvD) := fun (lo, e) => (mh e).bind (kSl3 x lo)
def kSl1 (ml mh : EM (Option Int)) : Arg × EnvD → Res (D × EnvD) := fun (x, e) => (ml e).bind (kSl2 mh x)
variable {ml mh : EM (Option Int)} {lo hi : Option Int}
@[simp] theorem e_sl : mSl ma ml mh env = (ma env).bind (kSl1 ml mh) := by
  unfold mSl
  refine bind_ext fun x => ?_
  obtain ⟨x, e1⟩ := x
  show _ = (ml e1).bind (kSl2 mh x)
  refine bind_ext fun y => ?_
  obtain ⟨y, e2⟩ := y
  show _ = (mh e2).bind (kSl3 x y)
  refine bind_ext fun z => ?_
  obtain ⟨z, e3⟩ := z
  show _ = uV (fun d => slD d y z) e3 (x.get e3)
  dsimp only
  cases x.get e3 <;> rfl
@[simp] theorem kSl1_ok : kSl1 ml mh (x, e) = (ml e).bind (kSl2 mh x) := rfl
@[simp] theorem kSl2_ok : kSl2 mh x (lo, e) = (mh e).bind (kSl3 x lo) := rfl
@[simp] theorem kSl3_ok : kSl3 x lo (hi, e) = uV (fun d => slD d lo hi) e (x.get e) := rfl
@[simp] theorem e_noP : mNoP env = .ok (none, env) := rfl
def kPart : D × EnvD → Res (Option Int × EnvD) := fun (d, e) => match d with
  | .int i => .ok (some i, e)
  | _ => .bad
@[simp] theorem e_part : mPart m env = (m env).bind kPart := rfl
@[simp] theorem kPart_ok {z : Int} : kPart (.int z, e) = .ok (some z, e) := rfl
/-! stores -/
def sV (j : Nat) (y : D) (e : EnvD) : Option (Option D) → Option D → Res (FlowD × EnvD)
  | some (some d), some i => oFlow ((setQ d i (frzQ y)).map fun d' => e.set j (some d'))
  | _, _ => .bad
def kSet2 (j : Nat) (y : D) : Arg × EnvD → Res (FlowD × EnvD) := fun (x, e) => sV j y e (e[j]?) (x.get e)
def kSetV (j : Nat) (mi : EM D) (y : D) (e : EnvD) : Option (Option D) → Res (FlowD × EnvD)
  | some (some _) => (mFrz mi e).bind (kSet2 j y)
  | _ => .bad
def kSet1 (j : Nat) (mi : EM D) : D × EnvD → Res (FlowD × EnvD) := fun (y, e) => kSetV j mi y e (e[j]?)
@[simp] theorem e_set : mSet j m n env = (n env).bind (kSet1 j m) := by
  unfold mSet
  refine bind_ext fun x => ?_
  obtain ⟨y, e1⟩ := x
  show _ = kSetV j m y e1 (e1[j]?)
  dsimp only
  rcases e1[j]? with _ | _ | d
  · rfl
  · rfl
  · show (mFrz m e1).bind _ = (mFrz m e1).bind (kSet2 j y)
    refine bind_ext fun z => ?_
    obtain ⟨z, e2⟩ := z
    show _ = sV j y e2 (e2[j]?) (z.get e2)
    dsimp only
    rcases e2[j]? with _ | _ | d'
    · rfl
    · rfl
    · cases z.get e2 with
      | none => rfl
      | some i =>
        show _ = oFlow ((setQ d' i (frzQ y)).map fun d'' => e2.set j (some d''))
        dsimp only
        cases setQ d' i (frzQ y) <;> rfl
@[simp] theorem kSet1_ok : kSet1 j m (d, e) = kSetV j m d e (e[j]?) := rfl
@[simp] theorem kSetV_ok : kSetV j m d1 e (some (some d)) = (mFrz m e).bind (kSet2 j d1) := rfl
@[simp] theorem kSet2_ok : kSet2 j d (x, e) = sV j d e (e[j]?) (x.get e) := rfl
@[simp] theorem sV_ok {i : D} : sV j d1 e (some (some d)) (some i) = oFlow ((setQ d i (frzQ d1)).map fun d' => e.set j (some d')) := rfl
/-! loops -/
def kFor (t : Tgt) (body : EM FlowD) : List D × EnvD → Res (FlowD × EnvD) := fun (ds, e) => if fzL ds = true then loopF t body ds e else .bad
@[simp] theorem e_for {mi : EM (List D)} {t : Tgt} : mFor mi t ms env = (mi env).bind (kFor t ms) := rfl
theorem kFor_ok {ds : List D} {t : Tgt} (h : fzL ds = true) : kFor t ms (ds, e) = loopF t ms ds e := by
  show (if fzL ds = true then _ else _) = _
  rw [if_pos h]
@[simp] theorem e_while {fuel : EnvD → Nat} : mWhile fuel mt ms env = whileF mt ms (fuel env) env := rfl
def rV (f : List D → Option (List D)) (e : EnvD) : Option (List D) → Res (List D × EnvD)
  | some ds => match f ds with
    | some l => .ok (l, e)
    | none => .bad
  | none => .bad
def kIt (f : List D → Option (List D)) : List Arg × EnvD → Res (List D × EnvD) := fun (xs, e) => rV f e (Arg.gets e xs)
@[simp] theorem e_it {f : List D → Option (List D)} : mIt mas f env = (mas env).bind (kIt f) := by
  unfold mIt
  refine bind_ext fun x => ?_
  obtain ⟨x, e1⟩ := x
  show _ = rV f e1 (Arg.gets e1 x)
  dsimp only
  cases Arg.gets e1 x <;> rfl
@[simp] theorem kIt_ok {f : List D → Option (List D)} {xs : List Arg} : kIt f (xs, e) = rV f e (Arg.gets e xs) := rfl
theorem rV_ok {f : List D → Option (List D)} {ds l : List D} (h : f ds = some l) : rV f e (some ds) = .ok (l, e) := by
  show (match f ds with | some l => _ | none => _) = _
  rw [h]
def sqV (e : EnvD) : Option D → Res (List D × EnvD)
  | some d => match seqI [d] with
    | some l => .ok (l, e)
    | none => .bad
  | none => .bad
def kIt1 : Arg × EnvD → Res (List D × EnvD) := fun (x, e) => sqV e (x.get e)
@[simp] theorem e_it1 : mIt1 ma env = (ma env).bind kIt1 := by
  unfold mIt1
  refine bind_ext fun x => ?_
  obtain ⟨x, e1⟩ := x
  show _ = sqV e1 (x.get e1)
  dsimp only
  cases x.get e1 <;> rfl
@[simp] theorem kIt1_ok : kIt1 (x, e) = sqV e (x.get e) := rfl
theorem sqV_ok {l : List D} (h : seqI [d] = some l) : sqV e (some d) = .ok (l, e) := by
  show (match seqI [d] with | some l => _ | none => _) = _
  rw [h]
def kLc2 (e : EnvD) (own : List Nat) : List D × EnvD → Res (D × EnvD) := fun (l, e') => .ok (.lst true l, restE e e' own)
def kLc (t : Tgt) (cond : EM Bool) (elt : EM D) (own : List Nat) : List D × EnvD → Res (D × EnvD) := fun (ds, e) => if fzL ds = true ∧ ds.length ≤ 100000 then (loopL t cond elt own ds [] e).bind (kLc2 e own) else .bad
@[simp] theorem e_lc {mi : EM (List D)} {t : Tgt} {own : List Nat} : mLc mi t mt m own env = (mi env).bind (kLc t mt m own) := rfl
theorem kLc_okX {ds : List D} {t : Tgt} {own : List Nat} (h1 : fzL ds = true) (h2 : ds.length ≤ 100000) : kLc t mt m own (ds, e) = (loopL t mt m own ds [] e).bind (kLc2 e own) := by
  show (if fzL ds = true ∧ ds.length ≤ 100000 then _ else _) = _
  rw [if_pos ⟨h1, h2⟩]
theorem kLc_ok {ds : List D} {t : Tgt} {own : List Nat} (h1 : fzL ds = true) (h2 : ds.length ≤ 1000) : kLc t mt m own (ds, e) = (loopL t mt m own ds [] e).bind (kLc2 e own) := kLc_okX h1 (by omega)
@[simp] theorem kLc2_ok {e' : EnvD} {own : List Nat} {l : List D} : kLc2 e own (l, e') = .ok (.lst true l, restE e e' own) := rfl
@[simp] theorem e_exc {s : Str} : mExc s env = .exc ⟨s, [], []⟩ env := rfl
def kTry (yes no : List Str) (suite : EM FlowD) : Res (FlowD × EnvD) → Res (FlowD × EnvD)
  | .exc x e => if x.cls ∈ yes then calmR (suite e) else if x.cls ∈ no then .exc x e else .bad
  | r => r
@[simp] theorem e_try {yes no : List Str} : mTry yes no ms ns env = kTry yes no ns (ms env) := by
  unfold mTry kTry
  cases ms env <;> rfl
@[simp] theorem kTry_ok {yes no : List Str} {f : FlowD × EnvD} : kTry yes no ns (.ok f) = .ok f := rfl
@[simp] theorem kTry_exc {yes no : List Str} {z : Exc} : kTry yes no ns (.exc z e) = if z.cls ∈ yes then calmR (ns e) else if z.cls ∈ no then .exc z e else .bad := rfl
@[simp] theorem calmR_ok {f : FlowD × EnvD} : calmR (.ok f) = .ok f := rfl
def kWh2 (c : EM Bool) (body : EM FlowD) (n : Nat) : FlowD × EnvD → Res (FlowD × EnvD) := fun (f, e2) => match f with
  | .next => whileF c body n e2
  | .cont => whileF c body n e2
  | .brk => .ok (.next, e2)
  | .ret d => .ok (.ret d, e2)
def kWh (c : EM Bool) (body : EM FlowD) (n : Nat) : Bool × EnvD → Res (FlowD × EnvD) := fun (b, e1) => if b = true then (body e1).bind (kWh2 c body n) else .ok (.next, e1)
theorem e_wh {n : Nat} : whileF mt ms (n + 1) env = (mt env).bind (kWh mt ms n) := rfl
@[simp] theorem kWh_t {n : Nat} : kWh mt ms n (true, e) = (ms e).bind (kWh2 mt ms n) := rfl
@[simp] theorem kWh_f {n : Nat} : kWh mt ms n (false, e) = .ok (.next, e) := rfl
@[simp] theorem kWh2_next {n : Nat} : kWh2 mt ms n (.next, e) = whileF mt ms n e := rfl
@[simp] theorem kWh2_cont {n : Nat} : kWh2 mt ms n (.cont, e) = whileF mt ms n e := rfl
@[simp] theorem kWh2_brk {n : Nat} : kWh2 mt ms n (.brk, e) = .ok (.next, e) := rfl
@[simp] theorem kWh2_ret {n : Nat} : kWh2 mt ms n (.ret d, e) = .ok (.ret d, e) := rfl
def kLp (t : Tgt) (body : EM FlowD) (ds : List D) : FlowD × EnvD → Res (FlowD × EnvD) := fun (f, e2) => match f with
  | .next => loopF t body ds e2
  | .cont => loopF t body ds e2
  | .brk => .ok (.next, e2)
  | .ret d => .ok (.ret d, e2)
def lpV (t : Tgt) (body : EM FlowD) (ds : List D) : Option EnvD → Res (FlowD × EnvD)
  | some e1 => (body e1).bind (kLp t body ds)
  | none => .bad
theorem e_lp0 {t : Tgt} : loopF t ms [] e = .ok (.next, e) := rfl
theorem e_lp {t : Tgt} {ds : List D} : loopF t ms (d :: ds) e = lpV t ms ds (mTg t d e) := by
  rw [loopF]
  cases mTg t d e <;> rfl
@[simp] theorem lpV_ok {t : Tgt} {ds : List D} : lpV t ms ds (some e) = (ms e).bind (kLp t ms ds) := rfl
@[simp] theorem kLp_next {t : Tgt} {ds : List D} : kLp t ms ds (.next, e) = loopF t ms ds e := rfl
@[simp] theorem kLp_cont {t : Tgt} {ds : List D} : kLp t ms ds (.cont, e) = loopF t ms ds e := rfl
@[simp] theorem kLp_brk {t : Tgt} {ds : List D} : kLp t ms ds (.brk, e) = .ok (.next, e) := rfl
@[simp] theorem kLp_ret {t : Tgt} {ds : List D} : kLp t ms ds (.ret d, e) = .ok (.ret d, e) := rfl
@[simp] theorem tg_nm : mTg (.nm i) d e = some (e.set i (some d)) := by simp [mTg]
/-! data -/
@[simp] theorem fz_non : fz .non = true := by simp [fz]
@[simp] theorem fz_bl : fz (.bl b) = true := by simp [fz]
@[simp] theorem fz_int {z : Int} : fz (.int z) = true := by simp [fz]
@[simp] theorem fz_str {z : Str} : fz (.str z) = true := by simp [fz]
@[simp] theorem fz_scr {z : List Int} : fz (.scr z) = true := by simp [fz]
@[simp] theorem fz_tup {l : List D} : fz (.tup l) = fzL l := by simp [fz]
@[simp] theorem fz_lst {l : List D} : fz (.lst b l) = (!b && fzL l) := by simp [fz]
@[simp] theorem fz_dic {k l : List D} : fz (.dic b k l) = (!b && (fzL k && fzL l)) := by simp [fz]
@[simp] theorem fzL_nil : fzL [] = true := by simp [fzL]
@[simp] theorem fzL_cons {l : List D} : fzL (d :: l) = (fz d && fzL l) := by simp [fzL]
theorem frzQ_fz (h : fz d = true) : frzQ d = d := by unfold frzQ; rw [if_pos h]
@[simp] theorem frzQ_non : frzQ .non = .non := rfl
@[simp] theorem frzQ_bl : frzQ (.bl b) = .bl b := rfl
@[simp] theorem frzQ_int {z : Int} : frzQ (.int z) = .int z := rfl
@[simp] theorem frzQ_str {z : Str} : frzQ (.str z) = .str z := rfl
@[simp] theorem frzQ_scr {z : List Int} : frzQ (.scr z) = .scr z := rfl
theorem frz_lstt {l : List D} (h : fzL l = true) : frzQ (.lst true l) = .lst false l := by unfold frzQ; simp [frz, frzL_fz l h]
end
end Mi
namespace Mi
open PySem PySem.Spec PyProof.Rows L2

/-! ### several except clauses -/
abbrev Hd := List Str × List Str × EM FlowD
def hdsM : List Hd → Exc → EnvD → Res (FlowD × EnvD)
  | [], x, e => .exc x e
  | (y, n, s) :: r, x, e => if x.cls ∈ y then calmR (s e) else if x.cls ∈ n then hdsM r x e else .bad
def mTryM (hs : List Hd) (body : EM FlowD) : EM FlowD := fun env => match body env with
  | .exc x e => hdsM hs x e
  | r => r
inductive HdM (X : Cx) (G : Gm) : List ExceptHandler → List Hd → List (Value × (Addr → Value → Option Addr → TS)) → Prop
  | nil : HdM X G [] [] []
  | cons {x : Str} {c : Value} {b0 : Stmt} {suite : List Stmt} {np pos' : Pos} {hds : List ExceptHandler} {hs : List Hd} {l : List (Value × (Addr → Value → Option Addr → TS))} {yes no : List Str} {ns : EM FlowD} (hc : Names X x c)
      (hy : ∀ n ∈ yes, ∀ u, G.C.mg n = some u → PySem.W.exmOne G.C.K u c = some true) (hn : ∀ n ∈ no, ∀ u, G.C.mg n = some u → PySem.W.exmOne G.C.K u c = some false)
      (hsu : ∀ (a : Addr) (pn : List (Addr × Obj)), St0 (X.suite a pn) G → PSs (X.suite a pn) (b0 :: suite) (tS G W0 ns)) (r : HdM X G hds hs l) :
      HdM X G (.ExceptHandler (some (.Name x np)) none (b0 :: suite) pos' :: hds) ((yes, no, ns) :: hs) ((c, fun _ _ _ => tS G W0 ns) :: l)
theorem HdM.hds {X : Cx} {G : Gm} {W : WX} {lv : Nat} (s : Go X G W lv) : ∀ {hds : List ExceptHandler} {hs : List Hd} {l : List (Value × (Addr → Value → Option Addr → TS))}, HdM X G hds hs l → HdsOk X hds l := fun h => by
  induction h with
  | nil => exact .nil
  | cons hc hy hn hsu r ih => exact .cons hc (fun a oe cls d pn _ _ => hsu a ((a, oe) :: pn) (s.suite a _)) ih
theorem calm_post {G : Gm} {W W' : WX} {D : Ends} {b : Wd} {r : Res (FlowD × EnvD)} (h : PostS G W D b (calmR r)) : PostS G W' D b r := by
  cases r with
  | bad => exact (show False from h).elim
  | exc x e => exact (show False from h).elim
  | ok fe => obtain ⟨f, e⟩ := fe; cases f <;> exact h
theorem HdM.many {X : Cx} {G : Gm} {W : WX} {D : Ends} {lv : Nat} (s : Go X G W lv) {x : Exc} {e : EnvD} {b : Wd} {σ : L2.St} {cls : Value} {dd : Option Addr} (rel : RelE G b σ e) (er : ExcRep G.C b x cls dd) :
    ∀ {hds : List ExceptHandler} {hs : List Hd} {l : List (Value × (Addr → Value → Option Addr → TS))}, HdM X G hds hs l → PostS G W D b (hdsM hs x e) → wMany X.K W D l cls dd σ b.H := fun h => by
  induction h with
  | nil => exact fun p => p b σ cls dd (Step.refl b) rel er
  | @cons x' c b0 suite np pos' hds hs l yes no ns hc hy hn hsu r ih =>
    intro p
    unfold hdsM at p
    by_cases h1 : x.cls ∈ yes
    · rw [if_pos h1] at p
      exact ⟨true, by rw [s.k]; exact hy _ h1 _ er.1, fun _ u _ => ⟨b, e, rfl, rel, calm_post p⟩, fun z => Bool.noConfusion z⟩
    · rw [if_neg h1] at p
      by_cases h2 : x.cls ∈ no
      · rw [if_pos h2] at p
        exact ⟨false, by rw [s.k]; exact hn _ h2 _ er.1, fun z => Bool.noConfusion z, fun _ => ih p⟩
      · rw [if_neg h2] at p
        exact (show False from p).elim
theorem rs_tryM {X : Cx} {G : Gm} {W : WX} {lv : Nat} {pos : Pos} {body : List Stmt} {h0 : ExceptHandler} {hds : List ExceptHandler} {hs : List Hd} {l : List (Value × (Addr → Value → Option Addr → TS))} {ms : EM FlowD} (s : Go X G W lv) (hst : X.stack = X.env :: X.outer) (hf : X.env.frame = some X.env.locals)
    (hb : ∀ (W' : WX) (pn : List (Addr × Obj)) (xe : Value → Shared → Prop), Go (X.tr pn xe) G W' lv → PSs (X.tr pn xe) body (tS G W' ms)) (hh : HdM X G (h0 :: hds) hs l) :
    PS X (.Try body (h0 :: hds) [] [] pos) (tS G W (mTryM hs ms)) := by
  refine (ps_try_many hst hf s.tk (fun W' pn xe tk pw => hb W' pn xe (s.tr tk pw)) (hh.hds s)).weak fun D σ H q => ?_
  obtain ⟨a, env, rfl, rel, post⟩ := q
  refine ⟨a, env, rfl, rel, ?_⟩
  unfold mTryM at post
  cases hm : ms env with
  | bad => rw [hm] at post; exact post
  | ok fe =>
    obtain ⟨f, e⟩ := fe
    rw [hm] at post
    cases f <;> exact post
  | exc y e =>
    rw [hm] at post
    exact fun b σ' cls dd st r er => HdM.many s r er hh (PostS.step st post)
def kTryM (hs : List Hd) : Res (FlowD × EnvD) → Res (FlowD × EnvD)
  | .exc x e => hdsM hs x e
  | r => r
section
variable {env e : EnvD} {ms : EM FlowD} {hs : List Hd}
@[simp] theorem e_tryM : mTryM hs ms env = kTryM hs (ms env) := by
  unfold mTryM kTryM
  cases ms env <;> rfl
@[simp] theorem kTryM_ok {f : FlowD × EnvD} : kTryM hs (.ok f) = .ok f := rfl
@[simp] theorem kTryM_exc {z : Exc} : kTryM hs (.exc z e) = hdsM hs z e := rfl
end
end Mi
namespace Mi
open PySem PySem.Spec PyProof.Rows L2

/-! ### a slot's own list, rewritten -/
theorem RelE.rewr {G : Gm} {a : Wd} {σ : L2.St} {env : EnvD} {j : Nat} {l : List D} (r : RelE G a σ env) (h : env[j]? = some (some (.lst true l))) :
    ∃ x vs, σ[j]? = some (some (.ref x)) ∧ a.H x = some (.lst vs) ∧ RepL G.C a (j + 1) [] 0 vs l ∧ ∀ (vs' : List V) (l' : List D) (s n : Nat) (q : List Nat), fzL l' = true → RepL G.C a s q n vs' l' →
      Step a ⟨a.F, upd a.H x (.lst vs'), a.t⟩ ∧ RelE G ⟨a.F, upd a.H x (.lst vs'), a.t⟩ σ (env.set j (some (.lst true l'))) := by
  obtain ⟨w, h1, h2⟩ := r.slot j _ h
  simp only [Rep] at h2
  obtain ⟨x, vs, rfl, hx, hl⟩ := h2
  rw [if_pos trivial] at hx
  obtain ⟨tx, hx⟩ := hx
  refine ⟨x, vs, h1, hx, hl, fun vs' l' s n q z hl' => ?_⟩
  have ne : ∀ {y : Addr} {t : Option Tag}, a.t y = t → t ≠ some (j + 1, []) → y ≠ x := fun e ht => by rintro rfl; rw [tx] at e; exact ht e.symm
  have fx : a.F x = none := (r.ok.own x _ tx).1
  have up : ∀ {y : Addr}, y ≠ x → upd a.H x (.lst vs') y = a.H y := fun e => upd_ne e
  have ok' : Ok ⟨a.F, upd a.H x (.lst vs'), a.t⟩ := by
    refine ⟨fun y o e => ?_, fun y t e => ?_⟩
    · have : y ≠ x := by rintro rfl; have e : a.F y = some o := e; rw [fx] at e; cases e
      show upd a.H x _ y = _
      rw [up this]; exact r.ok.sub y o e
    · obtain ⟨g1, o, g2⟩ := r.ok.own y t e
      by_cases q : y = x
      · subst q; exact ⟨g1, _, upd_same⟩
      · exact ⟨g1, o, by show upd a.H x _ y = _; rw [up q]; exact g2⟩
  have mv : ∀ {d : D} {r p} {v1 : V}, (∀ z, (r, z ++ p) ≠ (j + 1, ([] : List Nat))) → Rep G.C a r p v1 d → Rep G.C ⟨a.F, upd a.H x (.lst vs'), a.t⟩ r p v1 d := fun {d r p v1} hne h => by
    have := Rep.to (C := G.C) (a := a) (b := ⟨a.F, upd a.H x (.lst vs'), a.t⟩) (r := r) (s := r) (p := p) (q := p) (fun _ _ h => h) (fun y z o h e => ⟨h, by
      show upd a.H x _ y = _
      rw [up (ne h (by intro q; exact hne z (Option.some.inj q)))]; exact e⟩) d [] v1
    exact this h
  refine ⟨fun y o e t => ⟨by show upd a.H x _ y = _; rw [up (ne t (by simp))]; exact e, t, rfl⟩, ⟨ok', by rw [List.length_set]; exact r.len, fun i d e => ?_, r.prm⟩⟩
  by_cases ij : j = i
  · subst ij
    have hj : j < env.length := (List.getElem?_eq_some_iff.mp h).1
    rw [List.getElem?_set_self hj] at e
    cases e
    refine ⟨.ref x, h1, ?_⟩
    simp only [Rep]
    refine ⟨x, vs', rfl, ?_, ?_⟩
    · rw [if_pos trivial]; exact ⟨tx, upd_same⟩
    · exact RepL.fz (a := a) (b := ⟨a.F, upd a.H x (.lst vs'), a.t⟩) (fun _ _ h => h) l' q [] n vs' z hl'
  · rw [List.getElem?_set_ne ij] at e
    obtain ⟨w, e1, e2⟩ := r.slot i d e
    exact ⟨w, e1, mv (by intro z q; exact ij (Nat.succ.inj (congrArg Prod.fst q)).symm) e2⟩
/- a method of a slot's own list: the arguments, the answer and the list behind it -/
def mMet (j : Nat) (ma : EM (List Arg)) (f : List D → List D → Option (D × List D)) : EM D := fun env => match env[j]? with
  | some (some (.lst true _)) => (ma env).bind fun (xs, e) => match e[j]?, Arg.gets e xs with
    | some (some (.lst true l)), some ds => match f l ds with
      | some (d, l') => .ok (d, e.set j (some (.lst true l')))
      | none => .bad
    | _, _ => .bad
  | _ => .bad
/- r does to the objects what f does to the data -/
def MetOk (C : KM) (r : V → List V → Hp → VK → Prop) (f : List D → List D → Option (D × List D)) : Prop := ∀ (a : Wd) (x : Addr) (vs us : List V) (l ds : List D) (d : D) (l' : List D) (n s : Nat) (p : List Nat) (Q : VK), Ok a → a.H x = some (.lst vs) → RepL C a s p n vs l → Paired (fun d v => ∃ r, Rep C a r [] v d) ds us → f l ds = some (d, l') →
  (∀ v vs' s' n' q, fzL l' = true → RepL C a s' q n' vs' l' → (∃ s'' q'', fz d = true ∧ Rep C a s'' q'' v d) → Q v (upd a.H x (.lst vs'))) → r (.ref x) us a.H Q
theorem met_w {G : Gm} {W : WX} {σ : L2.St} {H : Hp} {Q : VK} {j : Nat} {ma : EM (List Arg)} {f : List D → List D → Option (D × List D)} {r : V → List V → Hp → VK → Prop} (ok : MetOk G.C r f) (h : tE G W (mMet j ma f) σ H Q) : tBM G.C.K "list" r (tVar j) (tArgs G W ma) σ H Q := by
  obtain ⟨a, env, rfl, rel, post⟩ := h
  unfold mMet at post
  split at post
  · rename_i l0 hj
    obtain ⟨x, vs, h1, h2, h3, _⟩ := rel.rewr hj
    refine ⟨.ref x, h1, .inl ⟨rfl, vs, SqL.of h2⟩, tArgs_of rel post fun xs e b us st r' ps p => ?_⟩
    dsimp only at p
    split at p
    · rename_i l ds hj' hg
      cases hf : f l ds with
      | none => rw [hf] at p; exact (show False from p).elim
      | some dl =>
        obtain ⟨d, l'⟩ := dl
        rw [hf] at p
        dsimp only at p
        obtain ⟨x', vs', k1, k2, k3, k4⟩ := r'.rewr hj'
        rw [h1] at k1; cases k1
        refine ok b x vs' us l ds d l' _ _ _ Q r'.ok k2 k3 (gets_rep r' ps hg) hf fun v ws s' n' q z hr ⟨s'', q'', zd, rd⟩ => ?_
        obtain ⟨st', rel'⟩ := k4 ws l' s' n' q z hr
        exact p _ st' rel' v (rd.step r'.ok st' zd)
    · exact (show False from p).elim
  · exact (show False from post).elim
def appF (l ds : List D) : Option (D × List D) := match ds with
  | [y] => if fzL l = true ∧ fz y = true ∧ l.length < 16000000 then some (.non, l ++ [y]) else none
  | _ => none
def extF (l ds : List D) : Option (D × List D) := match ds with
  | [.lst _ m] => if fzL l = true ∧ fzL m = true ∧ l.length + m.length < 16000000 then some (.non, l ++ m) else none
  | _ => none
def popF (l ds : List D) : Option (D × List D) := match ds with
  | [.int i] => if fzL l = true ∧ -(2 ^ 63) ≤ i ∧ i < 2 ^ 63 then match seqIndex? i l.length with
      | some k => (l[k]?).map fun d => (d, l.eraseIdx k)
      | none => none
    else none
  | [] => if fzL l = true then (l[l.length - 1]?).map fun d => (d, l.dropLast) else none
  | _ => none
def insF (l ds : List D) : Option (D × List D) := match ds with
  | [.int i, y] => if fzL l = true ∧ fz y = true ∧ 0 ≤ i ∧ i < 2 ^ 63 ∧ l.length < 16000000 then some (.non, l.take i.toNat ++ [y] ++ l.drop i.toNat) else none
  | _ => none
theorem szl : sizeLine = 16777216 := sizeLine_eq
section
variable {C : KM}
theorem met_app : MetOk C rAppend appF := fun a x vs us l ds d l' n s p Q k hx hl ps hf q => by
  match ds, hf, ps with
  | [y], hf, ps =>
    simp only [appF] at hf
    split at hf
    · rename_i z; cases hf
      obtain ⟨u, rfl, ru, hu⟩ := one_rep ps
      refine ⟨x, vs, u, rfl, rfl, hx, by rw [hl.len, szl]; omega, q .non _ 0 0 [] (by rw [fzL_append, z.1]; simp [fzL, z.2.1]) (RepL.appz (n := n) (s := 0) (q := []) (k := 0) z.1 (by simp [fzL, z.2.1]) hl ?_) ⟨0, [], by simp [fz], by simp [Rep]⟩⟩
      exact ⟨u, [], rfl, Rep.fz (a := a) (b := a) (fun _ _ h => h) y [] [0] u z.2.1 hu, by simp [RepL]⟩
    · cases hf
theorem met_ext : MetOk C rExtend extF := fun a x vs us l ds d l' n s p Q k hx hl ps hf q => by
  match ds, hf, ps with
  | [.lst o m], hf, ps =>
    simp only [extF] at hf
    split at hf
    · rename_i z; cases hf
      obtain ⟨u, rfl, ru, hu⟩ := one_rep ps
      obtain ⟨y, ws, rfl, h1, h2⟩ := rep_lst k hu
      exact ⟨x, y, vs, ws, rfl, rfl, hx, h1, by rw [hl.len, h2.len, szl]; omega, q .non _ 0 0 [] (by rw [fzL_append, z.1, z.2.1]; rfl) (RepL.appz (n := n) (k := 0) z.1 z.2.1 hl h2) ⟨0, [], by simp [fz], by simp [Rep]⟩⟩
    · cases hf
theorem repL_drop {a : Wd} {r : Nat} {p : List Nat} : ∀ {l : List D} {n : Nat} {vs : List V} (k : Nat), fzL l = true → RepL C a r p n vs l → RepL C a r p n (vs.eraseIdx k) (l.eraseIdx k)
  | [], n, vs, k, z, e => by simp only [RepL] at e; subst e; simp [RepL]
  | d :: l, n, vs, 0, z, ⟨v, us, e, h1, h2⟩ => by
    subst e
    simp only [fzL, Bool.and_eq_true] at z
    exact RepL.fz (a := a) (b := a) (fun _ _ h => h) l p p (n + 1) us z.2 h2
  | d :: l, n, vs, k + 1, z, ⟨v, us, e, h1, h2⟩ => by
    subst e
    simp only [fzL, Bool.and_eq_true] at z
    exact ⟨v, us.eraseIdx k, rfl, h1, repL_drop k z.2 h2⟩
theorem fzL_erase {l : List D} (h : fzL l = true) (k : Nat) : fzL (l.eraseIdx k) = true := fzL_all fun d hd => fzL_mem h d (List.mem_of_mem_eraseIdx hd)
theorem met_popAt : MetOk C (fun x vs H Q => rPopAt x vs H Q ∨ rPop x vs H Q) popF := fun a x vs us l ds d l' n s p Q k hx hl ps hf q => by
  match ds, hf, ps with
  | [.int i], hf, ps =>
    simp only [popF] at hf
    split at hf
    · rename_i z
      obtain ⟨u, rfl, ru, hu⟩ := one_rep ps
      cases rep_int hu
      cases hk : seqIndex? i l.length with
      | none => rw [hk] at hf; cases hf
      | some m =>
        rw [hk] at hf
        dsimp only at hf
        cases hm : l[m]? with
        | none => rw [hm] at hf; cases hf
        | some d0 =>
          rw [hm] at hf; cases hf
          obtain ⟨v, h1, h2⟩ := hl.get hm
          exact .inl ⟨x, vs, i, m, v, rfl, rfl, hx, z.2.1, z.2.2, by rw [hl.len]; exact hk, h1, q v _ s n p (fzL_erase z.1 m) (repL_drop m z.1 hl) ⟨s, _, fzL_mem z.1 _ (List.mem_of_getElem? hm), h2⟩⟩
    · cases hf
  | [], hf, ps =>
    simp only [popF] at hf
    split at hf
    · rename_i z
      cases ps
      cases hm : l[l.length - 1]? with
      | none => rw [hm] at hf; cases hf
      | some d0 =>
        rw [hm] at hf; cases hf
        obtain ⟨v, h1, h2⟩ := hl.get hm
        have e1 : vs.dropLast = vs.eraseIdx (vs.length - 1) := by rw [List.eraseIdx_length_sub_one]
        have e2 : l.dropLast = l.eraseIdx (l.length - 1) := by rw [List.eraseIdx_length_sub_one]
        refine .inr ⟨x, vs, v, rfl, rfl, hx, by rw [hl.len]; exact h1, ?_⟩
        rw [e1, hl.len]
        rw [e2] at q
        exact q v _ s n p (fzL_erase z _) (repL_drop _ z hl) ⟨s, _, fzL_mem z _ (List.mem_of_getElem? hm), h2⟩
    · cases hf
end
end Mi
namespace Mi
open PySem PySem.Spec PyProof.Rows L2

/-! ### rules for the methods of a slot's list -/
section
variable {X : Cx} {G : Gm} {W : WX} {lv : Nat} {a b e o : Expr} {es : List Expr} {ma : EM Arg} {mas : EM (List Arg)} {m : EM D} {apos cpos p : Pos} {x : Str}
theorem r_append (s : St0 X G) (j : Nat) (hN : X.N[j]? = some x) (hv : Vis X.env.scope x) (ha : PA X [e] (tArgs G W mas)) (hd : (x == ("__debug__" : Str)) = false := by decide) (hcd : (x == ("__classdict__" : Str)) = false := by decide)
    (hbase : attributeBase (.Name x p) "append" X.env (eval (.Name x p) X.env) = eval (.Name x p) X.env := by rfl) (hfew : ((backTo cpos (starEach [e] X.env)).all (fun x => !x.1) && (backToKw cpos (keywordEach [] X.env)).all (fun x => x.1.isSome)
      && decide ([e].length + ([] : List Keyword).length + (if ([] : List Keyword).isEmpty then 0 else 1) < 30)) = true := by rfl) (hline : (apos.endLine == cpos.line) = true := by rfl) (hs : starEach [e] X.env = (false, eval e X.env) :: starEach [] X.env := by rfl) (hplain : (backTo cpos (starEach [] X.env)).any (·.1) = false := by rfl) :
    PE X (.Call (.Attribute (.Name x p) "append" apos) [e] [] cpos) (tE G W (mMet j mas appF)) :=
  (pe_bm PySem.F.plainAttrs_list PySem.F.slot_list_append PySem.F.type_list_append mt_append (pe_var hN hv hd hcd) ha hbase hfew hline hs hplain).weak fun _ _ _ q => by
    have := met_w met_app q
    rw [s.k]; exact this
theorem r_extend (s : St0 X G) (j : Nat) (hN : X.N[j]? = some x) (hv : Vis X.env.scope x) (ha : PA X [e] (tArgs G W mas)) (hd : (x == ("__debug__" : Str)) = false := by decide) (hcd : (x == ("__classdict__" : Str)) = false := by decide)
    (hbase : attributeBase (.Name x p) "extend" X.env (eval (.Name x p) X.env) = eval (.Name x p) X.env := by rfl) (hfew : ((backTo cpos (starEach [e] X.env)).all (fun x => !x.1) && (backToKw cpos (keywordEach [] X.env)).all (fun x => x.1.isSome)
      && decide ([e].length + ([] : List Keyword).length + (if ([] : List Keyword).isEmpty then 0 else 1) < 30)) = true := by rfl) (hline : (apos.endLine == cpos.line) = true := by rfl) (hs : starEach [e] X.env = (false, eval e X.env) :: starEach [] X.env := by rfl) (hplain : (backTo cpos (starEach [] X.env)).any (·.1) = false := by rfl) :
    PE X (.Call (.Attribute (.Name x p) "extend" apos) [e] [] cpos) (tE G W (mMet j mas extF)) :=
  (pe_bm PySem.F.plainAttrs_list PySem.F.slot_list_extend PySem.F.type_list_extend mt_extend (pe_var hN hv hd hcd) ha hbase hfew hline hs hplain).weak fun _ _ _ q => by
    have := met_w met_ext q
    rw [s.k]; exact this
theorem r_popAt (s : St0 X G) (j : Nat) (hN : X.N[j]? = some x) (hv : Vis X.env.scope x) (ha : PA X [e] (tArgs G W mas)) (hd : (x == ("__debug__" : Str)) = false := by decide) (hcd : (x == ("__classdict__" : Str)) = false := by decide)
    (hbase : attributeBase (.Name x p) "pop" X.env (eval (.Name x p) X.env) = eval (.Name x p) X.env := by rfl) (hfew : ((backTo cpos (starEach [e] X.env)).all (fun x => !x.1) && (backToKw cpos (keywordEach [] X.env)).all (fun x => x.1.isSome)
      && decide ([e].length + ([] : List Keyword).length + (if ([] : List Keyword).isEmpty then 0 else 1) < 30)) = true := by rfl) (hline : (apos.endLine == cpos.line) = true := by rfl) (hs : starEach [e] X.env = (false, eval e X.env) :: starEach [] X.env := by rfl) (hplain : (backTo cpos (starEach [] X.env)).any (·.1) = false := by rfl) :
    PE X (.Call (.Attribute (.Name x p) "pop" apos) [e] [] cpos) (tE G W (mMet j mas popF)) :=
  (pe_bm PySem.F.plainAttrs_list PySem.F.slot_list_pop PySem.F.type_list_pop (MtR.or mt_popAt mt_pop) (pe_var hN hv hd hcd) ha hbase hfew hline hs hplain).weak fun _ _ _ q => by
    have := met_w met_popAt q
    rw [s.k]; exact this
theorem r_pop (s : St0 X G) (j : Nat) (hN : X.N[j]? = some x) (hv : Vis X.env.scope x) (hd : (x == ("__debug__" : Str)) = false := by decide) (hcd : (x == ("__classdict__" : Str)) = false := by decide)
    (hbase : attributeBase (.Name x p) "pop" X.env (eval (.Name x p) X.env) = eval (.Name x p) X.env := by rfl) (hline : (apos.endLine == cpos.line) = true := by rfl) :
    PE X (.Call (.Attribute (.Name x p) "pop" apos) [] [] cpos) (tE G W (mMet j (mArgs []) popF)) :=
  (pe_bm0 PySem.F.plainAttrs_list PySem.F.slot_list_pop PySem.F.type_list_pop (MtR.or mt_popAt mt_pop) (pe_var hN hv hd hcd) hbase hline).weak fun σ H Q q => by
    obtain ⟨v, h1, ty, a, env, rfl, rel, post⟩ := met_w met_popAt q
    refine ⟨v, h1, by rw [s.k]; exact ty, ?_⟩
    exact post a (Step.refl a) rel [] .nil

/-! ### texts -/
def strsOf : List D → Option (List Str)
  | [] => some []
  | .str s :: l => (strsOf l).map (s :: ·)
  | _ => none
theorem strs_rep {C : KM} {a : Wd} {r : Nat} {p : List Nat} : ∀ {l : List D} {n : Nat} {vs : List V} {ys : List Str}, strsOf l = some ys → RepL C a r p n vs l → vs = ys.map V.str
  | [], n, vs, ys, e, h => by cases e; simpa [RepL] using h
  | d :: l, n, vs, ys, e, ⟨v, us, e1, h1, h2⟩ => by
    cases d <;> simp only [strsOf] at e <;> (try (cases e; done))
    case str z =>
      cases hs : strsOf l with
      | none => rw [hs] at e; cases e
      | some zs =>
        rw [hs] at e; cases e
        cases rep_str h1
        rw [e1, strs_rep hs h2]; rfl
def joinD (s : Str) : D → Option D
  | .lst _ l => match strsOf l with
    | some ys => if (ys.map (·.length)).sum + ys.length * s.length ≤ 16777216 then some (.str (Txt.join s ys)) else none
    | none => none
  | .tup l => match strsOf l with
    | some ys => if (ys.map (·.length)).sum + ys.length * s.length ≤ 16777216 then some (.str (Txt.join s ys)) else none
    | none => none
  | _ => none
theorem r_join (s : St0 X G) {z : Str} {k : Nat} (he : PE X e (tArg G W ma)) (hs : starEach [e] X.env = [(false, eval e X.env)] := by rfl) (hbase : attributeBase (.Constant (.str z) k p) "join" X.env (eval (.Constant (.str z) k p) X.env) = eval (.Constant (.str z) k p) X.env := by rfl) (hline : (apos.endLine == cpos.line) = true := by rfl) :
    PE X (.Call (.Attribute (.Constant (.str z) k p) "join" apos) [e] [] cpos) (tE G W (mUn (joinD z) ma)) := (pe_join (pe_str) he hs hbase hline).weak fun σ H Q q => by
  refine ⟨⟨z, rfl⟩, ?_⟩
  obtain ⟨a, env, rfl, rel, post⟩ := q
  refine tArg_of rel post fun x e1 b v s1 rel1 ar1 post1 => ?_
  cases hx : x.get e1 with
  | none => simp only [hx] at post1; exact (show False from post1).elim
  | some d1 =>
    simp only [hx] at post1
    obtain ⟨d, hd, k⟩ := post1.lift rel1
    obtain ⟨r1, p1⟩ := ar1.rep rel1 hx
    cases d1 <;> simp only [joinD] at hd <;> (try (cases hd; done))
    case lst o l =>
      cases hl : strsOf l with
      | none => rw [hl] at hd; cases hd
      | some ys =>
        rw [hl] at hd
        dsimp only at hd
        split at hd
        · rename_i hz; cases hd
          obtain ⟨y, vs, rfl, h1, h2⟩ := rep_lst rel1.ok p1
          rw [strs_rep hl h2] at h1
          exact ⟨z, y, ys, rfl, rfl, .inl (SqL.of h1), hz, k b (Grow.refl b) rel1.ok _ (by simp [Rep])⟩
        · cases hd
    case tup l =>
      cases hl : strsOf l with
      | none => rw [hl] at hd; cases hd
      | some ys =>
        rw [hl] at hd
        dsimp only at hd
        split at hd
        · rename_i hz; cases hd
          obtain ⟨y, vs, rfl, h1, h2⟩ := rep_tup rel1.ok p1
          rw [strs_rep hl h2] at h1
          exact ⟨z, y, ys, rfl, rfl, .inr (by rw [s.k]; exact h1), hz, k b (Grow.refl b) rel1.ok _ (by simp [Rep])⟩
        · cases hd
end

/-! ### sorted texts -/
theorem lt_asym : ∀ {a b : List Nat}, ltCps a b = true → ltCps b a = false
  | [], [], h => by simp [ltCps] at h
  | [], _ :: _, _ => rfl
  | _ :: _, [], h => by simp [ltCps] at h
  | a :: r, b :: t, h => by
    simp only [ltCps, Bool.or_eq_true, decide_eq_true_eq, Bool.and_eq_true, beq_iff_eq] at h
    rcases h with h | ⟨rfl, h⟩
    · have e1 : ¬ b < a := by omega
      have e2 : ¬ b = a := by omega
      simp [ltCps, e1, e2]
    · simp [ltCps, lt_asym h]
theorem lt_tri : ∀ {a b : List Nat}, ltCps a b = false → ltCps b a = false → a = b
  | [], [], _, _ => rfl
  | [], _ :: _, h, _ => by simp [ltCps] at h
  | _ :: _, [], _, h => by simp [ltCps] at h
  | a :: r, b :: t, h, g => by
    simp only [ltCps, Bool.or_eq_false_iff, decide_eq_false_iff_not, Bool.and_eq_false_iff, beq_eq_false_iff_ne] at h g
    have e : a = b := by omega
    subst e
    rcases h.2 with h2 | h2
    · exact absurd rfl h2
    · rcases g.2 with g2 | g2
      · exact absurd rfl g2
      · rw [lt_tri h2 g2]
theorem le_trans' : ∀ {a b c : List Nat}, ltCps b a = false → ltCps c b = false → ltCps c a = false
  | a, b, [], h, g => by
    cases b with
    | nil => exact h
    | cons b t => simp [ltCps] at g
  | [], b, c :: u, h, g => rfl
  | a :: r, [], c :: u, h, g => by simp [ltCps] at h
  | a :: r, b :: t, c :: u, h, g => by
    simp only [ltCps, Bool.or_eq_false_iff, decide_eq_false_iff_not, Bool.and_eq_false_iff, beq_eq_false_iff_ne] at h g ⊢
    refine ⟨by omega, ?_⟩
    by_cases e : c = a
    · right
      subst e
      have e2 : b = c := by omega
      subst e2
      rcases h.2 with h2 | h2
      · exact absurd rfl h2
      · rcases g.2 with g2 | g2
        · exact absurd rfl g2
        · exact le_trans' h2 g2
    · exact .inl e
def leS (a b : Str) : Bool := !ltCps b.cps.toList a.cps.toList
def sortS (xs : List Str) : List Str := xs.mergeSort leS
theorem rising_pw : ∀ (p : Str) (l : List Str), risingS p l = true → (p :: l).Pairwise (fun a b => leS a b = true)
  | p, [], _ => by simp
  | p, x :: l, h => by
    simp only [risingS, Bool.and_eq_true] at h
    have ih := rising_pw x l h.2
    refine List.pairwise_cons.mpr ⟨fun y hy => ?_, ih⟩
    rcases List.mem_cons.mp hy with rfl | hy
    · exact h.1
    · have h2 := (List.pairwise_cons.mp ih).1 y hy
      unfold leS at h2 ⊢
      simp only [Bool.not_eq_true'] at h2 h ⊢
      exact le_trans' h.1 h2
theorem sorted_pw : ∀ {l : List Str}, sortedS l = true → l.Pairwise (fun a b => leS a b = true)
  | [], _ => .nil
  | x :: l, h => rising_pw x l h
theorem sortS_pw (xs : List Str) : (sortS xs).Pairwise (fun a b => leS a b = true) := List.pairwise_mergeSort (fun a b c h g => by
    unfold leS at h g ⊢
    simp only [Bool.not_eq_true'] at h g ⊢
    exact le_trans' h g) (fun a b => by
    unfold leS
    cases h : ltCps b.cps.toList a.cps.toList with
    | false => simp
    | true => simp [lt_asym h]) xs
theorem str_ext {a b : Str} (h : a.cps.toList = b.cps.toList) : a = b := by
  obtain ⟨⟨a⟩⟩ := a
  obtain ⟨⟨b⟩⟩ := b
  simp at h
  subst h; rfl
theorem sort_one {xs ys : List Str} (h : ys.Perm xs) (s : sortedS ys = true) : ys = sortS xs :=
  List.Perm.eq_of_pairwise (le := fun a b => leS a b = true) (fun a b _ _ h g => by
    unfold leS at h g
    simp only [Bool.not_eq_true'] at h g
    exact str_ext (lt_tri g h)) (sorted_pw s) (sortS_pw xs) (h.trans (List.mergeSort_perm xs leS).symm)
def sortD : List D → Option D
  | [.lst _ l] => match strsOf l with
    | some ys => if ys.length < 64 then some (.lst true ((sortS ys).map .str)) else none
    | none => none
  | _ => none
theorem repL_strs {C : KM} {a : Wd} {r : Nat} {p : List Nat} : ∀ (l : List Str) (n : Nat), RepL C a r p n (l.map V.str) (l.map D.str)
  | [], n => by simp [RepL]
  | x :: l, n => ⟨.str x, l.map V.str, rfl, by simp [Rep], repL_strs l (n + 1)⟩
theorem fzL_strs (l : List Str) : fzL (l.map D.str) = true := fzL_map _ (fun _ => by simp [fz]) l
theorem call_sortD {X : Cx} {C : KM} : CallR X (.builtin "sorted") (cD C sortD) := by
  intro pins s σ H xs us Q I r h
  obtain ⟨a, ds, d, rfl, k, ps, hd, q⟩ := h
  match ds, hd with
  | [.lst o l], hd =>
    simp only [sortD] at hd
    cases hl : strsOf l with
    | none => rw [hl] at hd; cases hd
    | some ys =>
      rw [hl] at hd
      dsimp only at hd
      split at hd
      · rename_i hz; cases hd
        obtain ⟨v, rfl, r1, p1⟩ := one_rep ps
        obtain ⟨y, vs, rfl, h1, h2⟩ := rep_lst k p1
        rw [strs_rep hl h2] at h1
        refine cr_sortedS pins s σ a.H _ us Q I r ⟨y, ys, rfl, SqL.of h1, hz, fun zs p hp hs hn => ?_⟩
        rw [sort_one hp hs]
        exact new_lst k (fzL_strs _) (repL_strs (C := C) (a := a) (r := 0) (p := []) _ 0) q p hn
      · cases hd
end Mi
namespace Mi
open PySem PySem.Spec PyProof.Rows L2

/-! ### dicts as lists of pairs -/
def kds : List D → List D → Option (List (Key × D))
  | [], [] => some []
  | k :: ks, w :: ws => match keyD k, kds ks ws with
    | some x, some r => some ((x, w) :: r)
    | _, _ => none
  | _, _ => none
def putG (ds : List (Key × D)) (k : Key) (d : D) : List (Key × D) :=
  if (ds.any fun p => decide (p.1 = k)) = true then ds.map (fun p => if p.1 = k then (p.1, d) else p) else ds ++ [(k, d)]
def dicG (ds : List (Key × D)) : D := .dic true (ds.map fun p => unkD p.1) (ds.map (·.2))
abbrev KVr (C : KM) (a : Wd) : List (Key × V) → List (Key × D) → Prop := Paired (fun x y => x.1 = y.1 ∧ fz y.2 = true ∧ ∃ s q, Rep C a s q x.2 y.2)
section
variable {C : KM} {a : Wd}
theorem kvr_of : ∀ {kvs : List (Key × V)} {ks ws : List D} {ds : List (Key × D)} {r s n m : Nat} {p q : List Nat}, kds ks ws = some ds → fzL ws = true → RepL C a r p n (kvs.map fun x => kV x.1) ks → RepL C a s q m (kvs.map (·.2)) ws → KVr C a kvs ds
  | [], ks, ws, ds, r, s, n, m, p, q, e, z, h, g => by
    have e1 : ks = [] := by cases ks with | nil => rfl | cons _ _ => simp only [RepL, List.map_nil] at h; obtain ⟨_, _, e, _⟩ := h; cases e
    have e2 : ws = [] := by cases ws with | nil => rfl | cons _ _ => simp only [RepL, List.map_nil] at g; obtain ⟨_, _, e, _⟩ := g; cases e
    subst e1 e2
    cases e
    exact .nil
  | x :: kvs, ks, ws, ds, r, s, n, m, p, q, e, z, h, g => by
    cases ks with
    | nil => simp only [RepL, List.map_cons] at h; cases h
    | cons k ks =>
      cases ws with
      | nil => simp only [RepL, List.map_cons] at g; cases g
      | cons w ws =>
        simp only [RepL, List.map_cons] at h g
        obtain ⟨v, us, e1, h1, h2⟩ := h
        obtain ⟨v', us', e1', g1, g2⟩ := g
        cases e1; cases e1'
        simp only [fzL, Bool.and_eq_true] at z
        simp only [kds] at e
        cases hk : keyD k with
        | none => rw [hk] at e; cases e
        | some y =>
          cases hr : kds ks ws with
          | none => rw [hk, hr] at e; cases e
          | some r' =>
            rw [hk, hr] at e; cases e
            have := rep_key h1
            subst this
            rw [keyD_unk] at hk; cases hk
            exact .cons ⟨rfl, z.1, _, _, g1⟩ (kvr_of hr z.2 h2 g2)
theorem kvr_keys : ∀ {kvs : List (Key × V)} {ds : List (Key × D)} {n : Nat}, KVr C a kvs ds → RepL C a 0 [] n (kvs.map fun x => kV x.1) (ds.map fun x => unkD x.1)
  | _, _, n, .nil => by simp [RepL]
  | x :: kvs, y :: ds, n, .cons h t => by
    refine ⟨kV x.1, _, rfl, ?_, kvr_keys t⟩
    rw [h.1]
    obtain ⟨k, d⟩ := y
    cases k <;> simp [unkD, kV, Rep]
theorem kvr_vals : ∀ {kvs : List (Key × V)} {ds : List (Key × D)} {n : Nat}, KVr C a kvs ds → RepL C a 0 [] n (kvs.map (·.2)) (ds.map (·.2))
  | _, _, n, .nil => by simp [RepL]
  | x :: kvs, y :: ds, n, .cons h t => by
    obtain ⟨h1, h2, s, q, h3⟩ := h
    exact ⟨x.2, _, rfl, Rep.fz (a := a) (b := a) (fun _ _ h => h) y.2 _ _ x.2 h2 h3, kvr_vals t⟩
theorem kvr_fz : ∀ {kvs : List (Key × V)} {ds : List (Key × D)}, KVr C a kvs ds → fzL (ds.map (·.2)) = true
  | _, _, .nil => by simp [fzL]
  | _, _, .cons h t => by simp [fzL, h.2.1, kvr_fz t]
theorem fz_keys (ds : List (Key × D)) : fzL (ds.map fun x => unkD x.1) = true := fzL_map _ (fun x => by cases x.1 <;> simp [unkD, fz]) ds
theorem kvr_any {k : Key} : ∀ {kvs : List (Key × V)} {ds : List (Key × D)}, KVr C a kvs ds → (kvs.any fun p => decide (p.1 = k)) = (ds.any fun p => decide (p.1 = k))
  | _, _, .nil => rfl
  | _, _, .cons h t => by rw [List.any_cons, List.any_cons, h.1, kvr_any t]
theorem kvr_app : ∀ {k1 k2 : List (Key × V)} {d1 d2 : List (Key × D)}, KVr C a k1 d1 → KVr C a k2 d2 → KVr C a (k1 ++ k2) (d1 ++ d2)
  | _, _, _, _, .nil, g => g
  | _, _, _, _, .cons h t, g => .cons h (kvr_app t g)
theorem kvr_map {k : Key} {v : V} {d : D} (z : fz d = true) (hr : ∃ s q, Rep C a s q v d) : ∀ {kvs : List (Key × V)} {ds : List (Key × D)}, KVr C a kvs ds → KVr C a (kvs.map fun p => if p.1 = k then (p.1, v) else p) (ds.map fun p => if p.1 = k then (p.1, d) else p)
  | _, _, .nil => .nil
  | x :: kvs, y :: ds, .cons h t => by
    refine .cons ?_ (kvr_map z hr t)
    dsimp only
    by_cases e : x.1 = k
    · have e2 : y.1 = k := by rw [← h.1]; exact e
      rw [if_pos e, if_pos e2]
      exact ⟨h.1, z, hr⟩
    · have e2 : ¬ y.1 = k := by rw [← h.1]; exact e
      rw [if_neg e, if_neg e2]
      exact h
theorem kvr_put {kvs : List (Key × V)} {ds : List (Key × D)} {k : Key} {v : V} {d : D} (h : KVr C a kvs ds) (z : fz d = true) (hr : ∃ s q, Rep C a s q v d) : KVr C a (putK kvs k v) (putG ds k d) := by
  unfold putK putG
  rw [kvr_any (k := k) h]
  split
  · exact kvr_map z hr h
  · exact kvr_app h (.cons ⟨rfl, z, hr⟩ .nil)
theorem kvr_len : ∀ {kvs : List (Key × V)} {ds : List (Key × D)}, KVr C a kvs ds → kvs.length = ds.length
  | _, _, .nil => rfl
  | _, _, .cons h t => by rw [List.length_cons, List.length_cons, kvr_len t]
end

/-! ### xs[i] = y of a slot's own list or dict -/
def setX (d i y : D) : Option D := match d, i with
  | .lst true l, .int k => (ixN l.length k).map fun n => .lst true (l.set n y)
  | .dic true ks ws, x => match kds ks ws, keyD x with
    | some ds, some k => if fzL ws = true ∧ ds.length < 16000000 then some (dicG (putG ds k y)) else none
    | _, _ => none
  | _, _ => none
theorem RelE.rewrD {G : Gm} {a : Wd} {σ : L2.St} {env : EnvD} {j : Nat} {ks ws : List D} (r : RelE G a σ env) (h : env[j]? = some (some (.dic true ks ws))) :
    ∃ x kvs, σ[j]? = some (some (.ref x)) ∧ a.H x = some (.dK kvs) ∧ RepL G.C a (j + 1) [] 0 (kvs.map fun p => kV p.1) ks ∧ RepL G.C a (j + 1) [] 0 (kvs.map (·.2)) ws ∧
      ∀ (kvs' : List (Key × V)) (ds : List (Key × D)), KVr G.C a kvs' ds → Step a ⟨a.F, upd a.H x (.dK kvs'), a.t⟩ ∧ RelE G ⟨a.F, upd a.H x (.dK kvs'), a.t⟩ σ (env.set j (some (dicG ds))) := by
  obtain ⟨w, h1, h2⟩ := r.slot j _ h
  simp only [Rep] at h2
  obtain ⟨x, ho, kv, vs, rfl, hx, dc, zk, hk, hv⟩ := h2
  rw [if_pos trivial] at hx
  obtain ⟨tx, hx⟩ := hx
  cases dc with
  | dk kvs =>
  refine ⟨x, kvs, h1, hx, hk, hv, fun kvs' ds kr => ?_⟩
  have ne : ∀ {y : Addr} {t : Option Tag}, a.t y = t → t ≠ some (j + 1, []) → y ≠ x := fun e ht => by rintro rfl; rw [tx] at e; exact ht e.symm
  have fx : a.F x = none := (r.ok.own x _ tx).1
  have up : ∀ {y : Addr}, y ≠ x → upd a.H x (.dK kvs') y = a.H y := fun e => upd_ne e
  have ok' : Ok ⟨a.F, upd a.H x (.dK kvs'), a.t⟩ := by
    refine ⟨fun y o e => ?_, fun y t e => ?_⟩
    · have : y ≠ x := by rintro rfl; have e : a.F y = some o := e; rw [fx] at e; cases e
      show upd a.H x _ y = _
      rw [up this]; exact r.ok.sub y o e
    · obtain ⟨g1, o, g2⟩ := r.ok.own y t e
      by_cases q : y = x
      · subst q; exact ⟨g1, _, upd_same⟩
      · exact ⟨g1, o, by show upd a.H x _ y = _; rw [up q]; exact g2⟩
  have mv : ∀ {d : D} {r p} {v1 : V}, (∀ z, (r, z ++ p) ≠ (j + 1, ([] : List Nat))) → Rep G.C a r p v1 d → Rep G.C ⟨a.F, upd a.H x (.dK kvs'), a.t⟩ r p v1 d := fun {d r p v1} hne h => by
    have := Rep.to (C := G.C) (a := a) (b := ⟨a.F, upd a.H x (.dK kvs'), a.t⟩) (r := r) (s := r) (p := p) (q := p) (fun _ _ h => h) (fun y z o h e => ⟨h, by
      show upd a.H x _ y = _
      rw [up (ne h (by intro q; exact hne z (Option.some.inj q)))]; exact e⟩) d [] v1
    exact this h
  refine ⟨fun y o e t => ⟨by show upd a.H x _ y = _; rw [up (ne t (by simp))]; exact e, t, rfl⟩, ⟨ok', by rw [List.length_set]; exact r.len, fun i d e => ?_, r.prm⟩⟩
  by_cases ij : j = i
  · subst ij
    have hj : j < env.length := (List.getElem?_eq_some_iff.mp h).1
    rw [List.getElem?_set_self hj] at e
    cases e
    refine ⟨.ref x, h1, ?_⟩
    simp only [dicG, Rep]
    refine ⟨x, .dK kvs', _, _, rfl, ?_, .dk kvs', fz_keys ds, ?_, ?_⟩
    · rw [if_pos trivial]; exact ⟨tx, upd_same⟩
    · exact RepL.fz (a := a) (b := ⟨a.F, upd a.H x (.dK kvs'), a.t⟩) (fun _ _ h => h) _ _ [] 0 _ (fz_keys ds) (kvr_keys (n := 0) kr)
    · exact RepL.fz (a := a) (b := ⟨a.F, upd a.H x (.dK kvs'), a.t⟩) (fun _ _ h => h) _ _ [] 0 _ (kvr_fz kr) (kvr_vals (n := 0) kr)
  · rw [List.getElem?_set_ne ij] at e
    obtain ⟨w, e1, e2⟩ := r.slot i d e
    exact ⟨w, e1, mv (by intro z q; exact ij (Nat.succ.inj (congrArg Prod.fst q)).symm) e2⟩
def mSetX (j : Nat) (mi mv : EM D) : EM FlowD := fun env => (mv env).bind fun (y, e1) =>
  match e1[j]? with
  | some (some _) => (mFrz mi e1).bind fun (x, e2) => match e2[j]?, x.get e2 with
    | some (some d), some i => match setX d i (frzQ y) with
      | some d' => .ok (.next, e2.set j (some d'))
      | none => .bad
    | _, _ => .bad
  | _ => .bad
theorem setX_w {G : Gm} {W : WX} {σ : L2.St} {H : Hp} {j : Nat} {mi mv : EM D} {D : Ends} (h : tS G W (mSetX j mi mv) D σ H) : tAsg (tE G W mv) (gSub (tVar j) (tE G W mi) (fun o i v H Q => rSetL o i v H Q ∨ rSetD o i v H Q)) D σ H := by
  obtain ⟨a, env, rfl, rel, post⟩ := h
  refine tE_ofS rel post fun y e1 b v st r1 rv p1 => ?_
  dsimp only at p1
  split at p1
  · rename_i dj hj0
    obtain ⟨zy, ry⟩ := frzQ_rep (s := 0) (q := []) r1.ok rv
    have r1' := r1.frz0
    obtain ⟨w, hw, _⟩ := r1.slot j _ hj0
    refine ⟨w, hw, ?_⟩
    show tE G W mi σ (frzW b 0).H _
    refine (frz_w (m := mi) (Q := fun i H2 => (rSetL w i v H2 fun H3 => D.nx σ H3) ∨ (rSetD w i v H2 fun H3 => D.nx σ H3)) ?_)
    refine tArg_ofS r1' (PostS.step frzW_step p1) fun x e2 c u s2 r2 ar p2 => ?_
    dsimp only at p2
    split at p2
    · rename_i d i hj hi
      cases hs : setX d i (frzQ y) with
      | none => rw [hs] at p2; exact (show False from p2).elim
      | some d' =>
        rw [hs] at p2
        dsimp only at p2
        obtain ⟨ri, pi⟩ := ar.rep r2 hi
        unfold setX at hs
        split at hs
        · rename_i l k
          cases rep_int pi
          cases hk : ixN l.length k with
          | none => rw [hk] at hs; cases hs
          | some n =>
            rw [hk] at hs; cases hs
            obtain ⟨xx, vs, g1, g2, g3, g4, g5⟩ := r2.put (n := n) (s := 0) (q := []) hj zy (ry.step r1'.ok s2 zy)
            rw [hw] at g1; cases g1
            exact .inl ⟨xx, vs, k, n, rfl, rfl, g2, by rw [g3]; exact hk, p2 _ σ g4 g5⟩
        · rename_i x' ks ws
          cases hd : kds ks ws with
          | none => rw [hd] at hs; cases hs
          | some ds =>
            cases hk : keyD i with
            | none => rw [hd, hk] at hs; cases hs
            | some k =>
              rw [hd, hk] at hs
              dsimp only at hs
              split at hs
              · rename_i z; cases hs
                obtain ⟨xx, kvs, g1, g2, g3, g4, g5⟩ := r2.rewrD hj
                rw [hw] at g1; cases g1
                have kr := kvr_of hd z.1 g3 g4
                obtain ⟨s3, r3⟩ := g5 _ _ (kvr_put (k := k) (v := v) kr zy ⟨0, [], ry.step r1'.ok s2 zy⟩)
                exact .inr ⟨xx, _, rfl, .inl ⟨kvs, k, g2, keyD_rep hk pi, by rw [kvr_len kr, szl]; omega, rfl⟩, p2 _ σ s3 r3⟩
              · cases hs
        · cases hs
    · exact (show False from p2).elim
  · exact (show False from p1).elim
theorem PSet.or {X : Cx} {t u : TSet} (h : PSet X t) (g : PSet X u) : PSet X (fun o i v H Q => t o i v H Q ∨ u o i v H Q) := by
  intro pins s σ H o i v ov iv w Q I ro ri rv q
  rcases q with q | q
  · exact h pins s σ H o i v ov iv w Q I ro ri rv q
  · exact g pins s σ H o i v ov iv w Q I ro ri rv q
theorem rs_putX {X : Cx} {G : Gm} {W : WX} {a e : Expr} {m n : EM D} {pos p : Pos} {x : Str} (s : St0 X G) (j : Nat) {pos' : Pos} (hN : X.N[j]? = some x) (hv : Vis X.env.scope x) (hi : PE X a (tE G W n)) (he : PE X e (tE G W m)) (hs : swapsWithSole [.Subscript (.Name x p) a pos'] e pos.line X.env = pure false := by rfl) (hw : swappedStores [.Subscript (.Name x p) a pos'] e X.env = pure none := by rfl)
    (h1 : (assignEach [.Subscript (.Name x p) a pos'] X.env).map (·.2) = [assign (.Subscript (.Name x p) a pos') X.env] := by rfl)
    (ha : ∀ v, assign (.Subscript (.Name x p) a pos') X.env v = (do
      let ov ← holding [v] (eval (.Name x p) X.env)
      let iv ← holding [v, ov] (eval a X.env)
      standAt pos'
      holding [v, ov, iv] (setItem ov iv v)
      release [v, ov, iv] []) := by intro _; rfl) (hd : (x == ("__debug__" : Str)) = false := by decide) (hcd : (x == ("__classdict__" : Str)) = false := by decide) : PS X (.Assign [.Subscript (.Name x p) a pos'] e pos) (tS G W (mSetX j n m)) :=
  (ps_asg he (pg_sub (pe_var hN hv hd hcd) hi (PSet.or set_list (set_dict (by have := s.u; omega))) ha) hs hw h1).weak fun _ _ _ q => setX_w q
end Mi
namespace Mi
open PySem PySem.Spec PyProof.Rows L2

/-! ### dict(..) -/
section
variable {X : Cx} {pins : List (Addr × Obj)} {σ : L2.St} {H : Hp} {s : Shared}
theorem plain_of (I : Inv X pins σ H s) {x : Addr} {vs : List V} (h : XT X.K H x vs) : ∃ its : List Value, Vals vs its ∧ PySem.PlainSeq "tuple" s.heap x its.toArray ∧ vs.length ≤ sizeLine := by
  rcases h with ⟨ob, h, hd, hc⟩ | ⟨o, its, n, hk, hc, hd, hs, hz, r⟩
  · obtain ⟨e, z, its, r, o', e', _, n, dt⟩ := (show ObjOk X.prog X.w H s.heap x (.frz ob (.tup vs)) from I.hok x _ h)
    rw [e] at e'; cases e'
    exact ⟨its, r, ⟨ob, n, e, hc, hd, dt⟩, z⟩
  · refine ⟨its.toList, r, ⟨o, n, I.kIn x o hk, hc, hd, by simpa using hs⟩, ?_⟩
    have e := r.length
    simp only [Array.length_toList] at e
    omega
theorem pairsV (I : Inv X pins σ H s) : ∀ {ps : List Addr} {kvs : List (Key × V)}, Paired (fun p kv => SqT X.K H p [kV kv.1, kv.2]) ps kvs →
    ∃ (prs : List (Key × Value)) (zs : List (Value × Value)), KV kvs prs ∧ prs.length = ps.length ∧ zs.length = ps.length ∧ ∀ (j : Nat) (k v : Value), zs[j]? = some (k, v) → ∃ (b : Addr) (key : Key), ps[j]? = some b ∧ IsTup s.heap b #[k, v] ∧ prs[j]? = some (key, v) ∧ keyIs key k = true
  | _, _, .nil => ⟨[], [], .nil, rfl, rfl, fun j k v e => by simp at e⟩
  | _, _, .cons (a := p) (b := kv) h t => by
    obtain ⟨prs, zs, r, hl, hz, hp⟩ := pairsV I t
    obtain ⟨its, rv, ht, _⟩ := I.tuple h
    obtain ⟨u, y, ei, ru, ry⟩ := vals2 rv
    subst ei
    refine ⟨(kv.1, y) :: prs, (u, y) :: zs, .cons ⟨rfl, ry⟩ r, by simp [hl], by simp [hz], fun j k v e => ?_⟩
    cases j with
    | zero =>
      have e' : (u, y) = (k, v) := Option.some.inj e
      cases e'
      exact ⟨p, kv.1, rfl, ht, rfl, kV_is (P := X.prog) (w := X.w) ru⟩
    | succ j =>
      obtain ⟨b, key, e1, e2, e3, e4⟩ := hp j k v (by simpa using e)
      exact ⟨b, key, by simpa using e1, e2, by simpa using e3, e4⟩
/- dict(t) of a tuple of pairs -/
theorem call_dictT (hcalm : X.calm = true) : CallR X (.type "dict") (fun xs H Q => ∃ (a : Addr) (ps : List Addr) (kvs : List (Key × V)), xs = [.ref a] ∧ XT X.K H a (ps.map V.ref) ∧ Paired (fun p kv => SqT X.K H p [kV kv.1, kv.2]) ps kvs ∧
    ∀ p, H p = none → Q (.ref p) (upd H p (.dK (mergeK [] kvs)))) := by
  intro pins s σ H xs us Q I r q
  obtain ⟨a, ps, kvs, rfl, hq, hp, q⟩ := q
  obtain ⟨u, rfl, rx⟩ := vals1 r
  cases rx
  obtain ⟨its, rv, pl, hz⟩ := plain_of I hq
  obtain rfl := refs_at rv
  rw [List.length_map] at hz
  obtain ⟨prs, zs, rel, hl, hzl, hpr⟩ := pairsV I hp
  have hit : PySem.PairItems s.heap (ps.map Value.ref).toArray (fun j => (ps[j]?).getD 0) zs := by
    refine ⟨by simp [hzl], fun j k v e => ?_⟩
    obtain ⟨b, key, e1, e2, _, _⟩ := hpr j k v e
    refine ⟨by simp [e1], ?_⟩
    simp only [e1, Option.getD_some]
    exact .inl e2
  refine PySem.call_dict_pairs (knd := mixKind X.prog X.w) (kvs := prs) (PySem.PairArg.tuple a (ps.map Value.ref).toArray (fun j => (ps[j]?).getD 0) zs) (I.ok.hd hcalm) ⟨pl, hit⟩ ⟨by rw [hl, hzl], fun i k v e => ?_⟩ (by rw [hzl]; exact hz) fun h' tk hd' k => ?_
  · obtain ⟨b, key, _, _, e3, e4⟩ := hpr i k v e
    exact ⟨key, e3, e4⟩
  · have hm : (s.heap.objs.size == sysModules) = false := beq_eq_false_iff_ne.mpr (Nat.ne_of_gt I.big)
    have hlen : (mergeK [] kvs).length ≤ sizeLine := Nat.le_trans (length_mergeK kvs []) (by rw [List.length_nil, Nat.zero_add, rel.length, hl]; exact hz)
    exact ⟨.ref s.heap.objs.size, upd H s.heap.objs.size (.dK (mergeK [] kvs)), I.laid (t' := tk) (fun b o e => k b o (by simp) e) (Nat.le_refl _) (show ObjOk X.prog X.w _ _ _ (.dK (mergeK [] kvs)) from ⟨hlen, hm, merged [] prs, KV.merge rel .nil, hd'⟩), rfl, q _ (I.hok.fresh (Nat.le_refl _))⟩
end
def pairsD : List D → Option (List (Key × D))
  | [] => some []
  | .tup [k, w] :: r => match keyD k, pairsD r with
    | some x, some ds => if fz w = true then some ((x, w) :: ds) else none
    | _, _ => none
  | _ => none
def mergeG (ds : List (Key × D)) (acc : List (Key × D)) : List (Key × D) := ds.foldl (fun acc p => putG acc p.1 p.2) acc
theorem kvr_merge {C : KM} {a : Wd} : ∀ {kvs : List (Key × V)} {ds : List (Key × D)} {k0 : List (Key × V)} {d0 : List (Key × D)}, KVr C a kvs ds → KVr C a k0 d0 → KVr C a (mergeK k0 kvs) (mergeG ds d0)
  | _, _, _, _, .nil, g => g
  | x :: kvs, y :: ds, k0, d0, .cons h t, g => by
    obtain ⟨h1, h2, h3⟩ := h
    have := kvr_put (k := y.1) g h2 h3
    rw [← h1] at this
    show KVr C a (mergeK (putK k0 x.1 x.2) kvs) (mergeG ds (putG d0 y.1 y.2))
    rw [← h1]
    exact kvr_merge t this
theorem pairs_rep {C : KM} {a : Wd} {r : Nat} {p : List Nat} (ok : Ok a) : ∀ {l : List D} {n : Nat} {vs : List V} {ds : List (Key × D)}, pairsD l = some ds → RepL C a r p n vs l →
    ∃ (ps : List Addr) (kvs : List (Key × V)), vs = ps.map V.ref ∧ Paired (fun p kv => SqT C.K a.H p [kV kv.1, kv.2]) ps kvs ∧ KVr C a kvs ds
  | [], n, vs, ds, e, h => by cases e; simp only [RepL] at h; subst h; exact ⟨[], [], rfl, .nil, .nil⟩
  | d :: l, n, vs, ds, e, ⟨v, us, e1, h1, h2⟩ => by
    match d, e, h1 with
    | .tup [k, w], e, h1 =>
      simp only [pairsD] at e
      cases hk : keyD k with
      | none => rw [hk] at e; cases e
      | some x =>
        cases hr : pairsD l with
        | none => rw [hk, hr] at e; cases e
        | some ds' =>
          rw [hk, hr] at e
          dsimp only at e
          split at e
          · rename_i z; cases e
            obtain ⟨ps, kvs, rfl, g1, g2⟩ := pairs_rep ok hr h2
            obtain ⟨y, ws, rfl, t1, t2⟩ := rep_tup ok h1
            simp only [RepL] at t2
            obtain ⟨v1, u1, rfl, q1, v2, u2, rfl, q2, rfl⟩ := t2
            have := keyD_rep hk q1
            subst this
            exact ⟨y :: ps, (x, v2) :: kvs, by rw [e1]; rfl, .cons t1 g1, .cons ⟨rfl, z, _, _, q2⟩ g2⟩
          · cases e
def dictD : List D → Option D
  | [.dic _ ks ws] => if fzL ws = true then some (.dic true ks ws) else none
  | [.tup l] => (pairsD l).map fun ds => dicG (mergeG ds [])
  | [.lst _ l] => (pairsD l).map fun ds => dicG (mergeG ds [])
  | _ => none
theorem new_dicG {C : KM} {a : Wd} {Q : VK} {kvs : List (Key × V)} {ds : List (Key × D)} (k : Ok a) (h : KVr C a kvs ds) (q : ∀ z b, Grow a b → Ok b → Rep C b 0 [] z (dicG ds) → Q z b.H) : ∀ x, a.H x = none → Q (.ref x) (upd a.H x (.dK kvs)) :=
  new_dic (C := C) (r := 0) (p := []) k (fz_keys ds) (kvr_fz h) (kvr_keys (n := 0) h) (kvr_vals (n := 0) h) q
theorem call_dictDD {X : Cx} {C : KM} (hC : C.K = X.K) (hc : X.calm = true) : CallR X (.type "dict") (cD C dictD) := by
  intro pins s σ H xs us Q I r h
  obtain ⟨a, ds, d, rfl, k, ps, hd, q⟩ := h
  match ds, hd with
  | [.dic o ks ws], hd =>
    simp only [dictD] at hd
    split at hd
    · rename_i z; cases hd
      obtain ⟨v, rfl, r1, p1⟩ := one_rep ps
      obtain ⟨x, u, kv, vs, rfl, h1, h2, h3, h4, h5⟩ := rep_dic k p1
      cases h2
      exact call_dictD pins s σ a.H _ us Q I r ⟨x, _, rfl, .inl h1, new_dic k h3 z h4 h5 q⟩
    · cases hd
  | [.tup l], hd =>
    simp only [dictD] at hd
    cases hp : pairsD l with
    | none => rw [hp] at hd; cases hd
    | some ds =>
      rw [hp] at hd; cases hd
      obtain ⟨v, rfl, r1, p1⟩ := one_rep ps
      have p1' := p1
      simp only [Rep] at p1'
      obtain ⟨x, vs, rfl, hx, hl⟩ := p1'
      obtain ⟨as, kvs, rfl, g1, g2⟩ := pairs_rep k hp hl
      rw [hC] at hx g1
      exact call_dictT hc pins s σ a.H _ us Q I r ⟨x, as, kvs, rfl, xt_mono k.sub hx, g1, new_dicG k (kvr_merge g2 .nil) q⟩
  | [.lst o l], hd =>
    simp only [dictD] at hd
    cases hp : pairsD l with
    | none => rw [hp] at hd; cases hd
    | some ds =>
      rw [hp] at hd; cases hd
      obtain ⟨v, rfl, r1, p1⟩ := one_rep ps
      obtain ⟨x, vs, rfl, hx, hl⟩ := rep_lst k p1
      obtain ⟨as, kvs, rfl, g1, g2⟩ := pairs_rep k hp hl
      rw [hC] at g1
      exact call_dictP hc pins s σ a.H _ us Q I r ⟨x, as, kvs, rfl, SqL.of hx, g1, new_dicG k (kvr_merge g2 .nil) q⟩
/- list(..), of a dict too -/
def listX : List D → Option D
  | [.dic _ ks _] => if fzL ks = true then some (.lst true ks) else none
  | ds => listD ds
theorem call_listX {X : Cx} {C : KM} (hC : C.K = X.K) (hc : X.calm = true) : CallR X (.type "list") (cD C listX) := by
  intro pins s σ H xs us Q I r h
  obtain ⟨a, ds, d, rfl, k, ps, hd, q⟩ := h
  match ds, hd, ps with
  | [.dic o ks ws], hd, ps =>
    simp only [listX] at hd
    split at hd
    · rename_i z; cases hd
      obtain ⟨v, rfl, r1, p1⟩ := one_rep ps
      obtain ⟨x, u, kv, vs, rfl, h1, h2, h3, h4, h5⟩ := rep_dic k p1
      cases h2
      exact call_list_dK hc pins s σ a.H _ us Q I r ⟨x, _, rfl, h1, new_lst k z h4 q⟩
    · cases hd
  | [.lst o l], hd, ps => exact call_listD hC pins s σ a.H xs us Q I r ⟨a, _, d, rfl, k, ps, hd, q⟩
  | [.tup l], hd, ps => exact call_listD hC pins s σ a.H xs us Q I r ⟨a, _, d, rfl, k, ps, hd, q⟩
  | [.scr l], hd, ps => exact call_listD hC pins s σ a.H xs us Q I r ⟨a, _, d, rfl, k, ps, hd, q⟩
end Mi
namespace Mi
open PySem PySem.Spec PyProof.Rows L2

/-! ### dict comprehensions -/
def loopDc (t : Tgt) (cond : EM Bool) (ek : EM Arg) (ev : EM D) (own : List Nat) : List D → List (Key × D) → EnvD → Res (List (Key × D) × EnvD)
  | [], acc, e => .ok (acc, e)
  | d :: ds, acc, e => match mTg t d (wipeE e own) with
    | none => .bad
    | some e1 => match cond e1 with
      | .ok (true, e2) => match ek e2 with
        | .ok (x, e3) => match ev e3 with
          | .ok (y, e4) => match (x.get e4).bind keyD with
            | some k => loopDc t cond ek ev own ds (putG acc k (frzQ y)) e4
            | none => .bad
          | _ => .bad
        | _ => .bad
      | .ok (false, e2) => loopDc t cond ek ev own ds acc e2
      | _ => .bad
def mDc (mi : EM (List D)) (t : Tgt) (cond : EM Bool) (ek : EM Arg) (ev : EM D) (own : List Nat) : EM D := fun env => (mi env).bind fun (ds, e) =>
  if fzL ds = true ∧ ds.length ≤ 1000 then (loopDc t cond ek ev own ds [] e).bind fun (l, e') => .ok (dicG l, restE e e' own) else .bad
structure GrowX (C : KM) (b c : Wd) (A : Addr) (acc : List (Key × D)) : Prop where
  st : Step b c
  ok : Ok c
  f : c.F A = none
  t : c.t A = none
  h : ∃ kvs, c.H A = some (.dK kvs) ∧ KVr C c kvs acc
theorem kvr_step {C : KM} {a b : Wd} (k : Ok a) (st : Step a b) : ∀ {kvs : List (Key × V)} {ds : List (Key × D)}, KVr C a kvs ds → KVr C b kvs ds
  | _, _, .nil => .nil
  | _, _, .cons h t => .cons ⟨h.1, h.2.1, 0, [], let ⟨s, q, r⟩ := h.2.2; r.step k st h.2.1⟩ (kvr_step k st t)
theorem GrowX.next {C : KM} {b c c' : Wd} {A : Addr} {acc : List (Key × D)} (g : GrowX C b c A acc) (st : Step c c') (ok : Ok c') : GrowX C b c' A acc := by
  obtain ⟨vs, h1, h2⟩ := g.h
  obtain ⟨k1, k2, k3⟩ := st A _ h1 g.t
  exact ⟨g.st.trans st, ok, k3.trans g.f, k2, ⟨vs, k1, kvr_step g.ok st h2⟩⟩
theorem kvr_put_A {C : KM} {c : Wd} {A : Addr} {o : HO} : ∀ {kvs : List (Key × V)} {ds : List (Key × D)}, KVr C c kvs ds → KVr C (putA c A o) kvs ds
  | _, _, .nil => .nil
  | _, y :: _, .cons h t => .cons ⟨h.1, h.2.1, 0, [], let ⟨s, q, r⟩ := h.2.2; Rep.fz (a := c) (b := putA c A o) (fun _ _ h => h) y.2 _ _ _ h.2.1 r⟩ (kvr_put_A t)
theorem GrowX.push {C : KM} {b c : Wd} {A : Addr} {acc : List (Key × D)} {kvs : List (Key × V)} {k : Key} {v : V} {y : D} {r : Nat} {p : List Nat} (g : GrowX C b c A acc) (hA : b.H A = none) (h : c.H A = some (.dK kvs)) (zy : fz y = true) (rp : Rep C c r p v y) :
    GrowX C b (putA c A (.dK (putK kvs k v))) A (putG acc k y) := by
  obtain ⟨us, h1, h2⟩ := g.h
  rw [h] at h1; cases h1
  refine ⟨fun x o e t => ?_, putA_ok g.ok g.f, g.f, g.t, ⟨_, upd_same, kvr_put_A (kvr_put h2 zy ⟨r, p, rp⟩)⟩⟩
  obtain ⟨g1, g2, g3⟩ := g.st x o e t
  have ne : x ≠ A := by rintro rfl; rw [hA] at e; cases e
  exact ⟨by show upd c.H A _ x = _; rw [upd_ne ne]; exact g1, g2, g3⟩
theorem putG_len (ds : List (Key × D)) (k : Key) (d : D) : (putG ds k d).length ≤ ds.length + 1 := by
  unfold putG
  split
  · rw [List.length_map]; omega
  · rw [List.length_append]; simp
section
variable {G : Gm} {W : WX} {σ : L2.St} {H : Hp} {Q : VK}
theorem dc_w {mi : EM (List D)} {t : Tgt} {cond : EM Bool} {ek : EM Arg} {ev : EM D} {own : List Nat} (hf : Tgt.off G.io t) (ho : ∀ i ∈ G.io, i ∉ own) (hown : Tgt.ins own t)
    (h : tE G W (mDc mi t cond ek ev own) σ H Q) : tDc (tI G W mi) (gT G.C.K t) (tT G W0 cond) (tArg G W0 ek) (tE G W0 ev) own σ H Q := by
  obtain ⟨a, env, rfl, rel, post⟩ := h
  refine ⟨a, env, rfl, rel, post.bind.imp fun ds e b st r p => ?_⟩
  dsimp only at p
  split at p
  · rename_i z
    refine ⟨z.1, fun J hJ A hA => ?_⟩
    have fA : b.F A = none := by
      cases q : b.F A with
      | none => rfl
      | some u => have := r.ok.sub A u q; rw [hA] at this; cases this
    have tA : b.t A = none := by
      cases q : b.t A with
      | none => rfl
      | some u => obtain ⟨_, u, h⟩ := r.ok.own A u q; rw [hA] at h; cases h
    let K : List (Key × D) × EnvD → Res (D × EnvD) := fun (l, e') => .ok (dicG l, restE e e' own)
    refine ⟨fun i m H => m = ds.length - i ∧ i ≤ ds.length ∧ ∃ c acc e1, c.H = H ∧ GrowX G.C b c A acc ∧ acc.length ≤ i ∧ e1.length = e.length ∧ RelE G c (wipe σ own) (wipeE e1 own) ∧
      PostR G W σ b ((loopDc t cond ek ev own (ds.drop i) acc e1).bind K) fun d _ b => ∀ v, Rep G.C b 0 [] v d → Q v b.H, ⟨_, rfl, Nat.zero_le _, putA b A (.dK []), [], e, rfl, ?_, Nat.zero_le _, rfl, ?_, p⟩, ?_⟩
    · refine ⟨fun x o h t => ?_, putA_ok r.ok fA, fA, tA, ⟨[], upd_same, .nil⟩⟩
      have ne : x ≠ A := by rintro rfl; rw [hA] at h; cases h
      exact ⟨by show upd b.H A _ x = _; rw [upd_ne ne]; exact h, t, rfl⟩
    · exact putA_rel (r.wiped ho) fA tA
    · rintro i m H ⟨rfl, hi, c, acc, e1, rfl, gl, hacc, hel, rc, pc⟩
      obtain ⟨hgo, hstop⟩ := hJ c gl.ok gl.st
      by_cases hlt : i < ds.length
      · obtain ⟨d, hd⟩ : ∃ d, ds[i]? = some d := ⟨_, List.getElem?_eq_getElem hlt⟩
        obtain ⟨h1, h2⟩ := hgo i d hd
        have hdrop : ds.drop i = d :: ds.drop (i + 1) := by
          rw [List.drop_eq_getElem_cons hlt]
          rw [List.getElem?_eq_getElem hlt] at hd
          cases hd; rfl
        rw [hdrop] at pc
        simp only [loopDc] at pc
        refine .inr ⟨h1, fun H' => ∃ c acc e1, c.H = H' ∧ GrowX G.C b c A acc ∧ acc.length ≤ i + 1 ∧ e1.length = e.length ∧ RelE G c (wipe σ own) (wipeE e1 own) ∧
          PostR G W σ b ((loopDc t cond ek ev own (ds.drop (i + 1)) acc e1).bind K) fun d _ b => ∀ v, Rep G.C b 0 [] v d → Q v b.H, fun H' q => ⟨ds.length - (i + 1), by omega, rfl, hlt, q⟩, fun x H' y => ?_⟩
        obtain ⟨c1, rfl, gr, ok1, rp⟩ := h2 x H' y
        cases ht : mTg t d (wipeE e1 own) with
        | none => rw [ht] at pc; exact (show False from pc).elim
        | some e2 =>
          rw [ht] at pc
          dsimp only at pc
          have gl1 := gl.next gr.step ok1
          refine gT_mono t (ins_w t hown _ x c1.H (fun σ2 H2 => H2 = c1.H ∧ RelE G c1 σ2 e2) (tg_w t hf (rc.grow gr ok1) (fzL_mem z.1 d (List.mem_of_getElem? hd)) rp ht fun σ2 r2 => ⟨rfl, r2⟩)) fun σ2 H2 ⟨hw, hH, r2⟩ => ?_
          subst hH
          rw [wipe_wipe] at hw
          refine ⟨hw, c1, e2, rfl, r2, ?_⟩
          have hlen : ∀ {c : Wd} {e' : EnvD}, RelE G c σ2 e' → e'.length = e.length := fun {c e'} r' => by
            have := congrArg List.length hw
            rw [wipe_length, wipe_length] at this
            rw [r'.len, this, r.len]
          cases hc : cond e2 with
          | bad => rw [hc] at pc; exact (show False from pc).elim
          | exc x e3 => rw [hc] at pc; exact (show False from pc).elim
          | ok be =>
            obtain ⟨bb, e3⟩ := be
            rw [hc] at pc
            intro c2 st2 r3
            cases bb with
            | false =>
              rw [if_neg Bool.false_ne_true]
              exact ⟨c2, acc, e3, rfl, gl1.next st2 r3.ok, Nat.le_succ_of_le hacc, hlen r3, r3.rewiped hw ho, pc⟩
            | true =>
              rw [if_pos rfl]
              refine ⟨c2, e3, rfl, r3, ?_⟩
              dsimp only at pc
              cases hk : ek e3 with
              | bad => rw [hk] at pc; exact (show False from pc).elim
              | exc x e4 => rw [hk] at pc; exact (show False from pc).elim
              | ok xe =>
                obtain ⟨xa, e4⟩ := xe
                rw [hk] at pc
                intro c3 st3 r4 vk ark
                refine ⟨c3, e4, rfl, r4, ?_⟩
                dsimp only at pc
                cases he : ev e4 with
                | bad => rw [he] at pc; exact (show False from pc).elim
                | exc x e5 => rw [he] at pc; exact (show False from pc).elim
                | ok ye =>
                  obtain ⟨y, e5⟩ := ye
                  rw [he] at pc
                  intro c4 st4 r5 v rv
                  dsimp only at pc
                  have ark := ark.step r4.ok st4
                  cases hx : xa.get e5 with
                  | none => simp only [hx, Option.bind_none] at pc; exact (show False from pc).elim
                  | some dk =>
                    cases hkk : keyD dk with
                    | none => simp only [hx, Option.bind_some, hkk] at pc; exact (show False from pc).elim
                    | some key =>
                      simp only [hx, Option.bind_some, hkk] at pc
                      obtain ⟨rk, pk⟩ := ark.rep r5 hx
                      have ev2 := keyD_rep hkk pk
                      have gl4 := ((gl1.next st2 r3.ok).next st3 r4.ok).next st4 r5.ok
                      obtain ⟨kvs, k1, k2⟩ := gl4.h
                      obtain ⟨zy, rq⟩ := frzQ_rep (s := 0) (q := []) r5.ok rv
                      have gl5 := (gl4.next (frzW_step (r := 0)) (frzW_ok r5.ok)).push (k := key) hA k1 zy rq
                      refine ⟨kvs, key, ev2, k1, ?_, putA (frzW c4 0) A (.dK (putK kvs key v)), putG acc key (frzQ y), e5, rfl, gl5, ?_, hlen r5, ?_, pc⟩
                      · rw [kvr_len k2]; exact small1000 (by omega)
                      · exact Nat.le_trans (putG_len _ _ _) (by omega)
                      · exact putA_rel ((r5.rewiped hw ho).frz0) (gl4.next (frzW_step (r := 0)) (frzW_ok r5.ok)).f (gl4.next (frzW_step (r := 0)) (frzW_ok r5.ok)).t
      · have e2 : i = ds.length := by omega
        subst e2
        rw [List.drop_length] at pc
        refine .inl ⟨hstop, ?_⟩
        obtain ⟨kvs, k1, k2⟩ := gl.h
        have pc : ∀ b', Step b b' → RelE G b' σ (restE e e1 own) → ∀ v, Rep G.C b' 0 [] v (dicG acc) → Q v b'.H := pc
        have rel' := r.unwiped rc gl.st hel
        refine pc (tagA c A) (fun x o h t => ?_) ?_ (.ref A) ?_
        · obtain ⟨g1, g2, g3⟩ := gl.st x o h t
          have ne : x ≠ A := by rintro rfl; rw [hA] at h; cases h
          exact ⟨g1, by show (if x = A then some (0, []) else c.t x) = none; rw [if_neg ne]; exact g2, g3⟩
        · exact ⟨tagA_ok gl.ok gl.f k1, rel'.len, fun i d h => let ⟨v, e, q⟩ := rel'.slot i d h; ⟨v, e, tagA_to gl.t q⟩, rel'.prm⟩
        · simp only [dicG, Rep]
          refine ⟨A, .dK kvs, _, _, rfl, ?_, .dk kvs, fz_keys acc, ?_, ?_⟩
          · rw [if_pos trivial]
            exact ⟨by show (if A = A then some (0, []) else c.t A) = _; rw [if_pos rfl], k1⟩
          · exact RepL.fz (a := c) (b := tagA c A) (fun _ _ h => h) _ _ [] 0 _ (fz_keys acc) (kvr_keys (n := 0) k2)
          · exact RepL.fz (a := c) (b := tagA c A) (fun _ _ h => h) _ _ [] 0 _ (kvr_fz k2) (kvr_vals (n := 0) k2)
  · exact (show False from p).elim
theorem r_dc {X : Cx} {lv : Nat} {e tg kx vx : Expr} {mi : EM (List D)} {mt : EM Bool} {ek : EM Arg} {m : EM D} {ifs : List Expr} {scope : Scope} {pos : Pos} (s : Go X G W lv) (own : List (Str × Nat)) (t : Tgt) (hio : Tgt.off G.io t) (hio2 : ∀ i ∈ G.io, i ∉ own.map (·.2)) (hown : Tgt.ins (own.map (·.2)) t) (hi : PI X tg e (tI G W mi)) (ok : BlkOk X.N X.env.scope scope own)
    (hg : ∀ (s : Shared) (H : Hp) (C : Addr) (cl : List (Str × Addr)) (fp : List Addr), PG (X.blk s H scope (compEnvC scope cl C X.env) fp) tg (gT G.C.K t))
    (ht : ∀ (s : Shared) (H : Hp) (C : Addr) (cl : List (Str × Addr)) (fp : List Addr), Go (X.blk s H scope (compEnvC scope cl C X.env) fp) G W0 lv → PTs (X.blk s H scope (compEnvC scope cl C X.env) fp) ifs (tT G W0 mt))
    (hk : ∀ (s : Shared) (H : Hp) (C : Addr) (cl : List (Str × Addr)) (fp : List Addr), Go (X.blk s H scope (compEnvC scope cl C X.env) fp) G W0 lv → PE (X.blk s H scope (compEnvC scope cl C X.env) fp) kx (tArg G W0 ek))
    (he : ∀ (s : Shared) (H : Hp) (C : Addr) (cl : List (Str × Addr)) (fp : List Addr), Go (X.blk s H scope (compEnvC scope cl C X.env) fp) G W0 lv → PE (X.blk s H scope (compEnvC scope cl C X.env) fp) vx (tE G W0 m)) (hs : ∀ x, foldedSetIterable e X.env x = pure x := by intro _; rfl) :
    PE X (.DictComp kx vx [⟨tg, e, ifs, 0⟩] scope pos) (tE G W (mDc mi t mt ek m (own.map (·.2)))) :=
  (pe_dc s.cm s.n hi ok hg (fun s0 H C cl fp => ht s0 H C cl fp (s.blk ..)) (fun s0 H C cl fp => hk s0 H C cl fp (s.blk ..)) (fun s0 H C cl fp => he s0 H C cl fp (s.blk ..)) hs).weak fun _ _ _ q => dc_w hio hio2 hown q
end
end Mi
namespace Mi
open PySem PySem.Spec PyProof.Rows L2

/-! ### fields of instances -/
structure FldOk (C : KM) (c f : Str) : Prop where
  ex : ∃ u, C.mg c = some (.ref u) ∧ Cls C.K u ∧ NoAttr C.K u f
def fldD : List Str → List D → Str → Option D
  | g :: ns, w :: ws, f => if f = g then some w else fldD ns ws f
  | _, _, _ => none
def fldG (cs : List Str) (f : Str) : D → Option D
  | .ins _ c ns ws => if c ∈ cs then pick (fldD ns ws f) else none
  | _ => none
theorem fld_rep {C : KM} {a : Wd} {r : Nat} {p : List Nat} {f : Str} : ∀ {ns : List Str} {ws : List D} {vs : List V} {n : Nat} {d : D}, fldD ns ws f = some d → RepL C a r p n vs ws → ∃ v j, (ns.zip vs).lookup f = some v ∧ Rep C a r (j :: p) v d
  | [], ws, vs, n, d, e, h => by simp [fldD] at e
  | g :: ns, [], vs, n, d, e, h => by simp [fldD] at e
  | g :: ns, w :: ws, vs, n, d, e, ⟨v, us, e1, h1, h2⟩ => by
    subst e1
    simp only [fldD] at e
    by_cases q : f = g
    · rw [if_pos q] at e; cases e
      subst q
      exact ⟨v, n, by simp [List.lookup], h1⟩
    · rw [if_neg q] at e
      obtain ⟨v', j, g1, g2⟩ := fld_rep e h2
      have qb : (f == g) = false := by simpa using q
      exact ⟨v', j, by simp only [List.zip_cons_cons, List.lookup, qb]; exact g1, g2⟩
theorem rep_ins {C : KM} {a : Wd} {r : Nat} {p : List Nat} {v : V} {o : Bool} {c : Str} {ns : List Str} {ws : List D} (k : Ok a) (h : Rep C a r p v (.ins o c ns ws)) :
    ∃ x u dx vs, v = .ref x ∧ C.mg c = some (.ref u) ∧ vs.length = ns.length ∧ a.H x = some (.ins u dx (ns.zip vs)) ∧ RepL C a r p 0 vs ws := by
  simp only [Rep] at h
  obtain ⟨x, u, dx, vs, e, hm, hl, c, h⟩ := h
  refine ⟨x, u, dx, vs, e, hm, hl, ?_, h⟩
  cases o with
  | true => rw [if_pos rfl] at c; exact c.2
  | false => rw [if_neg Bool.false_ne_true] at c; exact k.sub _ _ c.1
section
variable {X : Cx} {G : Gm} {W : WX} {lv : Nat} {e : Expr} {ma : EM Arg} {m : EM D} {pos p pos' : Pos} {x f : Str}
theorem r_fld (s : St0 X G) (cs : List Str) (hc : ∀ c ∈ cs, FldOk G.C c f) (ha : PE X e (tArg G W ma)) (hb : attributeBase e f X.env (eval e X.env) = eval e X.env := by rfl) : PE X (.Attribute e f pos) (tE G W (mUn (fldG cs f) ma)) :=
  (pe_fld ha hb).weak fun σ H Q q => by
    obtain ⟨a, env, rfl, rel, post⟩ := q
    refine tArg_of rel post fun x e1 b v s1 rel1 ar1 post1 => ?_
    cases hx : x.get e1 with
    | none => simp only [hx] at post1; exact (show False from post1).elim
    | some d1 =>
      simp only [hx] at post1
      obtain ⟨d, hd, k⟩ := post1.lift rel1
      obtain ⟨r1, p1⟩ := ar1.rep rel1 hx
      cases d1 <;> simp only [fldG] at hd <;> (try (cases hd; done))
      case ins o c ns ws =>
        split at hd
        · rename_i hin
          obtain ⟨h1, h2⟩ := pick_eq hd
          obtain ⟨y, u, dx, vs, rfl, hm, hl, hH, hr⟩ := rep_ins rel1.ok p1
          obtain ⟨v, j, g1, g2⟩ := fld_rep h1 hr
          obtain ⟨u', hm', cl, na⟩ := (hc c hin).ex
          rw [hm] at hm'; cases hm'
          rw [← s.k] at cl na
          exact ⟨y, u, dx, _, v, rfl, hH, cl, na, g1, k b (Grow.refl b) rel1.ok v (g2.step rel1.ok (Step.refl b) h2)⟩
        · cases hd
end
/-! ### self.f = e -/
def putW (f : Str) (y : D) : List Str → List D → List Str × List D
  | g :: ns, x :: ws => if g = f then (g :: ns, y :: ws) else (g :: (putW f y ns ws).1, x :: (putW f y ns ws).2)
  | _, _ => ([f], [y])
theorem put_rep {C : KM} {a : Wd} {f : Str} {y : D} {v : V} (zy : fz y = true) (hy : ∃ s q, Rep C a s q v y) : ∀ {ns : List Str} {ws : List D} {vs : List V} {r n : Nat} {p : List Nat}, fzL ws = true → vs.length = ns.length → RepL C a r p n vs ws →
    ∃ vs', putF f v (ns.zip vs) = (putW f y ns ws).1.zip vs' ∧ vs'.length = (putW f y ns ws).1.length ∧ fzL (putW f y ns ws).2 = true ∧ RepL C a 0 [] n vs' (putW f y ns ws).2
  | [], ws, vs, r, n, p, z, hl, h => by
    have e : vs = [] := List.length_eq_zero_iff.mp hl
    subst e
    obtain ⟨s, q, hy⟩ := hy
    cases ws with
    | nil => exact ⟨[v], rfl, rfl, by simp [putW, fzL, zy], v, [], rfl, Rep.fz (a := a) (b := a) (fun _ _ h => h) y _ _ v zy hy, by simp [RepL]⟩
    | cons w ws => obtain ⟨_, _, e, _⟩ := h; cases e
  | g :: ns, [], vs, r, n, p, z, hl, h => by
    simp only [RepL] at h
    subst h
    simp at hl
  | g :: ns, w :: ws, vs, r, n, p, z, hl, ⟨u, us, e1, h1, h2⟩ => by
    subst e1
    simp only [fzL, Bool.and_eq_true] at z
    simp only [List.length_cons, Nat.add_right_cancel_iff] at hl
    by_cases q : g = f
    · subst q
      obtain ⟨s, q, hy⟩ := hy
      refine ⟨v :: us, by simp [putF, putW], by simp [putW, hl], by simp [putW, fzL, zy, z.2], ?_⟩
      simp only [putW, if_true]
      exact ⟨v, us, rfl, Rep.fz (a := a) (b := a) (fun _ _ h => h) y _ _ v zy hy, RepL.fz (a := a) (b := a) (fun _ _ h => h) ws _ _ _ us z.2 h2⟩
    · obtain ⟨vs', g1, g2, g3, g4⟩ := put_rep (f := f) zy hy (n := n + 1) z.2 hl h2
      refine ⟨u :: vs', ?_, ?_, ?_, ?_⟩
      · simp only [List.zip_cons_cons, putF, putW, if_neg q, g1]
      · simp [putW, if_neg q, g2]
      · simp [putW, if_neg q, fzL, z.1, g3]
      · simp only [putW, if_neg q]
        exact ⟨u, vs', rfl, Rep.fz (a := a) (b := a) (fun _ _ h => h) w _ _ u z.1 h1, g4⟩
def fsetG (cs : List Str) (f : Str) (d y : D) : Option D := match d with
  | .ins true c ns ws => if c ∈ cs ∧ fzL ws = true ∧ ns.length < 900 then some (.ins true c (putW f y ns ws).1 (putW f y ns ws).2) else none
  | _ => none
def mFSet (j : Nat) (cs : List Str) (f : Str) (mv : EM D) : EM FlowD := fun env => (mv env).bind fun (y, e) => match e[j]? with
  | some (some d) => match fsetG cs f d (frzQ y) with
    | some d' => .ok (.next, e.set j (some d'))
    | none => .bad
  | _ => .bad
theorem RelE.rewrI {G : Gm} {a : Wd} {σ : L2.St} {env : EnvD} {j : Nat} {c : Str} {ns : List Str} {ws : List D} (r : RelE G a σ env) (h : env[j]? = some (some (.ins true c ns ws))) :
    ∃ x u dx vs, σ[j]? = some (some (.ref x)) ∧ G.C.mg c = some (.ref u) ∧ vs.length = ns.length ∧ a.H x = some (.ins u dx (ns.zip vs)) ∧ RepL G.C a (j + 1) [] 0 vs ws ∧
      ∀ (ns' : List Str) (ws' : List D) (vs' : List V) (s n : Nat) (q : List Nat), vs'.length = ns'.length → fzL ws' = true → RepL G.C a s q n vs' ws' →
        Step a ⟨a.F, upd a.H x (.ins u dx (ns'.zip vs')), a.t⟩ ∧ RelE G ⟨a.F, upd a.H x (.ins u dx (ns'.zip vs')), a.t⟩ σ (env.set j (some (.ins true c ns' ws'))) := by
  obtain ⟨w, h1, h2⟩ := r.slot j _ h
  simp only [Rep] at h2
  obtain ⟨x, u, dx, vs, rfl, hm, hl, hx, hr⟩ := h2
  rw [if_pos trivial] at hx
  obtain ⟨tx, hx⟩ := hx
  refine ⟨x, u, dx, vs, h1, hm, hl, hx, hr, fun ns' ws' vs' s n q hl' z hr' => ?_⟩
  have ne : ∀ {y : Addr} {t : Option Tag}, a.t y = t → t ≠ some (j + 1, []) → y ≠ x := fun e ht => by rintro rfl; rw [tx] at e; exact ht e.symm
  have fx : a.F x = none := (r.ok.own x _ tx).1
  have up : ∀ {y : Addr}, y ≠ x → upd a.H x (.ins u dx (ns'.zip vs')) y = a.H y := fun e => upd_ne e
  have ok' : Ok ⟨a.F, upd a.H x (.ins u dx (ns'.zip vs')), a.t⟩ := by
    refine ⟨fun y o e => ?_, fun y t e => ?_⟩
    · have : y ≠ x := by rintro rfl; have e : a.F y = some o := e; rw [fx] at e; cases e
      show upd a.H x _ y = _
      rw [up this]; exact r.ok.sub y o e
    · obtain ⟨g1, o, g2⟩ := r.ok.own y t e
      by_cases q : y = x
      · subst q; exact ⟨g1, _, upd_same⟩
      · exact ⟨g1, o, by show upd a.H x _ y = _; rw [up q]; exact g2⟩
  have mv : ∀ {d : D} {r p} {v1 : V}, (∀ z, (r, z ++ p) ≠ (j + 1, ([] : List Nat))) → Rep G.C a r p v1 d → Rep G.C ⟨a.F, upd a.H x (.ins u dx (ns'.zip vs')), a.t⟩ r p v1 d := fun {d r p v1} hne h => by
    have := Rep.to (C := G.C) (a := a) (b := ⟨a.F, upd a.H x (.ins u dx (ns'.zip vs')), a.t⟩) (r := r) (s := r) (p := p) (q := p) (fun _ _ h => h) (fun y z o h e => ⟨h, by
      show upd a.H x _ y = _
      rw [up (ne h (by intro q; exact hne z (Option.some.inj q)))]; exact e⟩) d [] v1
    exact this h
  refine ⟨fun y o e t => ⟨by show upd a.H x _ y = _; rw [up (ne t (by simp))]; exact e, t, rfl⟩, ⟨ok', by rw [List.length_set]; exact r.len, fun i d e => ?_, r.prm⟩⟩
  by_cases ij : j = i
  · subst ij
    have hj : j < env.length := (List.getElem?_eq_some_iff.mp h).1
    rw [List.getElem?_set_self hj] at e
    cases e
    refine ⟨.ref x, h1, ?_⟩
    simp only [Rep]
    refine ⟨x, u, dx, vs', rfl, hm, hl', ?_, ?_⟩
    · rw [if_pos trivial]; exact ⟨tx, upd_same⟩
    · exact RepL.fz (a := a) (b := ⟨a.F, upd a.H x (.ins u dx (ns'.zip vs')), a.t⟩) (fun _ _ h => h) ws' q [] n vs' z hr'
  · rw [List.getElem?_set_ne ij] at e
    obtain ⟨w, e1, e2⟩ := r.slot i d e
    exact ⟨w, e1, mv (by intro z q; exact ij (Nat.succ.inj (congrArg Prod.fst q)).symm) e2⟩
section
variable {X : Cx} {G : Gm} {W : WX} {e : Expr} {m : EM D} {pos p pos' : Pos} {x f : Str}
theorem rs_fld (s : St0 X G) (j : Nat) (cs : List Str) (hc : ∀ c ∈ cs, FldOk G.C c f) (hN : X.N[j]? = some x) (hv : Vis X.env.scope x) (he : PE X e (tE G W m)) (hs : swapsWith e (some (.Attribute (.Name x p) f pos')) pos.line X.env = pure false := by rfl)
    (hd : (x == ("__debug__" : Str)) = false := by decide) (hcd : (x == ("__classdict__" : Str)) = false := by decide) : PS X (.Assign [.Attribute (.Name x p) f pos'] e pos) (tS G W (mFSet j cs f m)) :=
  (ps_fld (pe_var hN hv hd hcd) he hs).weak fun D σ H q => by
    obtain ⟨a, env, rfl, rel, post⟩ := q
    refine tE_ofS rel post fun y e1 b v st r1 rv p1 => ?_
    dsimp only at p1
    split at p1
    · rename_i d hj
      obtain ⟨zy, ry⟩ := frzQ_rep (s := 0) (q := []) r1.ok rv
      cases hf : fsetG cs f d (frzQ y) with
      | none => rw [hf] at p1; exact (show False from p1).elim
      | some d' =>
        rw [hf] at p1
        dsimp only at p1
        unfold fsetG at hf
        split at hf
        · rename_i c ns ws
          split at hf
          · rename_i z; cases hf
            obtain ⟨xx, u, dx, vs, h1, hm, hl, hH, hr, k⟩ := r1.frz0.rewrI hj
            obtain ⟨u', hm', cl, na⟩ := (hc c z.1).ex
            rw [hm] at hm'; cases hm'
            rw [← s.k] at cl na
            obtain ⟨vs', g1, g2, g3, g4⟩ := put_rep (f := f) zy ⟨0, [], ry⟩ (n := 0) z.2.1 hl hr
            obtain ⟨k1, k2⟩ := k _ _ vs' 0 0 [] g2 g3 g4
            refine ⟨.ref xx, h1, xx, u, dx, _, rfl, hH, cl, na, ?_, ?_⟩
            · rw [List.length_zip]; omega
            · rw [g1]
              exact p1 _ σ (frzW_step.trans k1) k2
          · cases hf
        · cases hf
    · exact (show False from p1).elim
end
end Mi
namespace Mi
open PySem PySem.Spec PyProof.Rows L2

/-! ### a new instance: C(..), __init__ is a def g of the instance and the arguments -/
def makeR (c : Str) (g : List D → Res (D × EnvD)) (xs : List Arg) (e : EnvD) : Res (D × EnvD) := match mCallR g (.var e.length :: xs) (e ++ [some (.ins true c [] [])]) with
  | .ok (.non, e') => match e'[e.length]? with
    | some (some d) => .ok (d, e'.take e.length)
    | _ => .bad
  | .exc x e' => .exc x (e'.take e.length)
  | _ => .bad
def mMake (c : Str) (g : List D → Res (D × EnvD)) (ma : EM (List Arg)) : EM D := fun env => (ma env).bind fun (xs, e) => makeR c g xs e
/- the world with the new instance in a slot behind the frame's -/
def insW (b : Wd) (x dx u : Addr) (j : Nat) : Wd := ⟨b.F, upd (upd b.H dx (.own x)) x (.ins u dx []), fun y => if y = x then some (j + 1, []) else b.t y⟩
theorem RelE.cut {G : Gm} {a : Wd} {σ : L2.St} {w : Option V} {e : EnvD} (r : RelE G a (σ ++ [w]) e) (hp : ∀ i ∈ G.io, ∀ v, G.vs0[i]? = some v → σ[i]? = some (some v)) : RelE G a σ (e.take σ.length) := by
  have hl : e.length = σ.length + 1 := by rw [r.len]; simp
  refine ⟨r.ok, by rw [List.length_take]; omega, fun i d h => ?_, hp⟩
  have hi : i < σ.length := by
    have := (List.getElem?_eq_some_iff.mp h).1
    rw [List.length_take] at this; omega
  rw [List.getElem?_take_of_lt hi] at h
  obtain ⟨v, e1, q⟩ := r.slot i d h
  rw [List.getElem?_append_left hi] at e1
  exact ⟨v, e1, q⟩
theorem make_sp {G : Gm} {W : WX} {σ : L2.St} {b : Wd} {e : EnvD} {xs : List Arg} {vs : List V} {c : Str} {g : List D → Res (D × EnvD)} {Q : VK} {u x dx : Addr} (rel : RelE G b σ e) (hm : G.C.mg c = some (.ref u)) (ps : Paired (ArgRep G.C b σ) xs vs) (hx : b.H x = none) (hdx : b.H dx = none) (hne : dx ≠ x)
    (post : PostR G W σ b (makeR c g xs e) fun d _ b => ∀ v, Rep G.C b 0 [] v d → Q v b.H) :
    spD G.C g (.ref x :: vs) (upd (upd b.H dx (.own x)) x (.ins u dx [])) (fun v H2 => v = .non ∧ Q (.ref x) H2) (fun cls dd H' => W cls dd σ H') := by
  have fx : b.F x = none := by
    cases q : b.F x with
    | none => rfl
    | some o => have := rel.ok.sub x o q; rw [hx] at this; cases this
  have tx : b.t x = none := by
    cases q : b.t x with
    | none => rfl
    | some o => obtain ⟨_, o, h⟩ := rel.ok.own x o q; rw [hx] at h; cases h
  have kp : ∀ y o, b.H y = some o → (insW b x dx u e.length).H y = some o ∧ (insW b x dx u e.length).t y = b.t y := fun y o h => by
    have n1 : y ≠ x := by rintro rfl; rw [hx] at h; cases h
    have n2 : y ≠ dx := by rintro rfl; rw [hdx] at h; cases h
    exact ⟨by show upd (upd b.H dx _) x _ y = _; rw [upd_ne n1, upd_ne n2]; exact h, if_neg n1⟩
  have gr : Grow b (insW b x dx u e.length) := ⟨fun y o h => ⟨(kp y o h).1, (kp y o h).2, rfl⟩⟩
  have ok1 : Ok (insW b x dx u e.length) := by
    refine ⟨fun y o h => (kp y o (rel.ok.sub y o h)).1, fun y t h => ?_⟩
    have h : (if y = x then some (e.length + 1, []) else b.t y) = some t := h
    by_cases q : y = x
    · subst q; exact ⟨fx, _, upd_same⟩
    · rw [if_neg q] at h
      obtain ⟨h1, o, h2⟩ := rel.ok.own y t h
      exact ⟨h1, o, (kp y o h2).1⟩
  have rel1 := rel.grow gr ok1
  have hle : e.length = σ.length := rel.len
  have rel2 : RelE G (insW b x dx u e.length) (σ ++ [some (.ref x)]) (e ++ [some (.ins true c [] [])]) := by
    refine ⟨ok1, by simp [rel.len], fun i d h => ?_, fun i hi v hv => ?_⟩
    · by_cases q : i < e.length
      · rw [List.getElem?_append_left q] at h
        obtain ⟨v, e1, r⟩ := rel1.slot i d h
        exact ⟨v, by rw [List.getElem?_append_left (by omega)]; exact e1, r⟩
      · have e1 : i = e.length := by
          have := (List.getElem?_eq_some_iff.mp h).1
          simp at this; omega
        subst e1
        rw [List.getElem?_append_right (Nat.le_refl _)] at h
        simp at h
        subst h
        refine ⟨.ref x, by rw [List.getElem?_append_right (by omega)]; simp [hle], ?_⟩
        simp only [Rep]
        refine ⟨x, u, dx, [], rfl, hm, rfl, ?_, by simp [RepL]⟩
        rw [if_pos trivial]
        exact ⟨if_pos rfl, upd_same⟩
    · have := rel.prm i hi v hv
      have hl := (List.getElem?_eq_some_iff.mp this).1
      rw [List.getElem?_append_left hl]; exact this
  have ps2 : Paired (ArgRep G.C (insW b x dx u e.length) (σ ++ [some (.ref x)])) (.var e.length :: xs) (.ref x :: vs) := by
    refine .cons (show (σ ++ [some (V.ref x)])[e.length]? = some (some (.ref x)) by rw [List.getElem?_append_right (by omega)]; simp [hle]) ?_
    clear post
    induction ps with
    | nil => exact .nil
    | @cons y w ys ws h t ih =>
      refine .cons ?_ ih
      cases y with
      | val d => exact ⟨h.1, h.2.step rel.ok gr.step h.1⟩
      | var i =>
        have h : σ[i]? = some (some w) := h
        have hl := (List.getElem?_eq_some_iff.mp h).1
        show (σ ++ [some (V.ref x)])[i]? = _
        rw [List.getElem?_append_left hl]; exact h
  have key := call_sp (W := fun cls dd _ H' => W cls dd σ H') (Q := fun v H2 => v = .non ∧ Q (.ref x) H2) (g := g) rel2 ps2 ?_
  · exact key
  · unfold makeR at post
    cases hr : mCallR g (.var e.length :: xs) (e ++ [some (.ins true c [] [])]) with
    | bad => rw [hr] at post; exact (show False from post).elim
    | exc y e' =>
      rw [hr] at post
      intro b' cls dd st r er
      have := (r.cut rel.prm)
      rw [← hle] at this
      exact post b' cls dd (gr.step.trans st) this er
    | ok de =>
      obtain ⟨d0, e'⟩ := de
      rw [hr] at post
      cases d0 <;> dsimp only at post <;> first | exact (show False from post).elim | skip
      split at post
      · rename_i d hd
        intro b' st r v rv
        cases rep_non rv
        obtain ⟨w, e1, rw1⟩ := r.slot _ d hd
        rw [List.getElem?_append_right (by omega)] at e1
        simp [hle] at e1
        subst e1
        refine ⟨rfl, ?_⟩
        have r2 := r.cut rel.prm
        rw [← hle] at r2
        refine post (mvW b' (e.length + 1) 0) (gr.step.trans (st.trans mvW_step)) ?_ (.ref x) (mvW_rep rw1)
        refine ⟨mvW_ok r2.ok, r2.len, fun i d h => ?_, r2.prm⟩
        obtain ⟨v, h1, h2⟩ := r2.slot i d h
        have hi : i < e.length := by
          have := (List.getElem?_eq_some_iff.mp h).1
          rw [List.length_take] at this; omega
        exact ⟨v, h1, mvW_else (by omega) h2⟩
      · exact (show False from post).elim
/- a class that may be made -/
structure MkOk (C : KM) (k : Nat) (c : Str) (g : List D → Res (D × EnvD)) : Prop where
  ex : ∃ (u f : Addr) (fd : FuncData) (ps : List Str), C.mg c = some (.ref u) ∧ Mk C.K u f ∧ Binds C.K fd ps [] ∧ ∀ base : Heap, C.K.In base → base.Ns mainGlobals C.mg → FnOk C.P C.w C.K C.mg base (L2.CX C.P C.w) k f fd ps (spD C g)
section
variable {X : Cx} {G : Gm} {W : WX} {lv j : Nat} {e : Expr} {es : List Expr} {mas : EM (List Arg)} {pos p : Pos} {x : Str} {g : List D → Res (D × EnvD)}
theorem run_makeS {CX : CXT} {k : Nat} {f C : Addr} {fd : FuncData} {ps : List Str} {sp : Sp} {E : L2.St → XK} {pins : List (Addr × Obj)} {σ : L2.St} {H : Hp} {s : Shared} {Q : VK} {us : List Value} {vs : List V} (M : Mk X.K C f) (F : FnOk X.prog X.w X.K X.mg X.base CX k f fd ps sp) (hr : Room (k + 1) X.A) (hb : Binds X.K fd ps [])
    (hx : PassesAt CX X σ (E σ)) (I : Inv X pins σ H s) (r : Vals vs us)
    (h : ∀ x dx, H x = none → H dx = none → dx ≠ x → sp (.ref x :: vs) (upd (upd H dx (.own x)) x (.ins C dx [])) (fun v H2 => v = .non ∧ Q (.ref x) H2) (E σ)) :
    wpAny (model X.prog X.w) X.A (call (.ref C) us) (EP X pins σ Q) X.xe s := by
  have hq := h (s.heap.objs.size + 1) s.heap.objs.size (I.hok.fresh (Nat.le_succ _)) (I.hok.fresh (Nat.le_refl _)) (Nat.ne_of_lt (Nat.lt_succ_self _))
  have I2 := Inv.made (C := C) I
  have r2 : Vals (V.ref (s.heap.objs.size + 1) :: vs) (Value.ref (s.heap.objs.size + 1) :: us) := .cons rfl r
  have hl : (Value.ref (s.heap.objs.size + 1) :: us).length = ps.length := by rw [← r2.length]; exact F.len _ _ _ _ hq
  have b2 := hb _ (Value.ref (s.heap.objs.size + 1) :: us) I2.kIn (by rw [List.append_nil]; exact hl)
  rw [List.append_nil] at b2
  refine wpAny_call (make_map (f := f) I.kIn M.makes M.init (beq_iff_eq.mp M.fn) (codeAny_mono (F.run _ X.stack _ _ ⟨Value.ref (s.heap.objs.size + 1) :: us, []⟩ (Value.ref (s.heap.objs.size + 1) :: us) _ _ (E σ) (hr.make C us []) (I2.env0.make C us []) b2 r2 hq) fun r s' hq' => ?_))
  cases r with
  | error e => exact hx pins _ _ e s' I2 hq'
  | ok fl =>
    cases fl with
    | ret u =>
      obtain ⟨v, H', I3, rv, ev, q3⟩ := I2.after hq'
      subst ev
      exact ⟨rv, ⟨V.ref (s.heap.objs.size + 1), H', I3, rfl, q3⟩⟩
    | next => exact False.elim hq'
    | brk => exact False.elim hq'
    | cont => exact False.elim hq'
theorem r_make (s : Go X G W lv) (F : MkOk G.C j x g) (hj : j + 1 ≤ lv) (hg : Gl X x) (ha : PA X (e :: es) (tArgs G W mas)) (hdb : (x == ("__debug__" : Str)) = false := by decide) (he : starEach (e :: es) X.env = (false, eval e X.env) :: starEach es X.env := by rfl)
    (hpl : (backTo pos (starEach es X.env)).any (·.1) = false := by rfl) : PE X (.Call (.Name x p) (e :: es) [] pos) (tE G W (mMake x g mas)) := by
  obtain ⟨u, f, fd, ps, h1, h2, h3, h4⟩ := F.ex
  refine ⟨fun pins s0 σ H Q I h => ?_⟩
  have hk : G.C.K.In X.base := by rw [← s.k]; exact I.ok.mod.kin
  have hb : X.base.Ns mainGlobals G.C.mg := by rw [← s.m]; exact I.ok.mod.glob
  have F' := h4 X.base hk hb
  have e1 := s.p; have e2 := s.w; have e3 := s.k; have e4 := s.m
  rw [← e1, ← e2, ← e3, ← e4] at F'
  have M' : Mk X.K u f := by rw [e3]; exact h2
  have B' : Binds X.K fd ps [] := by rw [e3]; exact h3
  refine wpAny_Call_Name_kw (ld_glob I hg (by rw [e4]; exact h1) ?_ hdb)
  obtain ⟨a, env, rfl, rel, post⟩ := h
  have hA : tArgs G W mas σ a.H (fun vs H1 => ∀ y dy, H1 y = none → H1 dy = none → dy ≠ y → spD G.C g (.ref y :: vs) (upd (upd H1 dy (.own y)) y (.ins u dy [])) (fun v H2 => v = .non ∧ Q (.ref y) H2) (fun cls dd H' => W cls dd σ H')) :=
    tArgs_of rel post fun xs e1 b vs s1 r ps p y dy hy hdy hne => make_sp r h1 ps hy hdy hne p
  refine PySem.W.callWith_K (h₀ := X.base) I.ok.mod.kin M'.kp (thn (ha.run pos pins s0 σ _ _ I hA) fun us s1 ⟨vs, H1, I1, r, q⟩ => ⟨I1.kIn, ?_⟩) he hpl
  exact run_makeS (E := WE W) M' F' (s.rm.mono hj) B' (passAt s.tk σ) I1 r q
end
end Mi
namespace Mi
open PySem PySem.Spec PyProof.Rows L2

/-! ### what is never reached -/
def mBad : EM FlowD := fun _ => .bad
theorem rs_bad {X : Cx} {G : Gm} {W : WX} {st : Stmt} : PS X st (tS G W mBad) := ⟨fun _ _ _ _ _ _ h => by
  obtain ⟨_, _, _, _, p⟩ := h
  exact (show False from p).elim⟩
/-! ### max, min of a list -/
def maxX : List D → Option D
  | [.lst _ l] => match intsOf l with
    | some (n :: ns) => some (.int (ns.foldl (fun a b => if b > a then b else a) n))
    | _ => none
  | ds => maxD ds
theorem max_fold : ∀ (ns : List Int) (n : Int), (ns.foldl (fun a b => if b > a then b else a) n ∈ n :: ns) ∧ ∀ y ∈ n :: ns, y ≤ ns.foldl (fun a b => if b > a then b else a) n
  | [], n => by simp
  | m :: ns, n => by
    rw [List.foldl_cons]
    obtain ⟨h1, h2⟩ := max_fold ns (if m > n then m else n)
    have h0 : n ≤ (if m > n then m else n) ∧ m ≤ (if m > n then m else n) := by split <;> omega
    have hb := h2 (if m > n then m else n) List.mem_cons_self
    refine ⟨?_, fun y hy => ?_⟩
    · rcases List.mem_cons.mp h1 with e | e
      · rw [e]; split <;> simp
      · exact List.mem_cons_of_mem _ (List.mem_cons_of_mem _ e)
    · rcases List.mem_cons.mp hy with rfl | hy
      · omega
      · rcases List.mem_cons.mp hy with rfl | hy
        · omega
        · exact h2 y (List.mem_cons_of_mem _ hy)
theorem call_maxX {X : Cx} {C : KM} (hc : X.calm = true) : CallR X (.builtin "max") (cD C maxX) := by
  intro pins s σ H xs us Q I r h
  obtain ⟨a, ds, d, rfl, k, ps, hd, q⟩ := h
  match ds, hd, ps with
  | [.lst o l], hd, ps =>
    simp only [maxX] at hd
    split at hd
    · rename_i n ns hi
      cases hd
      obtain ⟨v, rfl, r1, p1⟩ := one_rep ps
      obtain ⟨x, vs, rfl, h1, h2⟩ := rep_lst k p1
      have e := ints_rep hi h2
      subst e
      obtain ⟨m1, m2⟩ := max_fold ns n
      refine cr_max hc pins s σ a.H _ us Q I r ⟨x, n :: ns, rfl, SqL.of h1, by simp, fun m hm hu => ?_⟩
      have e : m = ns.foldl (fun a b => if b > a then b else a) n := Int.le_antisymm (m2 m hm) (hu _ m1)
      subst e
      exact q _ a (Grow.refl a) k (by simp [Rep])
    · cases hd
  | [.int i, .int j], hd, ps => exact call_maxD hc pins s σ a.H xs us Q I r ⟨a, _, d, rfl, k, ps, hd, q⟩
/-! ### a def, a method -/
theorem fn_okQ {C : KM} {N ps : List Str} {st : Stmt} {x qual : Str} {f : Addr} {fd : FuncData} {lv : Nat} (io : List Nat) (m : EM FlowD) (F : Fun C.K x qual st f fd) (S : FnScope N ps (defScope st)) (base : Heap)
    (body : ∀ (base : Heap) (cdv : Value) (A : Around) (outer : List Env) (s : Shared) (H : Hp) (E : XK) (vs : List V) (W : WX), Go (CxD C base N qual (defScope st) f cdv A outer s H E) ⟨C, vs, io⟩ W lv → PSs (CxD C base N qual (defScope st) f cdv A outer s H E) (defBody st) (tS ⟨C, vs, io⟩ W m)) :
    FnOk C.P C.w C.K C.mg base (L2.CX C.P C.w) (lv + 1) f fd ps (spD C (runD ps.length N.length io m)) := by
  have hpl : ps.length ≤ N.length := by have := congrArg List.length S.pre; rw [List.length_take] at this; omega
  refine F.okX S (fun vs H Q E h => ?_) fun cdv A outer s H vs Q E hr h => ?_
  · obtain ⟨a, ds, _, _, hl, _, h⟩ := h
    unfold runD at h
    by_cases z : ds.length = ps.length ∧ ownOk io ds 0 = true
    · rw [← hl, z.1]
    · rw [if_neg z] at h; exact h.elim
  · obtain ⟨a, ds, rfl, ok, hl, hrep, h⟩ := h
    have go : Go (CxD C base N qual (defScope st) f cdv A outer s a.H E) ⟨C, vs, io⟩ (fun cls d _ H => E cls d H) lv :=
      { p := rfl, w := rfl, k := rfl, m := rfl, n := S.nd, u := by have := hr.un; show (A.deeper _).units + 64 < cLine; omega, tk := takes_of rfl rfl rfl rfl, pw := passes_of rfl, rm := hr, cm := rfl }
    refine ⟨_, body base cdv A outer s a.H E vs _ go, ?_⟩
    unfold runD at h
    by_cases z : ds.length = ps.length ∧ ownOk io ds 0 = true
    · rw [if_pos z] at h
      have hlen : vs.length = ps.length := by rw [← hl, z.1]
      refine ⟨a, ds.map some ++ List.replicate (N.length - ps.length) none, rfl, ⟨ok, ?_, fun i d e => ?_, fun i hi v hv => ?_⟩, ?_⟩
      · unfold L2.start
        rw [List.length_append, List.length_append, List.length_map, List.length_map, List.length_replicate, List.length_replicate, z.1, hlen]
      · have hi : i < ds.length := by
          by_cases hi : i < ds.length
          · exact hi
          · rw [List.getElem?_append_right (by simpa using hi), List.getElem?_replicate] at e
            split at e <;> cases e
        have e2 : ds[i]? = some d := by
          rw [List.getElem?_append_left (by simpa using hi), List.getElem?_map] at e
          cases q : ds[i]? with
          | none => rw [q] at e; cases e
          | some d' => rw [q] at e; cases e; rfl
        obtain ⟨v, h1, h2⟩ := hrep i d e2
        refine ⟨v, ?_, h2⟩
        unfold L2.start
        rw [List.getElem?_append_left (by rw [List.length_map]; exact (List.getElem?_eq_some_iff.mp h1).1), List.getElem?_map, h1]; rfl
      · have hv : vs[i]? = some v := hv
        unfold L2.start
        rw [List.getElem?_append_left (by rw [List.length_map]; exact (List.getElem?_eq_some_iff.mp hv).1), List.getElem?_map, hv]; rfl
      · cases hm : m (ds.map some ++ List.replicate (N.length - ps.length) none) with
        | bad => rw [hm] at h; exact h.elim
        | exc y e => rw [hm] at h; exact fun b σ cls dd st r er => h b cls dd st r.ok (outs_rep r (Nat.le_of_eq hlen.symm)) er
        | ok fe =>
          obtain ⟨fl, e⟩ := fe
          rw [hm] at h
          cases fl with
          | next => exact fun b σ st r => h b .non st r.ok (outs_rep r (Nat.le_of_eq hlen.symm)) (by simp [Rep])
          | ret d => exact fun b σ v st r rp => h b v st r.ok (outs_rep r (Nat.le_of_eq hlen.symm)) rp
          | brk => exact h.elim
          | cont => exact h.elim
    · rw [if_neg z] at h; exact h.elim
theorem mk_def {C : KM} {N ps : List Str} {st : Stmt} {c qual : Str} {f u : Addr} {fd : FuncData} {lv : Nat} (io : List Nat) (m : EM FlowD) (F : Fun C.K "__init__" qual st f fd) (S : FnScope N ps (defScope st)) (hb : Binds C.K fd ps []) (hm : C.mg c = some (.ref u)) (M : Mk C.K u f)
    (body : ∀ (base : Heap) (cdv : Value) (A : Around) (outer : List Env) (s : Shared) (H : Hp) (E : XK) (vs : List V) (W : WX), Go (CxD C base N qual (defScope st) f cdv A outer s H E) ⟨C, vs, io⟩ W lv → PSs (CxD C base N qual (defScope st) f cdv A outer s H E) (defBody st) (tS ⟨C, vs, io⟩ W m)) :
    MkOk C (lv + 1) c (runD ps.length N.length io m) := ⟨u, f, fd, ps, hm, M, hb, fun base _ _ => fn_okQ io m F S base body⟩
end Mi
namespace Mi
open PySem PySem.Spec PyProof.Rows L2

/-! ### rows for simp, the later mirrors -/
section
variable {e env : EnvD} {m n : EM D} {ma mb : EM Arg} {mas : EM (List Arg)} {mt : EM Bool} {d d1 : D} {x y : Arg} {j : Nat} {c fl : Str} {cs : List Str} {xs : List Arg} {l ds : List D}
/-! a method of a slot's list -/
def metV (j : Nat) (f : List D → List D → Option (D × List D)) (e : EnvD) : Option (Option D) → Option (List D) → Res (D × EnvD)
  | some (some (.lst true l)), some ds => match f l ds with
    | some (d, l') => .ok (d, e.set j (some (.lst true l')))
    | none => .bad
  | _, _ => .bad
def kMet (j : Nat) (f : List D → List D → Option (D × List D)) : List Arg × EnvD → Res (D × EnvD) := fun (xs, e) => metV j f e (e[j]?) (Arg.gets e xs)
def met0 (j : Nat) (mas : EM (List Arg)) (f : List D → List D → Option (D × List D)) (env : EnvD) : Option (Option D) → Res (D × EnvD)
  | some (some (.lst true _)) => (mas env).bind (kMet j f)
  | _ => .bad
variable {f : List D → List D → Option (D × List D)}
@[simp] theorem e_met : mMet j mas f env = met0 j mas f env (env[j]?) := by
  unfold mMet met0
  rcases env[j]? with _ | _ | d
  · rfl
  · rfl
  · cases d <;> rfl
@[simp] theorem met0_ok : met0 j mas f env (some (some (.lst true l))) = (mas env).bind (kMet j f) := rfl
@[simp] theorem kMet_ok : kMet j f (xs, e) = metV j f e (e[j]?) (Arg.gets e xs) := rfl
def metR (j : Nat) (e : EnvD) : Option (D × List D) → Res (D × EnvD)
  | some (d, l') => .ok (d, e.set j (some (.lst true l')))
  | none => .bad
@[simp] theorem metV_ok : metV j f e (some (some (.lst true l))) (some ds) = metR j e (f l ds) := rfl
@[simp] theorem metR_ok : metR j e (some (d, l)) = .ok (d, e.set j (some (.lst true l))) := rfl
/-! stores -/
def sxV (j : Nat) (y : D) (e : EnvD) : Option (Option D) → Option D → Res (FlowD × EnvD)
  | some (some d), some i => oFlow ((setX d i (frzQ y)).map fun d' => e.set j (some d'))
  | _, _ => .bad
def kSx2 (j : Nat) (y : D) : Arg × EnvD → Res (FlowD × EnvD) := fun (x, e) => sxV j y e (e[j]?) (x.get e)
def kSxV (j : Nat) (mi : EM D) (y : D) (e : EnvD) : Option (Option D) → Res (FlowD × EnvD)
  | some (some _) => (mFrz mi e).bind (kSx2 j y)
  | _ => .bad
def kSx1 (j : Nat) (mi : EM D) : D × EnvD → Res (FlowD × EnvD) := fun (y, e) => kSxV j mi y e (e[j]?)
@[simp] theorem e_setX : mSetX j m n env = (n env).bind (kSx1 j m) := by
  unfold mSetX
  refine bind_ext fun z => ?_
  obtain ⟨y, e1⟩ := z
  show _ = kSxV j m y e1 (e1[j]?)
  dsimp only
  rcases e1[j]? with _ | _ | d
  · rfl
  · rfl
  · show (mFrz m e1).bind _ = (mFrz m e1).bind (kSx2 j y)
    refine bind_ext fun z => ?_
    obtain ⟨z, e2⟩ := z
    show _ = sxV j y e2 (e2[j]?) (z.get e2)
    dsimp only
    rcases e2[j]? with _ | _ | d'
    · rfl
    · rfl
    · cases z.get e2 with
      | none => rfl
      | some i =>
        show _ = oFlow ((setX d' i (frzQ y)).map fun d'' => e2.set j (some d''))
        dsimp only
        cases setX d' i (frzQ y) <;> rfl
@[simp] theorem kSx1_ok : kSx1 j m (d, e) = kSxV j m d e (e[j]?) := rfl
@[simp] theorem kSxV_ok : kSxV j m d1 e (some (some d)) = (mFrz m e).bind (kSx2 j d1) := rfl
@[simp] theorem kSx2_ok : kSx2 j d (x, e) = sxV j d e (e[j]?) (x.get e) := rfl
@[simp] theorem sxV_ok {i : D} : sxV j d1 e (some (some d)) (some i) = oFlow ((setX d i (frzQ d1)).map fun d' => e.set j (some d')) := rfl
def fsV (j : Nat) (cs : List Str) (fl : Str) (y : D) (e : EnvD) : Option (Option D) → Res (FlowD × EnvD)
  | some (some d) => oFlow ((fsetG cs fl d (frzQ y)).map fun d' => e.set j (some d'))
  | _ => .bad
def kFSet (j : Nat) (cs : List Str) (fl : Str) : D × EnvD → Res (FlowD × EnvD) := fun (y, e) => fsV j cs fl y e (e[j]?)
@[simp] theorem e_fset : mFSet j cs fl m env = (m env).bind (kFSet j cs fl) := by
  unfold mFSet
  refine bind_ext fun z => ?_
  obtain ⟨y, e⟩ := z
  show _ = fsV j cs fl y e (e[j]?)
  dsimp only
  rcases e[j]? with _ | _ | d
  · rfl
  · rfl
  · show _ = oFlow ((fsetG cs fl d (frzQ y)).map fun d' => e.set j (some d'))
    dsimp only
    cases fsetG cs fl d (frzQ y) <;> rfl
@[simp] theorem kFSet_ok : kFSet j cs fl (d, e) = fsV j cs fl d e (e[j]?) := rfl
@[simp] theorem fsV_ok : fsV j cs fl d1 e (some (some d)) = oFlow ((fsetG cs fl d (frzQ d1)).map fun d' => e.set j (some d')) := rfl
/-! a new instance -/
def mkV2 (n : Nat) (e' : EnvD) : Option (Option D) → Res (D × EnvD)
  | some (some d) => .ok (d, e'.take n)
  | _ => .bad
def mkV (n : Nat) : Res (D × EnvD) → Res (D × EnvD)
  | .ok (.non, e') => mkV2 n e' (e'[n]?)
  | .exc x e' => .exc x (e'.take n)
  | _ => .bad
def kMake (c : Str) (g : List D → Res (D × EnvD)) : List Arg × EnvD → Res (D × EnvD) := fun (xs, e) => mkV e.length (gCall g (.var e.length :: xs) (e ++ [some (.ins true c [] [])]) (Arg.gets (e ++ [some (.ins true c [] [])]) (.var e.length :: xs)))
variable {g : List D → Res (D × EnvD)}
@[simp] theorem e_make : mMake c g mas env = (mas env).bind (kMake c g) := by
  unfold mMake
  refine bind_ext fun z => ?_
  obtain ⟨xs, e⟩ := z
  show makeR c g xs e = mkV e.length _
  have hk := kCall_g (g := g) (xs := .var e.length :: xs) (e := e ++ [some (.ins true c [] [])])
  have hk : mCallR g (.var e.length :: xs) (e ++ [some (.ins true c [] [])]) = gCall g (.var e.length :: xs) (e ++ [some (.ins true c [] [])]) (Arg.gets (e ++ [some (.ins true c [] [])]) (.var e.length :: xs)) := hk
  unfold makeR
  rw [← hk]
  cases mCallR g (.var e.length :: xs) (e ++ [some (.ins true c [] [])]) with
  | bad => rfl
  | exc x e' => rfl
  | ok de =>
    obtain ⟨d0, e'⟩ := de
    cases d0 <;> first | rfl | skip
@[simp] theorem kMake_ok : kMake c g (xs, e) = mkV e.length (gCall g (.var e.length :: xs) (e ++ [some (.ins true c [] [])]) (Arg.gets (e ++ [some (.ins true c [] [])]) (.var e.length :: xs))) := rfl
@[simp] theorem mkV_ok {n : Nat} : mkV n (.ok (.non, e)) = mkV2 n e (e[n]?) := rfl
@[simp] theorem mkV_exc {n : Nat} {z : Exc} : mkV n (.exc z e) = .exc z (e.take n) := rfl
@[simp] theorem mkV2_ok {n : Nat} : mkV2 n e (some (some d)) = .ok (d, e.take n) := rfl
/-! dict comprehensions -/
def kDc2 (e : EnvD) (own : List Nat) : List (Key × D) × EnvD → Res (D × EnvD) := fun (l, e') => .ok (dicG l, restE e e' own)
def kDc (t : Tgt) (cond : EM Bool) (ek : EM Arg) (ev : EM D) (own : List Nat) : List D × EnvD → Res (D × EnvD) := fun (ds, e) => if fzL ds = true ∧ ds.length ≤ 1000 then (loopDc t cond ek ev own ds [] e).bind (kDc2 e own) else .bad
@[simp] theorem e_dc {mi : EM (List D)} {t : Tgt} {own : List Nat} : mDc mi t mt ma m own env = (mi env).bind (kDc t mt ma m own) := rfl
theorem kDc_ok {t : Tgt} {own : List Nat} (h1 : fzL ds = true) (h2 : ds.length ≤ 1000) : kDc t mt ma m own (ds, e) = (loopDc t mt ma m own ds [] e).bind (kDc2 e own) := by
  show (if fzL ds = true ∧ ds.length ≤ 1000 then _ else _) = _
  rw [if_pos ⟨h1, h2⟩]
@[simp] theorem kDc2_ok {e' : EnvD} {own : List Nat} {l : List (Key × D)} : kDc2 e own (l, e') = .ok (dicG l, restE e e' own) := rfl
end
/-! data -/
@[simp] theorem addD_i {i j : Int} : addD (.int i) (.int j) = some (.int (i + j)) := rfl
@[simp] theorem subD_i {i j : Int} : subD (.int i) (.int j) = some (.int (i - j)) := rfl
@[simp] theorem negD_i {i : Int} : negD (.int i) = some (.int (-i)) := rfl
@[simp] theorem intD_i {i : Int} : intD [.int i] = some (.int i) := rfl
@[simp] theorem ltD_i {i j : Int} : ltD (.int i) (.int j) = some (.bl (decide (i < j))) := rfl
@[simp] theorem leD_i {i j : Int} : leD (.int i) (.int j) = some (.bl (decide (i ≤ j))) := rfl
@[simp] theorem gtD_i {i j : Int} : gtD (.int i) (.int j) = some (.bl (decide (j < i))) := rfl
@[simp] theorem geD_i {i j : Int} : geD (.int i) (.int j) = some (.bl (decide (j ≤ i))) := rfl
@[simp] theorem eqD_i {i j : Int} : eqD (.int i) (.int j) = some (.bl (decide (i = j))) := by show some (D.bl (i == j)) = _; by_cases h : i = j <;> simp [h]
@[simp] theorem neD_i {i j : Int} : neD (.int i) (.int j) = some (.bl (!decide (i = j))) := by show some (D.bl (!(i == j))) = _; by_cases h : i = j <;> simp [h]
@[simp] theorem nisD_b {a b : Bool} : nisD (.bl a) (.bl b) = some (.bl (!(a == b))) := rfl
@[simp] theorem isD_b {a b : Bool} : isD (.bl a) (.bl b) = some (.bl (a == b)) := rfl
@[simp] theorem eqD_b {a b : Bool} : eqD (.bl a) (.bl b) = some (.bl (a == b)) := rfl
@[simp] theorem neD_s {a b : Str} : neD (.str a) (.str b) = some (.bl (!(a == b))) := rfl
@[simp] theorem eqD_s {a b : Str} : eqD (.str a) (.str b) = some (.bl (a == b)) := rfl
@[simp] theorem lenD_l {b : Bool} {l : List D} : lenD [.lst b l] = some (.int l.length) := rfl
@[simp] theorem lenD_t {l : List D} : lenD [.tup l] = some (.int l.length) := rfl
@[simp] theorem lenD_scr {l : List Int} : lenD [.scr l] = some (.int l.length) := rfl
@[simp] theorem lenD_d {b : Bool} {k w : List D} : lenD [.dic b k w] = some (.int k.length) := rfl
theorem modD_i {i j : Int} (h : 0 < j) : modD (.int i) (.int j) = some (.int (i % j)) := by simp [modD, h]
theorem fdivD_i {i j : Int} (h : 0 < j) (h2 : j.natAbs.log2 < 9000) : fdivD (.int i) (.int j) = some (.int (i / j)) := by simp [fdivD, h, h2]
theorem mulD_i {i j : Int} (h : j.natAbs < 18446744073709551616 ∨ i.natAbs < 18446744073709551616) : mulD (.int i) (.int j) = some (.int (i * j)) := by
  unfold mulD
  dsimp only
  rcases h with h | h <;> simp [h]
theorem ixD_lst {l : List D} {r : Int} {o : Bool} (h : 0 ≤ r) (h2 : r < l.length) (z : fzL l = true) : ∃ d ∈ l, ixD (.lst o l) (.int r) = some d := by
  have e : r.toNat < l.length := by omega
  have m : l[r.toNat] ∈ l := List.getElem_mem e
  exact ⟨l[r.toNat], m, by simp [ixD, atI, ixN, h, h2, pick, e, fzL_mem z _ m]⟩
end Mi
namespace Mi
open PySem PySem.Spec PyProof.Rows L2

/-! ### comprehensions whose turns change nothing -/
theorem set_none_idem {e : EnvD} {k : Nat} {o : Option D} : (e.set k o).set k none = e.set k none := by rw [List.set_set]
/- f the element, p the test, by the item -/
theorem loop_pure {k : Nat} {cond : EM Bool} {elt : EM D} {f : D → D} {p : D → Bool} {e0 : EnvD} (h0 : e0.set k none = e0) : ∀ (ds acc : List D) (e : EnvD), e.set k none = e0 →
    (∀ d ∈ ds, cond (e0.set k (some d)) = .ok (p d, e0.set k (some d))) → (∀ d ∈ ds, p d = true → elt (e0.set k (some d)) = .ok (f d, e0.set k (some d))) →
    ∃ e', loopL (.nm k) cond elt [k] ds acc e = .ok (acc ++ (ds.filter p).map (fun d => frzQ (f d)), e') ∧ e'.set k none = e0
  | [], acc, e, he, _, _ => ⟨e, by simp [loopL], he⟩
  | d :: ds, acc, e, he, hc, hf => by
    have w : wipeE e [k] = e0 := by simp only [wipeE]; exact he
    have hs : (e0.set k (some d)).set k none = e0 := by rw [set_none_idem]; exact h0
    have c1 := hc d List.mem_cons_self
    simp only [loopL, w, tg_nm, c1]
    cases hp : p d with
    | false =>
      obtain ⟨e', g1, g2⟩ := loop_pure h0 ds acc (e0.set k (some d)) hs (fun x hx => hc x (List.mem_cons_of_mem _ hx)) (fun x hx => hf x (List.mem_cons_of_mem _ hx))
      refine ⟨e', ?_, g2⟩
      rw [List.filter_cons_of_neg (by simp [hp])]
      exact g1
    | true =>
      have f1 := hf d List.mem_cons_self hp
      obtain ⟨e', g1, g2⟩ := loop_pure h0 ds (acc ++ [frzQ (f d)]) (e0.set k (some d)) hs (fun x hx => hc x (List.mem_cons_of_mem _ hx)) (fun x hx => hf x (List.mem_cons_of_mem _ hx))
      refine ⟨e', ?_, g2⟩
      rw [List.filter_cons_of_pos (by simp [hp]), List.map_cons]
      simp only [f1]
      rw [g1]
      simp
theorem lc_pureX {k : Nat} {elt : EM D} (f : D → D) {e : EnvD} {ds : List D} (hz : fzL ds = true) (hl : ds.length ≤ 100000) (hf : ∀ d ∈ ds, elt (e.set k (some d)) = .ok (f d, e.set k (some d))) :
    kLc (.nm k) mYes elt [k] (ds, e) = .ok (.lst true (ds.map fun d => frzQ (f d)), e.set k (restV e k)) := by
  rw [kLc_okX hz hl]
  have e0 : (e.set k none).set k none = e.set k none := set_none_idem
  have s1 : ∀ d, (e.set k none).set k (some d) = e.set k (some d) := fun d => by rw [List.set_set]
  obtain ⟨e', g1, g2⟩ := loop_pure (cond := mYes) (elt := elt) (f := f) (p := fun _ => true) e0 ds [] e rfl (fun d _ => by simp) (fun d hd _ => by rw [s1]; exact hf d hd)
  rw [g1, show ds.filter (fun _ => true) = ds from List.filter_eq_self.mpr fun _ _ => rfl]
  simp only [bind_ok, kLc2_ok, List.nil_append, restE]
  rw [show e'.set k (restV e k) = (e'.set k none).set k (restV e k) by rw [List.set_set], g2, List.set_set]
theorem lc_pure {k : Nat} {elt : EM D} (f : D → D) {e : EnvD} {ds : List D} (hz : fzL ds = true) (hl : ds.length ≤ 1000) (hf : ∀ d ∈ ds, elt (e.set k (some d)) = .ok (f d, e.set k (some d))) :
    kLc (.nm k) mYes elt [k] (ds, e) = .ok (.lst true (ds.map fun d => frzQ (f d)), e.set k (restV e k)) := lc_pureX f hz (by omega) hf
theorem lc_filterX {k : Nat} {cond : EM Bool} {elt : EM D} (f : D → D) (p : D → Bool) {e : EnvD} {ds : List D} (hz : fzL ds = true) (hl : ds.length ≤ 100000) (hc : ∀ d ∈ ds, cond (e.set k (some d)) = .ok (p d, e.set k (some d))) (hf : ∀ d ∈ ds, p d = true → elt (e.set k (some d)) = .ok (f d, e.set k (some d))) :
    kLc (.nm k) cond elt [k] (ds, e) = .ok (.lst true ((ds.filter p).map fun d => frzQ (f d)), e.set k (restV e k)) := by
  rw [kLc_okX hz hl]
  have e0 : (e.set k none).set k none = e.set k none := set_none_idem
  have s1 : ∀ d, (e.set k none).set k (some d) = e.set k (some d) := fun d => by rw [List.set_set]
  obtain ⟨e', g1, g2⟩ := loop_pure (cond := cond) (elt := elt) (f := f) (p := p) e0 ds [] e rfl (fun d hd => by rw [s1]; exact hc d hd) (fun d hd hp => by rw [s1]; exact hf d hd hp)
  rw [g1]
  simp only [bind_ok, kLc2_ok, List.nil_append, restE]
  rw [show e'.set k (restV e k) = (e'.set k none).set k (restV e k) by rw [List.set_set], g2, List.set_set]
theorem lc_filter {k : Nat} {cond : EM Bool} {elt : EM D} (f : D → D) (p : D → Bool) {e : EnvD} {ds : List D} (hz : fzL ds = true) (hl : ds.length ≤ 1000) (hc : ∀ d ∈ ds, cond (e.set k (some d)) = .ok (p d, e.set k (some d))) (hf : ∀ d ∈ ds, p d = true → elt (e.set k (some d)) = .ok (f d, e.set k (some d))) :
    kLc (.nm k) cond elt [k] (ds, e) = .ok (.lst true ((ds.filter p).map fun d => frzQ (f d)), e.set k (restV e k)) := lc_filterX f p hz (by omega) hc hf
theorem loop_dpure {k : Nat} {ek : EM Arg} {ev : EM D} {kf : D → Key} {f : D → D} {e0 : EnvD} (h0 : e0.set k none = e0) : ∀ (ds : List D) (acc : List (Key × D)) (e : EnvD), e.set k none = e0 →
    (∀ d ∈ ds, ∃ x, ek (e0.set k (some d)) = .ok (x, e0.set k (some d)) ∧ (x.get (e0.set k (some d))).bind keyD = some (kf d)) → (∀ d ∈ ds, ev (e0.set k (some d)) = .ok (f d, e0.set k (some d))) →
    ∃ e', loopDc (.nm k) mYes ek ev [k] ds acc e = .ok (mergeG (ds.map fun d => (kf d, frzQ (f d))) acc, e') ∧ e'.set k none = e0
  | [], acc, e, he, _, _ => ⟨e, by simp [loopDc, mergeG], he⟩
  | d :: ds, acc, e, he, hk, hf => by
    have w : wipeE e [k] = e0 := by simp only [wipeE]; exact he
    have hs : (e0.set k (some d)).set k none = e0 := by rw [set_none_idem]; exact h0
    obtain ⟨x, k1, k2⟩ := hk d List.mem_cons_self
    have f1 := hf d List.mem_cons_self
    obtain ⟨e', g1, g2⟩ := loop_dpure h0 ds (putG acc (kf d) (frzQ (f d))) (e0.set k (some d)) hs (fun x hx => hk x (List.mem_cons_of_mem _ hx)) (fun x hx => hf x (List.mem_cons_of_mem _ hx))
    refine ⟨e', ?_, g2⟩
    simp only [loopDc, w, tg_nm, e_yes, k1, f1, k2]
    rw [g1]; rfl
theorem dc_pure {k : Nat} {ek : EM Arg} {ev : EM D} (kf : D → Key) (f : D → D) {e : EnvD} {ds : List D} (hz : fzL ds = true) (hl : ds.length ≤ 1000) (hk : ∀ d ∈ ds, ∃ x, ek (e.set k (some d)) = .ok (x, e.set k (some d)) ∧ (x.get (e.set k (some d))).bind keyD = some (kf d)) (hf : ∀ d ∈ ds, ev (e.set k (some d)) = .ok (f d, e.set k (some d))) :
    kDc (.nm k) mYes ek ev [k] (ds, e) = .ok (dicG (mergeG (ds.map fun d => (kf d, frzQ (f d))) []), e.set k (restV e k)) := by
  rw [kDc_ok hz hl]
  have e0 : (e.set k none).set k none = e.set k none := set_none_idem
  have s1 : ∀ d, (e.set k none).set k (some d) = e.set k (some d) := fun d => by rw [List.set_set]
  obtain ⟨e', g1, g2⟩ := loop_dpure (ek := ek) (ev := ev) (kf := kf) (f := f) e0 ds [] e rfl (fun d hd => by rw [s1]; exact hk d hd) (fun d hd => by rw [s1]; exact hf d hd)
  rw [g1]
  simp only [bind_ok, kDc2_ok, restE]
  rw [show e'.set k (restV e k) = (e'.set k none).set k (restV e k) by rw [List.set_set], g2, List.set_set]
/-! keys that come once -/
theorem putG_new {ds : List (Key × D)} {k : Key} {d : D} (h : k ∉ ds.map (·.1)) : putG ds k d = ds ++ [(k, d)] := by
  unfold putG
  rw [if_neg]
  intro z
  rw [List.any_eq_true] at z
  obtain ⟨x, hx, hk⟩ := z
  exact h (List.mem_map.mpr ⟨x, hx, by simpa using hk⟩)
theorem mergeG_new : ∀ (ds acc : List (Key × D)), (acc.map (·.1) ++ ds.map (·.1)).Nodup → mergeG ds acc = acc ++ ds
  | [], acc, _ => by simp [mergeG]
  | x :: ds, acc, h => by
    have hx : x.1 ∉ acc.map (·.1) := by
      intro z
      rw [List.nodup_append] at h
      exact h.2.2 x.1 z x.1 (by simp) rfl
    show mergeG ds (putG acc x.1 x.2) = _
    rw [putG_new hx]
    rw [mergeG_new ds (acc ++ [(x.1, x.2)]) (by simpa using h)]
    simp
theorem allD_true {b : Bool} {l : List D} (h : ∀ d ∈ l, d = .bl true) : allD [.lst b l] = some (.bl true) := by
  have : blsOf l = some (List.replicate l.length true) := by
    clear b
    induction l with
    | nil => rfl
    | cons d l ih =>
      rw [h d List.mem_cons_self, blsOf, ih fun x hx => h x (List.mem_cons_of_mem _ hx)]
      rfl
  simp only [allD, this, Option.map_some]
  congr 2
  simp
end Mi
namespace Mi
open PySem PySem.Spec PyProof.Rows L2

/-! ### comprehensions with two generators, the second over a list or a tuple -/
abbrev FM (a c : Wd) : Prop := ∀ x o, a.F x = some o → c.F x = some o
def ItF (C : KM) (a : Wd) (ds : List D) (J : It) : Prop := ∀ c, Ok c → FM a c → (∀ i d, ds[i]? = some d → J.go i c.H ∧ ∀ x H', J.yld i c.H x H' → H' = c.H ∧ Rep C c 0 [] x d) ∧ J.stop ds.length c.H
theorem itF_lst {C : KM} {a : Wd} {l : List D} {x : Addr} {vs : List V} {r n : Nat} {p : List Nat} (k : Ok a) (z : fzL l = true) (hx : a.F x = some (.lst vs)) (h : RepL C a r p n vs l) : ItF C a l (Itl C.K x) := fun c ok st => by
  have hc : SqL C.K c.H x vs := SqL.of (ok.sub _ _ (st _ _ hx))
  refine ⟨fun i d e => ?_, ⟨vs, hc, by rw [h.len]; exact Nat.le_refl _⟩⟩
  obtain ⟨v, h1, h2⟩ := h.get e
  refine ⟨⟨vs, v, hc, h1⟩, fun y H' q => ?_⟩
  obtain ⟨rfl, q⟩ := q
  have e2 := q vs hc
  rw [h1] at e2; cases e2
  exact ⟨rfl, Rep.fz st d _ _ v (fzL_mem z d (List.mem_of_getElem? e)) h2⟩
theorem itF_tup {C : KM} {a : Wd} {l : List D} {x : Addr} {vs : List V} {r n : Nat} {p : List Nat} (k : Ok a) (z : fzL l = true) (hx : SqT C.K a.F x vs) (h : RepL C a r p n vs l) : ItF C a l (Itt C.K x) := fun c ok st => by
  have hc : SqT C.K c.H x vs := sqt_mono (fun y o h => ok.sub _ _ (st _ _ h)) hx
  refine ⟨fun i d e => ?_, ⟨vs, hc, by rw [h.len]; exact Nat.le_refl _⟩⟩
  obtain ⟨v, h1, h2⟩ := h.get e
  refine ⟨⟨vs, v, hc, h1⟩, fun y H' q => ?_⟩
  obtain ⟨rfl, q⟩ := q
  have e2 := q vs hc
  rw [h1] at e2; cases e2
  exact ⟨rfl, Rep.fz st d _ _ v (fzL_mem z d (List.mem_of_getElem? e)) h2⟩
def seq2 : D → Option (List D)
  | .lst false l => if fzL l = true then some l else none
  | .tup l => if fzL l = true then some l else none
  | _ => none
def loopL2 (t : Tgt) (cond : EM Bool) (ma1 : EM Arg) (t1 : Tgt) (cond1 : EM Bool) (elt : EM D) (own own1 : List Nat) : List D → List D → EnvD → Res (List D × EnvD)
  | [], acc, e => .ok (acc, e)
  | d :: ds, acc, e => match mTg t d (wipeE e own) with
    | none => .bad
    | some e1 => match cond e1 with
      | .ok (true, e2) => match ma1 e2 with
        | .ok (x, e3) => match (x.get e3).bind seq2 with
          | some ds1 => if acc.length + ds1.length ≤ 100000 then (loopL t1 cond1 elt own1 ds1 acc e3).bind fun (acc', e4) => loopL2 t cond ma1 t1 cond1 elt own own1 ds acc' e4 else .bad
          | none => .bad
        | _ => .bad
      | .ok (false, e2) => loopL2 t cond ma1 t1 cond1 elt own own1 ds acc e2
      | _ => .bad
def mLc2 (mi : EM (List D)) (t : Tgt) (cond : EM Bool) (ma1 : EM Arg) (t1 : Tgt) (cond1 : EM Bool) (elt : EM D) (own own1 : List Nat) : EM D := fun env => (mi env).bind fun (ds, e) =>
  if fzL ds = true then (loopL2 t cond ma1 t1 cond1 elt own own1 ds [] e).bind fun (l, e') => .ok (.lst true l, restE e e' own) else .bad
theorem res_assoc {α β γ : Type} (r : Res α) (f : α → Res β) (g : β → Res γ) : (r.bind f).bind g = r.bind fun x => (f x).bind g := by cases r <;> rfl
theorem wipe_sub (σ : L2.St) {own : List Nat} : ∀ vs : List Nat, (∀ i ∈ vs, i ∈ own) → wipe (wipe σ vs) own = wipe σ own
  | [], _ => rfl
  | v :: vs, h => by
    show wipe ((wipe σ vs).set v none) own = _
    rw [wipe_set (h v (by simp)), wipe_sub σ vs fun i hi => h i (by simp [hi])]
theorem wipeE_set {e : EnvD} {i : Nat} {v : Option D} : ∀ {own : List Nat}, i ∈ own → wipeE (e.set i v) own = wipeE e own
  | k :: vs, h => by
    unfold wipeE
    by_cases q : k = i
    · subst q
      by_cases hm : k ∈ vs
      · rw [wipeE_set hm]
      · have : ∀ {vs : List Nat}, k ∉ vs → wipeE (e.set k v) vs = (wipeE e vs).set k v := fun {vs} => by
          induction vs with
          | nil => intro _; rfl
          | cons u us ih =>
            intro h
            simp only [List.mem_cons, not_or] at h
            unfold wipeE
            rw [ih h.2, List.set_comm _ _ h.1]
        rw [this hm, List.set_set]
    · rw [wipeE_set (by
        rcases List.mem_cons.mp h with h | h
        · exact absurd h.symm q
        · exact h)]
theorem wipeE_sub (e : EnvD) {own : List Nat} : ∀ vs : List Nat, (∀ i ∈ vs, i ∈ own) → wipeE (wipeE e vs) own = wipeE e own
  | [], _ => rfl
  | v :: vs, h => by
    show wipeE ((wipeE e vs).set v none) own = _
    rw [wipeE_set (h v (by simp)), wipeE_sub e vs fun i hi => h i (by simp [hi])]
theorem small100k {n : Nat} (h : n < 100001) : n < sizeLine := by rw [show sizeLine = 16777216 from sizeLine_eq]; omega
section
variable {G : Gm} {W : WX} {σ : L2.St} {H : Hp} {Q : VK}
theorem lc2_w {mi : EM (List D)} {t t1 : Tgt} {cond cond1 : EM Bool} {ma1 : EM Arg} {elt : EM D} {own own1 : List Nat} (hf : Tgt.off G.io t) (hf1 : Tgt.off G.io t1) (ho : ∀ i ∈ G.io, i ∉ own) (hown : Tgt.ins own t) (hown1 : Tgt.ins own1 t1) (hsub : ∀ i ∈ own1, i ∈ own)
    (h : tE G W (mLc2 mi t cond ma1 t1 cond1 elt own own1) σ H Q) :
    tLc2 (tI G W mi) (gT G.C.K t) (tT G W0 cond) (fun σ H R => iList G.C.K (tArg G W0 ma1) σ H R ∨ iTup G.C.K (tArg G W0 ma1) σ H R) (gT G.C.K t1) (tT G W0 cond1) (tE G W0 elt) own own1 σ H Q := by
  have ho1 : ∀ i ∈ G.io, i ∉ own1 := fun i hi hm => ho i hi (hsub i hm)
  obtain ⟨a, env, rfl, rel, post⟩ := h
  refine ⟨a, env, rfl, rel, post.bind.imp fun ds e b st r p => ?_⟩
  dsimp only at p
  split at p
  · rename_i z
    refine ⟨z, fun J hJ A hA => ?_⟩
    have fA : b.F A = none := by
      cases q : b.F A with
      | none => rfl
      | some u => have := r.ok.sub A u q; rw [hA] at this; cases this
    have tA : b.t A = none := by
      cases q : b.t A with
      | none => rfl
      | some u => obtain ⟨_, u, h⟩ := r.ok.own A u q; rw [hA] at h; cases h
    let K : List D × EnvD → Res (D × EnvD) := fun (l, e') => .ok (.lst true l, restE e e' own)
    let L : List D → List D → EnvD → Res (List D × EnvD) := loopL2 t cond ma1 t1 cond1 elt own own1
    refine ⟨fun i m H => m = ds.length - i ∧ i ≤ ds.length ∧ ∃ c acc e1, c.H = H ∧ GrowL G.C b c A acc ∧ e1.length = e.length ∧ RelE G c (wipe σ own) (wipeE e1 own) ∧
      PostR G W σ b ((L (ds.drop i) acc e1).bind K) fun d _ b => ∀ v, Rep G.C b 0 [] v d → Q v b.H, ⟨_, rfl, Nat.zero_le _, putA b A (.lst []), [], e, rfl, ?_, rfl, ?_, p⟩, ?_⟩
    · refine ⟨fun x o h t => ?_, putA_ok r.ok fA, fA, tA, ⟨[], upd_same, by simp [RepL]⟩, rfl⟩
      have ne : x ≠ A := by rintro rfl; rw [hA] at h; cases h
      exact ⟨by show upd b.H A _ x = _; rw [upd_ne ne]; exact h, t, rfl⟩
    · exact putA_rel (r.wiped ho) fA tA
    · rintro i m H ⟨rfl, hi, c, acc, e1, rfl, gl, hel, rc, pc⟩
      obtain ⟨hgo, hstop⟩ := hJ c gl.ok gl.st
      by_cases hlt : i < ds.length
      · obtain ⟨d, hd⟩ : ∃ d, ds[i]? = some d := ⟨_, List.getElem?_eq_getElem hlt⟩
        obtain ⟨h1, h2⟩ := hgo i d hd
        have hdrop : ds.drop i = d :: ds.drop (i + 1) := by
          rw [List.drop_eq_getElem_cons hlt]
          rw [List.getElem?_eq_getElem hlt] at hd
          cases hd; rfl
        have pc : PostR G W σ b ((loopL2 t cond ma1 t1 cond1 elt own own1 (ds.drop i) acc e1).bind K) fun d _ b => ∀ v, Rep G.C b 0 [] v d → Q v b.H := pc
        rw [hdrop] at pc
        simp only [loopL2] at pc
        refine .inr ⟨h1, fun H' => ∃ c acc e1, c.H = H' ∧ GrowL G.C b c A acc ∧ e1.length = e.length ∧ RelE G c (wipe σ own) (wipeE e1 own) ∧
          PostR G W σ b ((L (ds.drop (i + 1)) acc e1).bind K) fun d _ b => ∀ v, Rep G.C b 0 [] v d → Q v b.H, fun H' q => ⟨ds.length - (i + 1), by omega, rfl, hlt, q⟩, fun x H' y => ?_⟩
        obtain ⟨c1, rfl, gr, ok1, rp⟩ := h2 x H' y
        cases ht : mTg t d (wipeE e1 own) with
        | none => rw [ht] at pc; exact (show False from pc).elim
        | some e2 =>
          rw [ht] at pc
          dsimp only at pc
          have gl1 := gl.next gr.step ok1
          refine gT_mono t (ins_w t hown _ x c1.H (fun σ2 H2 => H2 = c1.H ∧ RelE G c1 σ2 e2) (tg_w t hf (rc.grow gr ok1) (fzL_mem z d (List.mem_of_getElem? hd)) rp ht fun σ2 r2 => ⟨rfl, r2⟩)) fun σ2 H2 ⟨hw, hH, r2⟩ => ?_
          subst hH
          rw [wipe_wipe] at hw
          refine ⟨hw, c1, e2, rfl, r2, ?_⟩
          have hlen : ∀ {c : Wd} {e' : EnvD}, RelE G c σ2 e' → e'.length = e.length := fun {c e'} r' => by
            have := congrArg List.length hw
            rw [wipe_length, wipe_length] at this
            rw [r'.len, this, r.len]
          cases hc : cond e2 with
          | bad => rw [hc] at pc; exact (show False from pc).elim
          | exc x e3 => rw [hc] at pc; exact (show False from pc).elim
          | ok be =>
            obtain ⟨bb, e3⟩ := be
            rw [hc] at pc
            intro c2 st2 r3
            cases bb with
            | false =>
              rw [if_neg Bool.false_ne_true]
              exact ⟨c2, acc, e3, rfl, gl1.next st2 r3.ok, hlen r3, r3.rewiped hw ho, pc⟩
            | true =>
              rw [if_pos rfl]
              dsimp only at pc
              cases hm : ma1 e3 with
              | bad => rw [hm] at pc; exact (show False from pc).elim
              | exc x e4 => rw [hm] at pc; exact (show False from pc).elim
              | ok xe =>
                obtain ⟨y, e4⟩ := xe
                rw [hm] at pc
                dsimp only at pc
                cases hs : (y.get e4).bind seq2 with
                | none => rw [hs] at pc; exact (show False from pc).elim
                | some ds1 =>
                  rw [hs] at pc
                  dsimp only at pc
                  split at pc
                  · rename_i hbd
                    rw [res_assoc] at pc
                    -- the inner loop
                    have inner : ∀ (c3 : Wd) (J1 : It), Step c2 c3 → RelE G c3 σ2 e4 → fzL ds1 = true → ItF G.C c3 ds1 J1 → ∃ W1 : Nat → Nat → Hp → Prop, (∃ m, W1 0 m c3.H) ∧ ∀ j k H, W1 j k H →
                        (J1.stop j H ∧ ∃ c acc e1, c.H = H ∧ GrowL G.C b c A acc ∧ e1.length = e.length ∧ RelE G c (wipe σ own) (wipeE e1 own) ∧ PostR G W σ b ((L (ds.drop (i + 1)) acc e1).bind K) fun d _ b => ∀ v, Rep G.C b 0 [] v d → Q v b.H) ∨
                        (J1.go j H ∧ ∃ Nx1 : Hp → Prop, (∀ H', Nx1 H' → ∃ k', k' < k ∧ W1 (j + 1) k' H') ∧ ∀ x H', J1.yld j H x H' → gT G.C.K t1 x (wipe σ2 own1) H' fun σ3 H5 => wipe σ3 own1 = wipe σ2 own1 ∧ tT G W0 cond1 σ3 H5 fun b H6 =>
                          if b = true then tE G W0 elt σ3 H6 fun y H7 => ∃ acc, H7 A = some (.lst acc) ∧ acc.length < sizeLine ∧ Nx1 (upd H7 A (.lst (acc ++ [y]))) else Nx1 H6) := by
                      intro c3 J1 st3 r4 z1 hJ1
                      have gl3 := (gl1.next st2 r3.ok).next st3 r4.ok
                      refine ⟨fun j k H => k = ds1.length - j ∧ j ≤ ds1.length ∧ ∃ c' acc' e', c'.H = H ∧ GrowL G.C b c' A acc' ∧ acc'.length ≤ acc.length + j ∧ e'.length = e.length ∧ FM c3 c' ∧ RelE G c' (wipe σ2 own1) (wipeE e' own1) ∧
                        PostR G W σ b ((loopL t1 cond1 elt own1 (ds1.drop j) acc' e').bind fun x => (L (ds.drop (i + 1)) x.1 x.2).bind K) fun d _ b => ∀ v, Rep G.C b 0 [] v d → Q v b.H,
                        ⟨_, rfl, Nat.zero_le _, c3, acc, e4, rfl, gl3, Nat.le_refl _, hlen r4, fun _ _ h => h, r4.wiped ho1, pc⟩, ?_⟩
                      rintro j k H ⟨rfl, hj, c', acc', e', rfl, gl', hacc', hel', fm, rc', pc'⟩
                      obtain ⟨hgo1, hstop1⟩ := hJ1 c' gl'.ok fm
                      by_cases hlt1 : j < ds1.length
                      · obtain ⟨d1, hd1⟩ : ∃ d, ds1[j]? = some d := ⟨_, List.getElem?_eq_getElem hlt1⟩
                        obtain ⟨k1, k2⟩ := hgo1 j d1 hd1
                        have hdrop1 : ds1.drop j = d1 :: ds1.drop (j + 1) := by
                          rw [List.drop_eq_getElem_cons hlt1]
                          rw [List.getElem?_eq_getElem hlt1] at hd1
                          cases hd1; rfl
                        rw [hdrop1] at pc'
                        simp only [loopL] at pc'
                        refine .inr ⟨k1, fun H' => ∃ c' acc' e', c'.H = H' ∧ GrowL G.C b c' A acc' ∧ acc'.length ≤ acc.length + (j + 1) ∧ e'.length = e.length ∧ FM c3 c' ∧ RelE G c' (wipe σ2 own1) (wipeE e' own1) ∧
                          PostR G W σ b ((loopL t1 cond1 elt own1 (ds1.drop (j + 1)) acc' e').bind fun x => (L (ds.drop (i + 1)) x.1 x.2).bind K) fun d _ b => ∀ v, Rep G.C b 0 [] v d → Q v b.H,
                          fun H' q => ⟨ds1.length - (j + 1), by omega, rfl, hlt1, q⟩, fun x H' y => ?_⟩
                        obtain ⟨rfl, rp1⟩ := k2 x H' y
                        cases ht1 : mTg t1 d1 (wipeE e' own1) with
                        | none => rw [ht1] at pc'; exact (show False from pc').elim
                        | some e5 =>
                          rw [ht1] at pc'
                          dsimp only at pc'
                          refine gT_mono t1 (ins_w t1 hown1 _ x c'.H (fun σ3 H2 => H2 = c'.H ∧ RelE G c' σ3 e5) (tg_w t1 hf1 rc' (fzL_mem z1 d1 (List.mem_of_getElem? hd1)) rp1 ht1 fun σ3 r2 => ⟨rfl, r2⟩)) fun σ3 H2 ⟨hw1, hH, r5⟩ => ?_
                          subst hH
                          rw [wipe_wipe] at hw1
                          refine ⟨hw1, c', e5, rfl, r5, ?_⟩
                          have hlen1 : ∀ {c : Wd} {e' : EnvD}, RelE G c σ3 e' → e'.length = e.length := fun {c e'} r' => by
                            have q1 := congrArg List.length hw1
                            have q2 := congrArg List.length hw
                            rw [wipe_length, wipe_length] at q1 q2
                            rw [r'.len, q1, q2, r.len]
                          cases hc1 : cond1 e5 with
                          | bad => rw [hc1] at pc'; exact (show False from pc').elim
                          | exc x e3 => rw [hc1] at pc'; exact (show False from pc').elim
                          | ok be =>
                            obtain ⟨b1, e6⟩ := be
                            rw [hc1] at pc'
                            intro c4 st4 r6
                            have fm4 : FM c3 c4 := fun x o h => st4.f gl'.ok (fm x o h)
                            cases b1 with
                            | false =>
                              show if false = true then _ else _
                              rw [if_neg Bool.false_ne_true]
                              exact ⟨c4, acc', e6, rfl, gl'.next st4 r6.ok, by omega, hlen1 r6, fm4, r6.rewiped hw1 ho1, pc'⟩
                            | true =>
                              show if true = true then _ else _
                              rw [if_pos rfl]
                              refine ⟨c4, e6, rfl, r6, ?_⟩
                              dsimp only at pc'
                              cases he : elt e6 with
                              | bad => rw [he] at pc'; exact (show False from pc').elim
                              | exc x e4 => rw [he] at pc'; exact (show False from pc').elim
                              | ok ye =>
                                obtain ⟨yy, e7⟩ := ye
                                rw [he] at pc'
                                intro c5 st5 r7 v rv
                                have gl5 := (gl'.next st4 r6.ok).next st5 r7.ok
                                obtain ⟨vs, q1, q2⟩ := gl5.h
                                obtain ⟨zy, rq⟩ := frzQ_rep (s := 0) (q := []) r7.ok rv
                                have glf := gl5.next (frzW_step (r := 0)) (frzW_ok r7.ok)
                                have gl6 := glf.push (vs := vs) hA q1 zy rq
                                refine ⟨vs, q1, ?_, putA (frzW c5 0) A (.lst (vs ++ [v])), acc' ++ [frzQ yy], e7, rfl, gl6, ?_, hlen1 r7, ?_, ?_, pc'⟩
                                · rw [q2.len]; exact small100k (by omega)
                                · rw [List.length_append]; simp only [List.length_cons, List.length_nil]; omega
                                · intro x o h
                                  have h5 : c5.F x = some o := st5.f r6.ok (fm4 x o h)
                                  exact (frzW_step (r := 0)).f r7.ok h5
                                · exact putA_rel ((r7.rewiped hw1 ho1).frz0) glf.f glf.t
                      · have e2 : j = ds1.length := by omega
                        subst e2
                        rw [List.drop_length] at pc'
                        refine .inl ⟨hstop1, c', acc', e', rfl, gl', hel', ?_, pc'⟩
                        have := rc'.wiped ho
                        rw [wipe_sub σ2 own1 hsub, wipeE_sub e' own1 hsub, hw] at this
                        exact this
                    cases hy : y.get e4 with
                    | none => rw [hy] at hs; cases hs
                    | some dd =>
                      rw [hy] at hs
                      have hs : seq2 dd = some ds1 := hs
                      match dd, hy, hs with
                      | .lst false l, hy, hs =>
                        simp only [seq2] at hs
                        split at hs
                        · rename_i z1; cases hs
                          refine .inl ⟨c2, e3, rfl, r3, ?_⟩
                          rw [hm]
                          intro c3 st3 r4 v ar
                          obtain ⟨r1, p1⟩ := ar.rep r4 hy
                          have p1' := p1
                          simp only [Rep] at p1'
                          obtain ⟨x2, vs, rfl, hx2, hl⟩ := p1'
                          rw [if_neg Bool.false_ne_true] at hx2
                          exact ⟨x2, rfl, ⟨_, SqL.of (r4.ok.sub _ _ hx2.1)⟩, inner c3 _ st3 r4 z1 (itF_lst r4.ok z1 hx2.1 hl)⟩
                        · cases hs
                      | .tup l, hy, hs =>
                        simp only [seq2] at hs
                        split at hs
                        · rename_i z1; cases hs
                          refine .inr ⟨c2, e3, rfl, r3, ?_⟩
                          rw [hm]
                          intro c3 st3 r4 v ar
                          obtain ⟨r1, p1⟩ := ar.rep r4 hy
                          have p1' := p1
                          simp only [Rep] at p1'
                          obtain ⟨x2, vs, rfl, hx2, hl⟩ := p1'
                          exact ⟨x2, rfl, ⟨_, sqt_mono r4.ok.sub hx2.sq⟩, inner c3 _ st3 r4 z1 (itF_tup r4.ok z1 hx2.sq hl)⟩
                        · cases hs
                  · exact (show False from pc).elim
      · have e2 : i = ds.length := by omega
        subst e2
        have pc : PostR G W σ b ((loopL2 t cond ma1 t1 cond1 elt own own1 (ds.drop ds.length) acc e1).bind K) fun d _ b => ∀ v, Rep G.C b 0 [] v d → Q v b.H := pc
        rw [List.drop_length] at pc
        refine .inl ⟨hstop, ?_⟩
        obtain ⟨vs, k1, k2⟩ := gl.h
        have pc : ∀ b', Step b b' → RelE G b' σ (restE e e1 own) → ∀ v, Rep G.C b' 0 [] v (.lst true acc) → Q v b'.H := pc
        have rel' := r.unwiped rc gl.st hel
        refine pc (tagA c A) (fun x o h t => ?_) ?_ (.ref A) ?_
        · obtain ⟨g1, g2, g3⟩ := gl.st x o h t
          have ne : x ≠ A := by rintro rfl; rw [hA] at h; cases h
          exact ⟨g1, by show (if x = A then some (0, []) else c.t x) = none; rw [if_neg ne]; exact g2, g3⟩
        · exact ⟨tagA_ok gl.ok gl.f k1, rel'.len, fun i d h => let ⟨v, e, q⟩ := rel'.slot i d h; ⟨v, e, tagA_to gl.t q⟩, rel'.prm⟩
        · simp only [Rep]
          refine ⟨A, vs, rfl, ?_, ?_⟩
          · rw [if_pos trivial]
            exact ⟨by show (if A = A then some (0, []) else c.t A) = _; rw [if_pos rfl], k1⟩
          · exact repL_to (fun d j v _ h => tagA_to gl.t h) gl.z k2
  · exact (show False from p).elim
end
end Mi
namespace Mi
open PySem PySem.Spec PyProof.Rows L2
/-! ### rules: two generators -/
section
variable {X : Cx} {G : Gm} {W : WX} {lv : Nat} {e tg tg1 iter1 : Expr} {m : EM D} {ma1 : EM Arg} {mt mt1 : EM Bool} {mi : EM (List D)} {pos p : Pos} {x : Str}
theorem ri_seq2 (s : St0 X G) (ha : PE X e (tArg G W ma1)) : PI X tg e (fun σ H R => iList G.C.K (tArg G W ma1) σ H R ∨ iTup G.C.K (tArg G W ma1) σ H R) := by
  have := pi_or (tg := tg) (pi_list ha) (pi_tup ha)
  rw [s.k] at this
  exact this
theorem r_lc2 {elt : Expr} {ifs ifs1 : List Expr} {scope : Scope} (s : Go X G W lv) (own : List (Str × Nat)) (own1 : List Nat) (t t1 : Tgt) (hio : Tgt.off G.io t) (hio1 : Tgt.off G.io t1) (hio2 : ∀ i ∈ G.io, i ∉ own.map (·.2)) (hown : Tgt.ins (own.map (·.2)) t) (hown1 : Tgt.ins own1 t1) (hsub : ∀ i ∈ own1, i ∈ own.map (·.2))
    (hi : PI X tg e (tI G W mi)) (ok : BlkOk X.N X.env.scope scope own)
    (hg : ∀ (s : Shared) (H : Hp) (C : Addr) (cl : List (Str × Addr)) (fp : List Addr), PG (X.blk s H scope (compEnvC scope cl C X.env) fp) tg (gT G.C.K t))
    (ht : ∀ (s : Shared) (H : Hp) (C : Addr) (cl : List (Str × Addr)) (fp : List Addr), Go (X.blk s H scope (compEnvC scope cl C X.env) fp) G W0 lv → PTs (X.blk s H scope (compEnvC scope cl C X.env) fp) ifs (tT G W0 mt))
    (hi1 : ∀ (s : Shared) (H : Hp) (C : Addr) (cl : List (Str × Addr)) (fp : List Addr), Go (X.blk s H scope (compEnvC scope cl C X.env) fp) G W0 lv → PE (X.blk s H scope (compEnvC scope cl C X.env) fp) iter1 (tArg G W0 ma1))
    (hg1 : ∀ (s : Shared) (H : Hp) (C : Addr) (cl : List (Str × Addr)) (fp : List Addr), PG (X.blk s H scope (compEnvC scope cl C X.env) fp) tg1 (gT G.C.K t1))
    (ht1 : ∀ (s : Shared) (H : Hp) (C : Addr) (cl : List (Str × Addr)) (fp : List Addr), Go (X.blk s H scope (compEnvC scope cl C X.env) fp) G W0 lv → PTs (X.blk s H scope (compEnvC scope cl C X.env) fp) ifs1 (tT G W0 mt1))
    (he : ∀ (s : Shared) (H : Hp) (C : Addr) (cl : List (Str × Addr)) (fp : List Addr), Go (X.blk s H scope (compEnvC scope cl C X.env) fp) G W0 lv → PE (X.blk s H scope (compEnvC scope cl C X.env) fp) elt (tE G W0 m)) (hs : ∀ x, foldedSetIterable e X.env x = pure x := by intro _; rfl) (hs1 : ∀ env x, foldedSetIterable iter1 env x = pure x := by intro _ _; rfl) :
    PE X (.ListComp elt [⟨tg, e, ifs, 0⟩, ⟨tg1, iter1, ifs1, 0⟩] scope pos) (tE G W (mLc2 mi t mt ma1 t1 mt1 m (own.map (·.2)) own1)) :=
  (pe_lc2 s.cm s.n hi ok hsub hg (fun s0 H C cl fp => ht s0 H C cl fp (s.blk ..)) (fun s0 H C cl fp => ri_seq2 (s.blk ..).toSt0 (hi1 s0 H C cl fp (s.blk ..))) hg1 (fun s0 H C cl fp => ht1 s0 H C cl fp (s.blk ..)) (fun s0 H C cl fp => he s0 H C cl fp (s.blk ..)) hs hs1).weak fun _ _ _ q => lc2_w hio hio1 hio2 hown hown1 hsub q
theorem rs_lc2 {elt : Expr} {ifs ifs1 : List Expr} {scope : Scope} {py : Pos} (s : Go X G W lv) (i : Nat) (own : List (Str × Nat)) (own1 : List Nat) (t t1 : Tgt) (hioi : i ∉ G.io) (hio : Tgt.off G.io t) (hio1 : Tgt.off G.io t1) (hio2 : ∀ i ∈ G.io, i ∉ own.map (·.2)) (hown : Tgt.ins (own.map (·.2)) t) (hown1 : Tgt.ins own1 t1) (hsub : ∀ i ∈ own1, i ∈ own.map (·.2))
    (hy : X.N[i]? = some x) (hyl : X.env.scope.names.lookup x = some .local) (hsw : swapsWith (.ListComp elt [⟨tg, e, ifs, 0⟩, ⟨tg1, iter1, ifs1, 0⟩] scope p) (some (.Name x py)) pos.line X.env = pure true) (hi : PI X tg e (tI G W mi)) (ok : BlkOk X.N X.env.scope scope own)
    (hg : ∀ (s : Shared) (H : Hp) (C : Addr) (cl : List (Str × Addr)) (fp : List Addr), PG (X.blk s H scope (compEnvC scope cl C X.env) fp) tg (gT G.C.K t))
    (ht : ∀ (s : Shared) (H : Hp) (C : Addr) (cl : List (Str × Addr)) (fp : List Addr), Go (X.blk s H scope (compEnvC scope cl C X.env) fp) G W0 lv → PTs (X.blk s H scope (compEnvC scope cl C X.env) fp) ifs (tT G W0 mt))
    (hi1 : ∀ (s : Shared) (H : Hp) (C : Addr) (cl : List (Str × Addr)) (fp : List Addr), Go (X.blk s H scope (compEnvC scope cl C X.env) fp) G W0 lv → PE (X.blk s H scope (compEnvC scope cl C X.env) fp) iter1 (tArg G W0 ma1))
    (hg1 : ∀ (s : Shared) (H : Hp) (C : Addr) (cl : List (Str × Addr)) (fp : List Addr), PG (X.blk s H scope (compEnvC scope cl C X.env) fp) tg1 (gT G.C.K t1))
    (ht1 : ∀ (s : Shared) (H : Hp) (C : Addr) (cl : List (Str × Addr)) (fp : List Addr), Go (X.blk s H scope (compEnvC scope cl C X.env) fp) G W0 lv → PTs (X.blk s H scope (compEnvC scope cl C X.env) fp) ifs1 (tT G W0 mt1))
    (he : ∀ (s : Shared) (H : Hp) (C : Addr) (cl : List (Str × Addr)) (fp : List Addr), Go (X.blk s H scope (compEnvC scope cl C X.env) fp) G W0 lv → PE (X.blk s H scope (compEnvC scope cl C X.env) fp) elt (tE G W0 m)) (hs : ∀ x, foldedSetIterable e X.env x = pure x := by intro _; rfl) (hs1 : ∀ env x, foldedSetIterable iter1 env x = pure x := by intro _ _; rfl) :
    PS X (.Assign [.Name x py] (.ListComp elt [⟨tg, e, ifs, 0⟩, ⟨tg1, iter1, ifs1, 0⟩] scope p) pos) (tS G W (mAsg i (mLc2 mi t mt ma1 t1 mt1 m (own.map (·.2)) own1))) :=
  (ps_setLc2 s.cm s.n hy hyl hsw hi ok hsub hg (fun s0 H C cl fp => ht s0 H C cl fp (s.blk ..)) (fun s0 H C cl fp => ri_seq2 (s.blk ..).toSt0 (hi1 s0 H C cl fp (s.blk ..))) hg1 (fun s0 H C cl fp => ht1 s0 H C cl fp (s.blk ..)) (fun s0 H C cl fp => he s0 H C cl fp (s.blk ..)) hs hs1).weak fun D σ H q => by
    obtain ⟨a, env, h1, rel, post⟩ := asg_w hioi q
    exact lc2_w hio hio1 hio2 hown hown1 hsub ⟨a, env, h1, rel, post⟩
end
end Mi
namespace Mi
open PySem PySem.Spec PyProof.Rows L2
/-! ### more of lists: sorted of a tuple, list of a text, reverse, insert, isinstance of two types, xs[::-1] -/
section
variable {X : Cx}
theorem call_sortedTup : CallR X (.builtin "sorted") (fun xs H Q => ∃ (a : Addr) (ks : List Str), xs = [.ref a] ∧ SqT X.K H a (ks.map V.str) ∧ ks.length < 64 ∧
    ∀ ys p, ys.Perm ks → sortedS ys = true → H p = none → Q (.ref p) (upd H p (.lst (ys.map V.str)))) := by
  intro pins s σ H xs us Q I r q
  obtain ⟨a, ks, ex, hd, h64, q⟩ := q
  subst ex
  obtain ⟨u, eu, rx⟩ := vals1 r
  subst eu
  cases rx
  obtain ⟨its, rv, pl, hz⟩ := I.tuple hd
  obtain ⟨o, ho, hc, n, hdt⟩ := pl
  have hlen0 := rv.length
  rw [List.length_map] at hlen0
  refine Calls.call_function_entry PyProof.Rows.kind_sorted PyProof.Rows.plain_sorted PyProof.Rows.entry_sorted (PyProof.Rows.args_sorted1 _) ?_
  unfold Builtin.«sorted»
  refine wpAny_bind (m := checkCount "sorted" 1 1 _) (wpAny_pure ?_)
  refine wpAny_bind (wpAny_collect_seq a (.inr rfl) ho hc hdt (fun h' hk => ?_) (by rw [List.size_toArray, ← hlen0, sizeLine_eq]; omega))
  have hS : StrsAre its ks := rv.strs
  have hal : its.length = ks.length := hlen0.symm
  have I1 : Inv X pins σ H { s with heap := h' } := I.kept (t' := s.toks) hk
  rw [show its.toArray.toList = its from rfl]
  refine wpAny_bind (wpAny_newList ?_ (by rw [hal, sizeLine_eq]; omega))
  have hoL : (h'.push (seqObj "list" its.toArray 0)).get? h'.objs.size = some (seqObj "list" its.toArray 0) := Heap.get?_push_size _ rfl
  show wpAny _ _ _ _ _ { s with heap := h'.push (seqObj "list" its.toArray 0) }
  refine wpAny_bind (wpAny_holding (wpAny_call_entry PyProof.Rows.slot_list_sort ⟨_, hoL, rfl⟩ PyProof.Rows.entry_list_sort
    (PyProof.Rows.list_sort_treeK PyProof.Rows.strKind_oneLt (s := { s with heap := h'.push (seqObj "list" its.toArray 0) }) hoL hS.keysOf (fun v₁ v₂ rest e => PyProof.Rows.keyKind_strs (by rw [← e]; exact hS)) (by rw [hal]; exact h64) fun st' hp hs => ⟨_, rfl, ?_⟩)
    (PyProof.Rows.args_list_sort _)))
  obtain ⟨ys, g1, g2, g3⟩ := PyProof.Rows.sorted_out_str hS hp hs
  obtain ⟨e', he'⟩ := PyProof.Rows.sortedHeap_at (vs := its) (out := (PyProof.Rows.arrOf st').map (·.2)) hoL
  have hlen : (ys.map V.str).length ≤ sizeLine := by
    rw [List.length_map, g2.length_eq, sizeLine_eq]; omega
  refine wpAny_pure ⟨_, rfl, .ref h'.objs.size, upd H h'.objs.size (.lst (ys.map V.str)), I1.laid (t' := s.toks) (fun b u e => ?_) (Nat.le_refl _)
    (show ObjOk X.prog X.w _ _ _ (.lst (ys.map V.str)) from ⟨hlen, ((PyProof.Rows.arrOf st').map (·.2)).toList, e', vals_of_strs g1, by rw [Array.toArray_toList]; exact he'⟩), rfl, q ys _ g2 g3 (I1.hok.fresh (Nat.le_refl _))⟩
  have hb : b < h'.objs.size := Heap.lt_size e
  rw [PyProof.Rows.sortedHeap_old (Nat.ne_of_lt hb) (by rw [PyProof.Rows.size_push']; exact Nat.lt_succ_of_lt hb)]
  exact Heap.get?_push_of_some _ e
theorem vals_signs {x : Str} {acc : Array Value} (h : ItemsOf (SignAt x) acc x.cps.size) : Vals (x.cps.toList.map fun c => V.str ⟨#[c]⟩) acc.toList := by
  have gen : ∀ (l : List Nat) (m : List Value), l.length = m.length → (∀ (j : Nat) (v : Value), m[j]? = some v → ∃ (c : Nat) (u : Tok), l[j]? = some c ∧ v = Value.str ⟨#[c]⟩ u) → Vals (l.map fun c => V.str ⟨#[c]⟩) m := by
    intro l
    induction l with
    | nil => intro m hl _; cases m with
      | nil => exact .nil
      | cons _ _ => simp at hl
    | cons c l ih =>
      intro m hl hm
      cases m with
      | nil => simp at hl
      | cons v m =>
        obtain ⟨c', u, e1, e2⟩ := hm 0 v rfl
        cases e1
        rw [List.map_cons]
        refine .cons ⟨u, e2⟩ (ih m (by simpa using hl) fun j v hj => ?_)
        obtain ⟨c', u, e1, e2⟩ := hm (j + 1) v (by simpa using hj)
        exact ⟨c', u, by simpa using e1, e2⟩
  refine gen _ _ (by simp [h.1]) fun j v hj => ?_
  obtain ⟨c, u, e1, e2⟩ := h.2 j v (by simpa using hj)
  exact ⟨c, u, by simpa using e1, e2⟩
theorem call_listSt (hc : X.calm = true) : CallR X (.type "list") (fun xs H Q => ∃ z : Str, xs = [.str z] ∧ z.length ≤ 1000 ∧ ∀ p, H p = none → Q (.ref p) (upd H p (.lst (z.cps.toList.map fun c => V.str ⟨#[c]⟩)))) := by
  intro pins s σ H xs us Q I r q
  obtain ⟨z, ex, hz, q⟩ := q
  subst ex
  obtain ⟨u, eu, t, rfl⟩ := vals1 r
  subst eu
  have hz' : z.cps.size ≤ 1000 := hz
  refine PySem.call_list_str (I.ok.hd hc) z t (fun h' tk acc' c' hk ho hi => ?_) (by rw [sizeLine_eq]; omega)
  have hv := vals_signs hi
  refine ⟨.ref s.heap.objs.size, upd H s.heap.objs.size (.lst (z.cps.toList.map fun c => V.str ⟨#[c]⟩)), I.laid (t' := tk) hk (Nat.le_refl _)
    (show ObjOk X.prog X.w _ _ _ (.lst _) from ⟨by rw [List.length_map, Array.length_toList, sizeLine_eq]; omega, acc'.toList, c', hv, by rw [Array.toArray_toList]; exact ho⟩), rfl, q _ (I.hok.fresh (Nat.le_refl _))⟩
end
def sortX : List D → Option D
  | [.tup l] => match strsOf l with
    | some ys => if ys.length < 64 then some (.lst true ((sortS ys).map .str)) else none
    | none => none
  | ds => sortD ds
theorem call_sortX {X : Cx} {C : KM} (hC : C.K = X.K) : CallR X (.builtin "sorted") (cD C sortX) := by
  intro pins s σ H xs us Q I r h
  obtain ⟨a, ds, d, rfl, k, ps, hd, q⟩ := h
  match ds, hd, ps with
  | [.tup l], hd, ps =>
    simp only [sortX] at hd
    cases hl : strsOf l with
    | none => rw [hl] at hd; cases hd
    | some ys =>
      rw [hl] at hd
      dsimp only at hd
      split at hd
      · rename_i hz; cases hd
        obtain ⟨v, rfl, r1, p1⟩ := one_rep ps
        obtain ⟨y, vs, rfl, h1, h2⟩ := rep_tup k p1
        rw [strs_rep hl h2, hC] at h1
        refine call_sortedTup pins s σ a.H _ us Q I r ⟨y, ys, rfl, h1, hz, fun zs p hp hs hn => ?_⟩
        rw [sort_one hp hs]
        exact new_lst k (fzL_strs _) (repL_strs (C := C) (a := a) (r := 0) (p := []) _ 0) q p hn
      · cases hd
  | [.lst o l], hd, ps => exact call_sortD pins s σ a.H xs us Q I r ⟨a, _, d, rfl, k, ps, hd, q⟩
def listY : List D → Option D
  | [.str s] => if s.length ≤ 1000 then some (.lst true (s.cps.toList.map fun c => .str ⟨#[c]⟩)) else none
  | ds => listX ds
theorem repL_signs {C : KM} {a : Wd} {r : Nat} {p : List Nat} : ∀ (l : List Nat) (n : Nat), RepL C a r p n (l.map fun c => V.str ⟨#[c]⟩) (l.map fun c => D.str ⟨#[c]⟩)
  | [], n => by simp [RepL]
  | c :: l, n => ⟨.str ⟨#[c]⟩, l.map fun c => V.str ⟨#[c]⟩, rfl, by simp [Rep], repL_signs l (n + 1)⟩
theorem call_listY {X : Cx} {C : KM} (hC : C.K = X.K) (hc : X.calm = true) : CallR X (.type "list") (cD C listY) := by
  intro pins s σ H xs us Q I r h
  obtain ⟨a, ds, d, rfl, k, ps, hd, q⟩ := h
  match ds, hd, ps with
  | [.str z], hd, ps =>
    simp only [listY] at hd
    split at hd
    · rename_i hz; cases hd
      obtain ⟨v, rfl, r1, p1⟩ := one_rep ps
      cases rep_str p1
      exact call_listSt hc pins s σ a.H _ us Q I r ⟨z, rfl, hz, new_lst k (fzL_map _ (fun _ => by simp [fz]) _) (repL_signs (C := C) (a := a) (r := 0) (p := []) _ 0) q⟩
    · cases hd
  | [.lst o l], hd, ps => exact call_listX hC hc pins s σ a.H xs us Q I r ⟨a, _, d, rfl, k, ps, hd, q⟩
  | [.tup l], hd, ps => exact call_listX hC hc pins s σ a.H xs us Q I r ⟨a, _, d, rfl, k, ps, hd, q⟩
  | [.scr l], hd, ps => exact call_listX hC hc pins s σ a.H xs us Q I r ⟨a, _, d, rfl, k, ps, hd, q⟩
  | [.dic o l m], hd, ps => exact call_listX hC hc pins s σ a.H xs us Q I r ⟨a, _, d, rfl, k, ps, hd, q⟩
end Mi
namespace Mi
open PySem PySem.Spec PyProof.Rows L2
/-! ### reverse, insert -/
theorem repL_of {C : KM} {a : Wd} {r : Nat} {p : List Nat} : ∀ {l : List D} {n : Nat} {vs : List V}, fzL l = true → vs.length = l.length → (∀ (i : Nat) (d : D) (v : V), l[i]? = some d → vs[i]? = some v → ∃ s q, Rep C a s q v d) → RepL C a r p n vs l
  | [], n, vs, _, hl, _ => by
    have : vs = [] := List.length_eq_zero_iff.mp hl
    subst this
    simp [RepL]
  | d :: l, n, [], _, hl, _ => by simp at hl
  | d :: l, n, v :: vs, z, hl, h => by
    simp only [fzL, Bool.and_eq_true] at z
    obtain ⟨s, q, h0⟩ := h 0 d v rfl rfl
    exact ⟨v, vs, rfl, Rep.fz (a := a) (b := a) (fun _ _ h => h) d q _ v z.1 h0, repL_of z.2 (by simpa using hl) fun i d v e1 e2 => h (i + 1) d v (by simpa using e1) (by simpa using e2)⟩
theorem repL_at {C : KM} {a : Wd} {r : Nat} {p : List Nat} {l : List D} {n : Nat} {vs : List V} (h : RepL C a r p n vs l) {i : Nat} {d : D} {v : V} (e1 : l[i]? = some d) (e2 : vs[i]? = some v) : ∃ s q, Rep C a s q v d := by
  obtain ⟨w, h1, h2⟩ := h.get e1
  rw [e2] at h1; cases h1
  exact ⟨_, _, h2⟩
theorem fzL_rev {l : List D} (h : fzL l = true) : fzL l.reverse = true := fzL_all fun d hd => fzL_mem h d (List.mem_reverse.mp hd)
theorem repL_rev {C : KM} {a : Wd} {r s : Nat} {p q : List Nat} {l : List D} {n m : Nat} {vs : List V} (z : fzL l = true) (h : RepL C a r p n vs l) : RepL C a s q m vs.reverse l.reverse := by
  refine repL_of (fzL_rev z) (by rw [List.length_reverse, List.length_reverse, h.len]) fun i d v e1 e2 => ?_
  have hi : i < l.length := by have := (List.getElem?_eq_some_iff.mp e1).1; simpa using this
  have hi2 : i < vs.length := by have := (List.getElem?_eq_some_iff.mp e2).1; simpa using this
  rw [List.getElem?_reverse hi] at e1
  rw [List.getElem?_reverse hi2] at e2
  rw [h.len] at e2
  exact repL_at h e1 e2
def revF (l ds : List D) : Option (D × List D) := match ds with
  | [] => if fzL l = true then some (.non, l.reverse) else none
  | _ => none
section
variable {C : KM}
theorem met_rev : MetOk C rReverse revF := fun a x vs us l ds d l' n s p Q k hx hl ps hf q => by
  match ds, hf, ps with
  | [], hf, ps =>
    simp only [revF] at hf
    split at hf
    · rename_i z; cases hf
      cases ps
      exact ⟨x, vs, rfl, rfl, hx, q .non _ 0 0 [] (fzL_rev z) (repL_rev z hl) ⟨0, [], by simp [fz], by simp [Rep]⟩⟩
    · cases hf
theorem met_ins : MetOk C (fun x vs H Q => ∃ (l : Addr) (xs : List V) (i : Int) (y : V), x = .ref l ∧ vs = [.int i, y] ∧ H l = some (.lst xs) ∧ xs.length < sizeLine ∧ 0 ≤ i ∧ i < 2 ^ 63 ∧ Q .non (upd H l (.lst (xs.take i.toNat ++ [y] ++ xs.drop i.toNat)))) insF := fun a x vs us l ds d l' n s p Q k hx hl ps hf q => by
  match ds, hf, ps with
  | [.int i, y], hf, ps =>
    simp only [insF] at hf
    split at hf
    · rename_i z; cases hf
      obtain ⟨z1, z2, z3, z4, z5⟩ := z
      obtain ⟨v, u, rfl, ⟨r1, p1⟩, ⟨r2, p2⟩⟩ := two_rep ps
      cases rep_int p1
      have zt : fzL (l.take i.toNat ++ [y] ++ l.drop i.toNat) = true := fzL_all fun d hd => by
        rcases List.mem_append.mp hd with hd | hd
        · rcases List.mem_append.mp hd with hd | hd
          · exact fzL_mem z1 d (List.mem_of_mem_take hd)
          · rw [List.mem_singleton] at hd; subst hd; exact z2
        · exact fzL_mem z1 d (List.mem_of_mem_drop hd)
      refine ⟨x, vs, i, u, rfl, rfl, hx, by rw [hl.len, szl]; omega, z3, z4, q .non _ 0 0 [] zt (repL_of zt (by simp [hl.len]) fun j d v e1 e2 => ?_) ⟨0, [], by simp [fz], by simp [Rep]⟩⟩
      have ht : (vs.take i.toNat).length = (l.take i.toNat).length := by simp [hl.len]
      rw [List.append_assoc] at e1 e2
      by_cases h1 : j < (l.take i.toNat).length
      · rw [List.getElem?_append_left h1] at e1
        rw [List.getElem?_append_left (by omega)] at e2
        rw [List.getElem?_take] at e1 e2
        split at e1
        · rename_i h; rw [if_pos h] at e2; exact repL_at hl e1 e2
        · cases e1
      · rw [List.getElem?_append_right (by omega)] at e1
        rw [List.getElem?_append_right (by omega), ht] at e2
        generalize j - (l.take i.toNat).length = m at e1 e2
        cases m with
        | zero => cases e1; cases e2; exact ⟨_, _, p2⟩
        | succ m =>
          simp only [List.singleton_append, List.getElem?_cons_succ, List.getElem?_drop] at e1 e2
          exact repL_at hl e1 e2
    · cases hf
end
section
variable {X : Cx} {G : Gm} {W : WX} {lv : Nat} {a b e o : Expr} {es : List Expr} {ma : EM Arg} {mas : EM (List Arg)} {m : EM D} {apos cpos p : Pos} {x : Str}
theorem r_insert (s : St0 X G) (j : Nat) (hN : X.N[j]? = some x) (hv : Vis X.env.scope x) (ha : PA X [e, a] (tArgs G W mas)) (hd : (x == ("__debug__" : Str)) = false := by decide) (hcd : (x == ("__classdict__" : Str)) = false := by decide)
    (hbase : attributeBase (.Name x p) "insert" X.env (eval (.Name x p) X.env) = eval (.Name x p) X.env := by rfl) (hfew : ((backTo cpos (starEach [e, a] X.env)).all (fun x => !x.1) && (backToKw cpos (keywordEach [] X.env)).all (fun x => x.1.isSome)
      && decide ([e, a].length + ([] : List Keyword).length + (if ([] : List Keyword).isEmpty then 0 else 1) < 30)) = true := by rfl) (hline : (apos.endLine == cpos.line) = true := by rfl) (hs : starEach [e, a] X.env = (false, eval e X.env) :: starEach [a] X.env := by rfl) (hplain : (backTo cpos (starEach [a] X.env)).any (·.1) = false := by rfl) :
    PE X (.Call (.Attribute (.Name x p) "insert" apos) [e, a] [] cpos) (tE G W (mMet j mas insF)) :=
  (pe_bm PySem.F.plainAttrs_list PySem.F.slot_list_insert PySem.F.type_list_insert mt_insert (pe_var hN hv hd hcd) ha hbase hfew hline hs hplain).weak fun _ _ _ q => by
    have := met_w met_ins q
    rw [s.k]; exact this
theorem r_reverse (s : St0 X G) (j : Nat) (hN : X.N[j]? = some x) (hv : Vis X.env.scope x) (hd : (x == ("__debug__" : Str)) = false := by decide) (hcd : (x == ("__classdict__" : Str)) = false := by decide)
    (hbase : attributeBase (.Name x p) "reverse" X.env (eval (.Name x p) X.env) = eval (.Name x p) X.env := by rfl) (hline : (apos.endLine == cpos.line) = true := by rfl) :
    PE X (.Call (.Attribute (.Name x p) "reverse" apos) [] [] cpos) (tE G W (mMet j (mArgs []) revF)) :=
  (pe_bm0 PySem.F.plainAttrs_list PySem.F.slot_list_reverse PySem.F.type_list_reverse mt_reverse (pe_var hN hv hd hcd) hbase hline).weak fun σ H Q q => by
    obtain ⟨v, h1, ty, a, env, rfl, rel, post⟩ := met_w met_rev q
    refine ⟨v, h1, by rw [s.k]; exact ty, ?_⟩
    exact post a (Step.refl a) rel [] .nil
end
/-! ### xs[::-1] of a list -/
def revD : D → Option D
  | .lst _ l => if fzL l = true then some (.lst true l.reverse) else none
  | _ => none
section
variable {X : Cx} {G : Gm} {W : WX} {σ : L2.St} {H : Hp} {Q : VK} {e : Expr} {ma : EM Arg}
theorem r_revL (s : St0 X G) {k : Nat} {p1 p2 p3 pos : Pos} (ha : PE X e (tArg G W ma)) : PE X (.Subscript e (.Slice none none (some (.UnaryOp .USub (.Constant (.int 1) k p1) p2)) p3) pos) (tE G W (mUn revD ma)) :=
  (pe_revL ha).weak fun σ H Q q => by
    obtain ⟨a, env, rfl, rel, post⟩ := q
    refine tArg_of rel post fun x e b v st r ar p => ?_
    dsimp only at p
    cases hx : x.get e with
    | none => rw [hx] at p; exact (show False from p).elim
    | some d =>
      rw [hx] at p
      dsimp only at p
      obtain ⟨d', hd, k'⟩ := p.lift r
      obtain ⟨r1, p1⟩ := ar.rep r hx
      match d, hd, p1 with
      | .lst o l, hd, p1 =>
        simp only [revD] at hd
        split at hd
        · rename_i z; cases hd
          obtain ⟨y, vs, rfl, h1, h2⟩ := rep_lst r.ok p1
          exact ⟨y, vs, rfl, SqL.of h1, new_lst r.ok (fzL_rev z) (repL_rev (s := 0) (q := []) (m := 0) z h2) fun z c gr ok rp => k' c gr ok z rp⟩
        · cases hd
end
/-! ### isinstance of two types -/
def isK2 (k k2 : TyK) (d : D) : Option D := match isK k d, isK k2 d with
  | some a, some b => some (.bl (a || b))
  | _, _ => none
section
variable {X : Cx} {G : Gm} {W : WX} {σ : L2.St} {H : Hp} {Q : VK} {a : Expr} {ma : EM Arg}
theorem isi2_w {k k2 : TyK} (h : tE G W (mUn (isK2 k k2) ma) σ H Q) : tCB (rIsiT G.C.K) (tCons (tArg G W ma) (tCons (tTup (tCons (tC (.ty k.nm)) (tCons (tC (.ty k2.nm)) tNil))) tNil)) σ H Q := by
  obtain ⟨a, env, rfl, rel, post⟩ := h
  refine tArg_of rel post fun x e b v st r ar p => ?_
  dsimp only at p
  cases hx : x.get e with
  | none => rw [hx] at p; exact (show False from p).elim
  | some d =>
    rw [hx] at p
    dsimp only at p
    obtain ⟨d', hd, k'⟩ := p.lift r
    obtain ⟨r1, p1⟩ := ar.rep r hx
    unfold isK2 at hd
    cases h1 : isK k d with
    | none => rw [h1] at hd; cases hd
    | some b1 =>
      cases h2 : isK k2 d with
      | none => rw [h1, h2] at hd; cases hd
      | some b2 =>
        rw [h1, h2] at hd; cases hd
        obtain ⟨t, g1, g2⟩ := isK_kit h1
        obtain ⟨t', g3, g4⟩ := isK_kit h2
        rw [g1] at g3; cases g3
        refine ⟨by rw [szl]; show 2 ≤ _; omega, fun T hT => ?_⟩
        obtain ⟨gr, ok⟩ := grow_o (o := .tup [.ty k.nm, .ty k2.nm]) (0, []) r.ok hT
        refine ⟨v, T, [.ty k.nm, .ty k2.nm], .type t, [.type k.nm, .type k2.nm], b1 || b2, rfl, upd_same, .cons (.ty _) (.cons (.ty _) .nil), rep_ty ok g1 (p1.grow r.ok gr), ?_, k' _ gr ok _ rep_ofbl⟩
        refine kitAny_cons (kit_ty g2) (fun hb => ?_) (fun hb => by rw [hb]; rfl)
        subst hb
        exact kitAny_cons (kit_ty g4) (fun hb => by subst hb; exact kitAny_nil) (fun hb => by rw [hb]; rfl)
theorem r_isi2 (s : St0 X G) (k k2 : TyK) {tn tn2 : Str} {p pos p3 p4 p5 : Pos} {kk : Nat} (ha : PE X a (tArg G W ma)) (h1 : G.C.mg "isinstance" = none) (h2 : G.C.mg tn = none) (h3 : G.C.mg tn2 = none) (hg : Gl X "isinstance") (hgt : Gl X tn) (hgt2 : Gl X tn2) (hv : bootBuiltins tn = some (.type k.nm)) (hv2 : bootBuiltins tn2 = some (.type k2.nm)) (hv1 : bootBuiltins "isinstance" = some (.builtin "isinstance"))
    (hn : tn ≠ "__name__" := by decide) (hd : (tn == ("__debug__" : Str)) = false := by decide) (hn2 : tn2 ≠ "__name__" := by decide) (hd2 : (tn2 == ("__debug__" : Str)) = false := by decide)
    (hs : starEach [a, .Tuple [.Name tn p3, .Name tn2 p4] kk p5] X.env = (false, eval a X.env) :: starEach [.Tuple [.Name tn p3, .Name tn2 p4] kk p5] X.env := by rfl) (hs2 : starEach [.Tuple [.Name tn p3, .Name tn2 p4] kk p5] X.env = (false, eval (.Tuple [.Name tn p3, .Name tn2 p4] kk p5) X.env) :: starEach [] X.env := by rfl)
    (hpl : (backTo pos (starEach [Expr.Tuple [.Name tn p3, .Name tn2 p4] kk p5] X.env)).any (·.1) = false := by rfl) :
    PE X (.Call (.Name "isinstance" p) [a, .Tuple [.Name tn p3, .Name tn2 p4] kk p5] [] pos) (tE G W (mUn (isK2 k k2) ma)) :=
  (pe_callB call_isiT hg (by rw [s.m]; exact h1) hv1 (pa_cons ha (pa_cons (pe_tup (pa_cons (pe_bltn hgt (by rw [s.m]; exact h2) hv (show RelV (.ty k.nm) _ from rfl) hn hd) (pa_cons (pe_bltn hgt2 (by rw [s.m]; exact h3) hv2 (show RelV (.ty k2.nm) _ from rfl) hn2 hd2) pa_nil))) pa_nil hs2) hs) (by decide) (by decide) hs hpl).weak fun _ _ _ q => by
    have := isi2_w q
    rw [s.k]; exact this
end
end Mi
namespace Mi
open PySem PySem.Spec PyProof.Rows L2
/-! ### enumerate of a tuple -/
theorem meets_enumT (l : Addr) (items : Array Value) (n : Nat) (dct : Option Addr) (sl : Array (Option Value)) :
    Meets (Builtin.«enumerate.__new__» ⟨[.type "enumerate", .ref l], []⟩) (fun _ R s => s.heap.get? l = some { cls := .type "tuple", dict := dct, data := .seq items n, slots := sl } ∧
      R (.ok (.ret (.ref (s.heap.push { cls := .type "tuple_iterator", data := .fields #[.ref l, .int 0 0] }).objs.size)))
        { s with heap := (s.heap.push { cls := .type "tuple_iterator", data := .fields #[.ref l, .int 0 0] }).push { cls := .type "enumerate", data := .fields #[.none, .bool false, .ref s.heap.objs.size, rawInt 0, .none, .none] } }) :=
  .of_wp fun prog w A R s h => by
    obtain ⟨hp, g, d, tk, os⟩ := s; obtain ⟨hl, h⟩ := h
    have hsub := sub_enumerate
    have hL : Heap.IsTuple (Shared.heap ⟨hp, g, d, tk, os⟩) l items := ⟨_, hl, rfl, n, rfl⟩
    have q1 : ∀ {A' : Around} {E : Value → Shared → Prop} {Q : Value → Shared → Prop}, Q (.ref hp.objs.size) ⟨hp.push { cls := .type "tuple_iterator", data := .fields #[.ref l, .int 0 0] }, g, d, tk, os⟩ → wpAny (model prog w) A' (pyIter (.ref l)) Q E ⟨hp, g, d, tk, os⟩ :=
      fun q => (begins_tuple l items).iter prog w _ _ ⟨hp, g, d, tk, os⟩ _ hL q
    wp_walk using AutoSeq1.wpAny_loadPart' hl, q1
    refine wpAny_stack_any fun st => wpAny_pure ?_
    split
    · rename_i c _ _ _ _ _
      cases (c == Value.type "enumerate")
      · wp_walk using AutoSeq1.wpAny_loadPart' hl, q1
        exact ⟨_, rfl, h⟩
      · wp_walk using AutoSeq1.wpAny_loadPart' hl, q1
        exact ⟨_, rfl, h⟩
    · wp_walk using AutoSeq1.wpAny_loadPart' hl, q1
      exact ⟨_, rfl, h⟩
theorem call_enumT {prog : Program} {w : World} {A : Around} {E : Value → Shared → Prop} {s : Shared} {l : Addr} {items : Array Value} {Q : Value → Shared → Prop} (hL : s.heap.IsTuple l items)
    (h : ∀ h', IsEnum h' (s.heap.objs.size + 1) s.heap.objs.size 0 .none → h'.IsTupleIter s.heap.objs.size l 0 → h'.objs.size = s.heap.objs.size + 2 →
      (∀ b o, s.heap.get? b = some o → h'.get? b = some o) → Q (.ref (s.heap.objs.size + 1)) { s with heap := h' }) :
    wpAny (model prog w) A (call (.type "enumerate") [.ref l]) Q E s := by
  obtain ⟨⟨c, dct, dt, sl⟩, hl, hc, n, hd⟩ := hL
  replace hc : c = .type "tuple" := hc
  replace hd : dt = .seq items n := hd
  subst hc hd
  refine callType_new PySem.F.called_enumerate (by decide) (PySem.F.typeCall_enumerate_1 _) (PySem.F.newCall_enumerate_1 _) (fun obj => PySem.F.args_object_init_2 obj _) PySem.F.entry_enumerate_new
    (meets_enumT l items n dct sl) ⟨hl, ?_⟩
  have hz : (s.heap.push { cls := .type "tuple_iterator", data := .fields #[.ref l, .int 0 0] }).objs.size = s.heap.objs.size + 1 := Heap.size_push ..
  show _ ∧ _
  rw [hz]
  have he : IsEnum ((s.heap.push { cls := .type "tuple_iterator", data := .fields #[.ref l, .int 0 0] }).push
      { cls := .type "enumerate", data := .fields #[.none, .bool false, .ref s.heap.objs.size, rawInt 0, .none, .none] }) (s.heap.objs.size + 1) s.heap.objs.size 0 .none := by
    have := Heap.get?_push_size (s.heap.push { cls := .type "tuple_iterator", data := .fields #[.ref l, .int 0 0] })
      (o := { cls := .type "enumerate", data := .fields #[.none, .bool false, .ref s.heap.objs.size, rawInt 0, .none, .none] }) rfl
    rw [hz] at this; exact this
  refine ⟨⟨_, he, rfl⟩, h _ he ⟨_, Heap.get?_push_of_some _ (Heap.get?_push_size _ rfl), rfl, rfl⟩ (by rw [Heap.size_push, hz]) fun b o x => Heap.get?_push_of_some _ (Heap.get?_push_of_some _ x)⟩
theorem enum_doneT {prog : Program} {w : World} {A : Around} {E : Value → Shared → Prop} {s : Shared} {e it l : Addr} {i : Nat} {items : Array Value} {old : Value} {Q : Option Value → Shared → Prop} (hh : A.handled = none) (hli : l ≠ it)
    (he : IsEnum s.heap e it i old) (hit : s.heap.IsTupleIter it l i) (hl : s.heap.IsTuple l items) (hx : items[i]? = none)
    (hQ : ∀ h', Heap.ExtBut it s.heap h' → Q none { s with heap := h' }) : wpAny (model prog w) A (pyNext (.ref e)) Q E s := by
  have hT : s.TypeIs (.ref e) "enumerate" := ⟨_, he, rfl⟩
  unfold pyNext
  refine wpAny_bind (wpAny_attempt (wpAny_callSpecial?_slot (name := Str.ofString "__next__") hT PySem.F.slot_enumerate_next
    (wpAny_call_entry PySem.F.slot_enumerate_next hT PySem.F.entry_enumerate_next ?_ (PySem.F.args_enumerate_next_1 _))))
  show wpAny _ _ (field (.ref e) 2 >>= _) _ _ _
  refine wpAny_bind (wpAny_field he rfl (x := .ref it) rfl ?_)
  refine wpAny_bind (wpAny_nextOf_tuple_end hh hit hl hx fun h' x he' hx' => ?_)
  obtain ⟨o, ho, hc⟩ := hx'
  refine wpAny_bind (wpAny_isInstance (T := "StopIteration") (b := true) ⟨o, ho, hc⟩ isSubtype_stop ?_)
  exact wpAny_pure (hQ _ he')
def Itet (K : PySem.W.Frag) (a : Addr) : It :=
  ⟨fun i H => ∃ (xs : List V) (x : V), SqT K H a xs ∧ xs[i]? = some x, fun i H v H' => ∃ T x ob, v = .ref T ∧ H T = none ∧ H' = upd H T (.frz ob (.tup [.int (i : Nat), x])) ∧ ob.dict = none ∧ ob.cls = .type "tuple" ∧ ∀ xs, SqT K H a xs → xs[i]? = some x, fun i H => ∃ xs : List V, SqT K H a xs ∧ xs.length ≤ i⟩
theorem turn_enumT {P : Program} {w : World} {K : PySem.W.Frag} {elts : List Expr} {kk : Nat} {tpos : Pos} (a e it : Addr) :
    Turn P w K (.Tuple elts kk tpos) (Itet K a) [e, it] e (fun i h => (∃ old, IsEnum h e it ((i : Nat) : Int) old) ∧ h.IsTupleIter it a i ∧ e ≠ it) where
  mem := by simp
  obj := fun i h st b hb => by
    obtain ⟨⟨old, he⟩, ⟨o, ho, hc, hd⟩, _⟩ := st
    have e' : b = e ∨ b = it := by simpa using hb
    rcases e' with z | z
    · rw [z]; exact ⟨_, he, fun v q => nomatch q⟩
    · rw [z]; exact ⟨o, ho, fun v q => by rw [hd] at q; cases q⟩
  keep := fun i h h' st k => let ⟨⟨old, he⟩, hi, hne⟩ := st; ⟨⟨old, k e (by simp) _ he⟩, hi.at fun o q => k it (by simp) o q, hne⟩
  item := by
    intro X hP hw hK hc i pins s σ H E I hf st hg
    subst hP hw hK
    obtain ⟨⟨old, he⟩, hit, hne⟩ := st
    obtain ⟨xs, x, hq, hx⟩ := hg
    obtain ⟨its, rv, p, hz⟩ := I.tuple hq
    obtain ⟨u, hu, ru⟩ := rv.get hx
    have p' : s.heap.IsTuple a its.toArray := p
    have hel : e < s.heap.objs.size := Heap.lt_size he
    have hil : it < s.heap.objs.size := by obtain ⟨_, q, _⟩ := hit; exact Heap.lt_size q
    have hai : a ≠ it := by
      rintro rfl
      obtain ⟨o1, k1, k2, _⟩ := hit
      obtain ⟨o2, j1, j2, _⟩ := p'
      rw [k1] at j1; cases j1
      rw [k2] at j2; exact absurd j2 (by decide)
    have hea : e ≠ a := by
      rintro rfl
      obtain ⟨o2, j1, j2, _⟩ := p'
      have he' := he
      unfold IsEnum at he'
      rw [he'] at j1; cases j1
      have j3 : Value.type "enumerate" = Value.type "tuple" := j2
      exact absurd j3 (by decide)
    have hlt : i < its.toArray.size := by
      have := (List.getElem?_eq_some_iff.mp hu).1
      simpa using this
    refine wpAny_pyNext_enum_itemD (Draws.tuple (A := X.A.in1) (I.ok.hd hc) it a hai its.toArray) he ⟨hit, p'⟩ hlt hne (by simp [hne, hea]) fun u2 h' tk hPx ho hst' hT hsz hk => ?_
    have hu2 : u2 = u := by
      have hPx : its.toArray[i]? = some u2 := hPx
      simp only [List.getElem?_toArray] at hPx
      rw [hu] at hPx; cases hPx; rfl
    subst hu2
    refine ⟨_, rfl, wpAny_letOwnedTupleGo_enum (s := { s with heap := h', toks := tk + 1 }) ho fun h'' he' sb => ?_⟩
    have hT2 : h''.get? s.heap.objs.size = some { cls := .type "tuple", data := .seq #[.int i tk, u2] } := (sb.2 _ (Nat.ne_of_gt hel)).trans hT
    have new : ObjOk X.prog X.w (upd H s.heap.objs.size (.frz { cls := .type "tuple", data := .seq #[.int i tk, u2] } (.tup [.int (i : Nat), x]))) h'' s.heap.objs.size (.frz { cls := .type "tuple", data := .seq #[.int i tk, u2] } (.tup [.int (i : Nat), x])) :=
      ⟨hT2, by show 2 ≤ sizeLine; decide, [.int i tk, u2], .cons ⟨_, rfl⟩ (.cons ru .nil), ⟨_, hT2, rfl, _, rfl⟩⟩
    have I1 : Inv X pins σ (upd H s.heap.objs.size (.frz { cls := .type "tuple", data := .seq #[.int i tk, u2] } (.tup [.int (i : Nat), x]))) { s with heap := h'', toks := tk + 1 } :=
      I.turnedNew (ch := [e, it]) (fun b ob hb q => (sb.2 b (fun z => hb (by simp [z]))).trans (hk b ob (fun z => hb (by simp [z])) (fun z => hb (by simp [z])) q)) hf (Nat.le_refl _) new
    refine ⟨.ref s.heap.objs.size, _, I1, rfl, ⟨_, x, _, rfl, I.hok.fresh (Nat.le_refl _), rfl, rfl, rfl, fun ys hy => by rw [I.tuple_inj hy hq]; exact hx⟩, ⟨⟨u2, ?_⟩, hst'.1.at fun o q => (sb.2 it (Ne.symm hne)).trans q, hne⟩, fun b hb => ?_⟩
    · have e1 : ((i + 1 : Nat) : Int) = (i : Int) + 1 := by omega
      rw [e1]; exact he'
    · have hb' : b < s.heap.objs.size := by
        have e' : b = e ∨ b = it := by simpa using hb
        rcases e' with z | z
        · rw [z]; exact hel
        · rw [z]; exact hil
      rw [upd_ne (Nat.ne_of_lt hb')]
      exact (hf b hb).1
  done := by
    intro X hP hw hK hc i pins s σ H E I hf st hg
    subst hP hw hK
    obtain ⟨⟨old, he⟩, hit, hne⟩ := st
    obtain ⟨xs, hq, hx⟩ := hg
    obtain ⟨its, rv, p, hz⟩ := I.tuple hq
    obtain ⟨f0, f1, f2, f3, f4, f5⟩ := hf it (by simp)
    have hl := rv.length
    have p' : s.heap.IsTuple a its.toArray := p
    have hai : a ≠ it := by
      rintro rfl
      obtain ⟨o1, k1, k2, _⟩ := hit
      obtain ⟨o2, j1, j2, _⟩ := p'
      rw [k1] at j1; cases j1
      rw [k2] at j2; exact absurd j2 (by decide)
    exact enum_doneT (I.ok.hd hc) hai he hit p' (by simp; omega) fun h' eb => ⟨rfl, I.turned (t' := s.toks) (fun b o hb q => eb b o hb q) f0 f1 f3 f4 f5⟩
  self := fun A i s Q E st h => let ⟨⟨_, he⟩, _⟩ := st; wpAny_pyIter_enum he h

def iEnumT (K : PySem.W.Frag) (ta : TA) : TI := fun σ H R => ta σ H fun vs H1 => ∃ a xs, vs = [.ref a] ∧ SqT K H1 a xs ∧ R (Itet K a) H1
theorem pi_enumT {X : Cx} {e : Expr} {ta : TA} {p pos tpos : Pos} {elts : List Expr} {kk : Nat} (hg : Gl X "enumerate") (hm : X.mg "enumerate" = none) (ha : PA X [e] ta) (hs : starEach [e] X.env = [(false, eval e X.env)] := by rfl) :
    PI X (.Tuple elts kk tpos) (.Call (.Name "enumerate" p) [e] [] pos) (iEnumT X.K ta) := by
  refine ⟨fun pins s σ H R I h => ?_⟩
  refine Call_ (ld_blt I hg hm boot_enumerate (PyProof.Rows.callWith_type1 (thn (ha.run pos pins s σ H _ I h) fun us s1 ⟨vs, H1, I1, r1, q1⟩ => ?_) hs rfl))
  obtain ⟨a, xs, ex, hq, q⟩ := q1
  subst ex
  cases r1 with
  | cons r rr =>
    cases rr
    cases r
    obtain ⟨its, rv, p', hz⟩ := I1.tuple hq
    refine call_enumT (items := its.toArray) p' fun h' he hit hsz hk => wpAny_pyIter_enum he ?_
    have I2 : Inv X pins σ H1 { s1 with heap := h' } := I1.kept (t' := s1.toks) hk
    refine ⟨s1.heap.objs.size + 1, [s1.heap.objs.size + 1, s1.heap.objs.size], _, _, H1, rfl, I2, turn_enumT a (s1.heap.objs.size + 1) s1.heap.objs.size, ⟨⟨.none, he⟩, hit, Nat.succ_ne_self _⟩, fun b hb => ?_, q⟩
    have e' : b = s1.heap.objs.size + 1 ∨ b = s1.heap.objs.size := by simpa using hb
    have hle : s1.heap.objs.size ≤ b := by
      rcases e' with z | z
      · rw [z]; exact Nat.le_add_right _ _
      · rw [z]; exact Nat.le_refl _
    exact I1.fpOk hle (I1.hok.fresh hle)
def enumL (l : List D) : List D := l.zipIdx.map fun p => .tup [.int (p.2 : Nat), p.1]
def enumF : List D → Option (List D)
  | [.tup l] => if fzL l = true then some (enumL l) else none
  | _ => none
theorem enum_w {G : Gm} {W : WX} {σ : L2.St} {H : Hp} {R : It → Hp → Prop} {ma : EM (List Arg)} (h : tI G W (mIt ma enumF) σ H R) : iEnumT G.C.K (tArgs G W ma) σ H R := it_of h fun b ds vs l ok ps hf q => by
  match ds, hf with
  | [.tup l0], hf =>
    simp only [enumF] at hf
    split at hf
    · rename_i z; cases hf
      obtain ⟨v, rfl, r1, p1⟩ := one_rep ps
      have p1' := p1
      simp only [Rep] at p1'
      obtain ⟨y, vs, rfl, hy, hl⟩ := p1'
      refine ⟨y, vs, rfl, sqt_mono ok.sub hy.sq, q _ fun c okc st => ?_⟩
      have hc : SqT G.C.K c.H y vs := sqt_mono (fun y o h => okc.sub _ _ (st.f ok h)) hy.sq
      refine ⟨fun i d e => ?_, ⟨vs, hc, by rw [hl.len]; simp [enumL]⟩⟩
      unfold enumL at e
      rw [List.getElem?_map, List.getElem?_zipIdx] at e
      cases e0 : l0[i]? with
      | none => rw [e0] at e; cases e
      | some d0 =>
        rw [e0] at e
        simp only [Option.map_some, Option.some.injEq, Nat.zero_add] at e
        subst e
        obtain ⟨v, h1, h2⟩ := hl.get e0
        refine ⟨⟨vs, v, hc, h1⟩, fun x H' yl => ?_⟩
        obtain ⟨T, x', ob, rfl, hT, rfl, o1, o2, q2⟩ := yl
        have e2 := q2 vs hc
        rw [h1] at e2; cases e2
        obtain ⟨gr, ok'⟩ := grow_f (o := .frz ob (.tup [.int (i : Nat), v])) okc hT
        refine ⟨_, rfl, gr, ok', ?_⟩
        simp only [Rep]
        refine ⟨T, [.int (i : Nat), v], rfl, .inl ⟨ob, upd_same, o1, o2⟩, ?_⟩
        have z0 := fzL_mem z d0 (List.mem_of_getElem? e0)
        have h3 := h2.step (s := 0) (q := [0]) ok st z0
        exact ⟨.int (i : Nat), [v], by simp, by simp [Rep], v, [], rfl, Rep.fz (fun x o h => gr.f okc h) d0 _ _ v z0 h3, by simp [RepL]⟩
    · cases hf
theorem ri_enum {X : Cx} {G : Gm} {W : WX} {a : Expr} {mas : EM (List Arg)} {pos p tpos : Pos} {elts : List Expr} {kk : Nat} (s : St0 X G) (h1 : G.C.mg "enumerate" = none) (hg : Gl X "enumerate") (ha : PA X [a] (tArgs G W mas)) (hs : starEach [a] X.env = [(false, eval a X.env)] := by rfl) : PI X (.Tuple elts kk tpos) (.Call (.Name "enumerate" p) [a] [] pos) (tI G W (mIt mas enumF)) :=
  (pi_enumT hg (by rw [s.m]; exact h1) ha hs).weak fun _ _ _ q => by
    have := enum_w q
    rw [s.k]; exact this
end Mi
namespace Mi
open PySem PySem.Spec PyProof.Rows L2
/-! ### rows for simp and a pure law: two generators -/
def kL2 (t : Tgt) (cond : EM Bool) (ma1 : EM Arg) (t1 : Tgt) (cond1 : EM Bool) (elt : EM D) (own own1 : List Nat) : List D × EnvD → Res (D × EnvD) := fun (ds, e) => if fzL ds = true then (loopL2 t cond ma1 t1 cond1 elt own own1 ds [] e).bind (kLc2 e own) else .bad
@[simp] theorem e_lc2 {mi : EM (List D)} {t t1 : Tgt} {cond cond1 : EM Bool} {ma1 : EM Arg} {elt : EM D} {own own1 : List Nat} {env : EnvD} : mLc2 mi t cond ma1 t1 cond1 elt own own1 env = (mi env).bind (kL2 t cond ma1 t1 cond1 elt own own1) := rfl
theorem loop2_pure {k k1 : Nat} (hkk : k ≠ k1) {ma1 : EM Arg} {cond1 : EM Bool} {elt : EM D} {f : D → D → D} {p : D → D → Bool} {ds1 : List D} {e0 : EnvD} (h0 : e0.set k none = e0) (h1 : e0.set k1 none = e0) : ∀ (ds acc : List D) (e : EnvD), wipeE e [k, k1] = e0 → acc.length + ds.length * ds1.length ≤ 100000 →
    (∀ d ∈ ds, ∃ x, ma1 (e0.set k (some d)) = .ok (x, e0.set k (some d)) ∧ (x.get (e0.set k (some d))).bind seq2 = some ds1) →
    (∀ d ∈ ds, ∀ d1 ∈ ds1, cond1 ((e0.set k (some d)).set k1 (some d1)) = .ok (p d d1, (e0.set k (some d)).set k1 (some d1))) →
    (∀ d ∈ ds, ∀ d1 ∈ ds1, p d d1 = true → elt ((e0.set k (some d)).set k1 (some d1)) = .ok (f d d1, (e0.set k (some d)).set k1 (some d1))) →
    ∃ e', loopL2 (.nm k) mYes ma1 (.nm k1) cond1 elt [k, k1] [k1] ds acc e = .ok (acc ++ ds.flatMap (fun d => (ds1.filter (p d)).map fun d1 => frzQ (f d d1)), e') ∧ wipeE e' [k, k1] = e0
  | [], acc, e, he, _, _, _, _ => ⟨e, by simp [loopL2], he⟩
  | d :: ds, acc, e, he, hl, hm, hc, hf => by
    obtain ⟨x, m1, m2⟩ := hm d List.mem_cons_self
    have hs1 : (e0.set k (some d)).set k1 none = e0.set k (some d) := by rw [List.set_comm _ _ hkk, h1]
    have hlen : (d :: ds).length * ds1.length = ds1.length + ds.length * ds1.length := by rw [List.length_cons, Nat.succ_mul, Nat.add_comm]
    rw [hlen] at hl
    obtain ⟨e1, g1, g2⟩ := loop_pure (k := k1) (cond := cond1) (elt := elt) (f := f d) (p := p d) (e0 := e0.set k (some d)) hs1 ds1 acc (e0.set k (some d)) hs1 (hc d List.mem_cons_self) (hf d List.mem_cons_self)
    have w1 : wipeE e1 [k, k1] = e0 := by
      show (e1.set k1 none).set k none = e0
      rw [g2, List.set_set, h0]
    have la : (acc ++ (ds1.filter (p d)).map fun d1 => frzQ (f d d1)).length + ds.length * ds1.length ≤ 100000 := by
      have := List.length_filter_le (p d) ds1
      rw [List.length_append, List.length_map]; omega
    obtain ⟨e', j1, j2⟩ := loop2_pure hkk h0 h1 ds _ e1 w1 la (fun d hd => hm d (List.mem_cons_of_mem _ hd)) (fun d hd => hc d (List.mem_cons_of_mem _ hd)) (fun d hd => hf d (List.mem_cons_of_mem _ hd))
    refine ⟨e', ?_, j2⟩
    simp only [loopL2, he, tg_nm, e_yes, m1, m2]
    rw [if_pos (by omega), g1]
    simp only [bind_ok]
    rw [j1]
    simp
theorem lc2_pure {k k1 : Nat} (hkk : k ≠ k1) {ma1 : EM Arg} {cond1 : EM Bool} {elt : EM D} (f : D → D → D) (p : D → D → Bool) (ds1 : List D) {e : EnvD} {ds : List D} (hz : fzL ds = true) (hl : ds.length * ds1.length ≤ 100000)
    (hm : ∀ d ∈ ds, ∃ x, ma1 ((e.set k1 none).set k (some d)) = .ok (x, (e.set k1 none).set k (some d)) ∧ (x.get ((e.set k1 none).set k (some d))).bind seq2 = some ds1)
    (hc : ∀ d ∈ ds, ∀ d1 ∈ ds1, cond1 ((e.set k (some d)).set k1 (some d1)) = .ok (p d d1, (e.set k (some d)).set k1 (some d1)))
    (hf : ∀ d ∈ ds, ∀ d1 ∈ ds1, p d d1 = true → elt ((e.set k (some d)).set k1 (some d1)) = .ok (f d d1, (e.set k (some d)).set k1 (some d1))) :
    kL2 (.nm k) mYes ma1 (.nm k1) cond1 elt [k, k1] [k1] (ds, e) = .ok (.lst true (ds.flatMap (fun d => (ds1.filter (p d)).map fun d1 => frzQ (f d d1))), (e.set k1 (restV e k1)).set k (restV e k)) := by
  have a1 : ∀ d, ((e.set k1 none).set k none).set k (some d) = (e.set k1 none).set k (some d) := fun d => by rw [List.set_set]
  have a2 : ∀ d d1, (((e.set k1 none).set k none).set k (some d)).set k1 (some d1) = (e.set k (some d)).set k1 (some d1) := fun d d1 => by
    rw [List.set_set, List.set_comm _ _ hkk.symm, List.set_set]
  obtain ⟨e', j1, j2⟩ := loop2_pure (ma1 := ma1) (cond1 := cond1) (elt := elt) (f := f) (p := p) (ds1 := ds1) (e0 := (e.set k1 none).set k none) hkk (by rw [List.set_set]) (by rw [List.set_comm _ _ hkk, List.set_set]) ds [] e rfl (by simpa using hl)
    (fun d hd => by rw [a1]; exact hm d hd) (fun d hd d1 h1 => by rw [a2]; exact hc d hd d1 h1) (fun d hd d1 h1 => by rw [a2]; exact hf d hd d1 h1)
  show (if fzL ds = true then _ else _) = _
  rw [if_pos hz, j1]
  simp only [bind_ok, kLc2_ok, List.nil_append, restE]
  have j2 : (e'.set k1 none).set k none = (e.set k1 none).set k none := j2
  have r : ∀ (a : EnvD) (x y : Option D), (((a.set k1 none).set k none).set k1 x).set k y = (a.set k1 x).set k y := fun a x y => by
    rw [List.set_comm none x hkk, List.set_set, List.set_set]
  rw [← r e', j2, r e]
end Mi
namespace Mi
open PySem PySem.Spec PyProof.Rows L2
/-! ### dict.copy, list.index, in of a list of tuples, the comprehension over the empty dict -/
theorem upd_id {H : Hp} {x : Addr} {o : HO} (h : H x = some o) : upd H x o = H := by
  funext b
  unfold upd
  split
  · rename_i e; rw [e, h]
  · rfl
theorem mt_copy {X : Cx} : MtR X "dict.copy" (fun x vs H Q => ∃ (a : Addr) (kvs : List (Key × V)), x = .ref a ∧ vs = [] ∧ H a = some (.dK kvs) ∧ ∀ p, H p = none → Q (.ref p) (upd H p (.dK kvs))) := by
  intro pins s σ H x xs v us Q I rx rxs h
  obtain ⟨a, kvs, rfl, rfl, hd, q⟩ := h
  cases rx
  cases rxs
  obtain ⟨z, hs, vs, rel, dd⟩ := (show ObjOk X.prog X.w H s.heap a (.dK kvs) from I.hok a _ hd)
  have hm : (s.heap.objs.size == sysModules) = false := beq_eq_false_iff_ne.mpr (Nat.ne_of_gt I.big)
  exact call_meetsIn PySem.F.slot_dict_copy dd.typeIs PySem.F.entry_dict_copy (PySem.F.args_dict_copy_1 _) (meets_dict_copy (mixKind X.prog X.w) a hs) ⟨vs, dd, by rw [← rel.length]; exact z, fun h' d' _ hk =>
    ⟨.ref s.heap.objs.size, upd H s.heap.objs.size (.dK kvs), I.laid (t' := s.toks) hk (Nat.le_refl _) (show ObjOk X.prog X.w _ _ _ (.dK kvs) from ⟨z, hm, vs, rel, d'⟩), rfl, q _ (I.hok.fresh (Nat.le_refl _))⟩⟩
def copyD : D → Option D
  | .dic _ ks ws => if fzL ks = true ∧ fzL ws = true then some (.dic true ks ws) else none
  | _ => none
section
variable {X : Cx} {G : Gm} {W : WX} {lv : Nat} {a b e o : Expr} {es : List Expr} {ma mb : EM Arg} {mas : EM (List Arg)} {m : EM D} {apos cpos p pos : Pos} {x : Str}
theorem r_copy (s : St0 X G) (ha : PE X e (tArg G W ma)) (hbase : attributeBase e "copy" X.env (eval e X.env) = eval e X.env := by rfl) (hline : (apos.endLine == cpos.line) = true := by rfl) :
    PE X (.Call (.Attribute e "copy" apos) [] [] cpos) (tE G W (mUn copyD ma)) :=
  (pe_bm0 PySem.F.plainAttrs_dict PySem.F.slot_dict_copy PySem.F.type_dict_copy mt_copy ha hbase hline).weak fun σ H Q q => by
    obtain ⟨a, env, rfl, rel, post⟩ := q
    refine tArg_of rel post fun x e b v st r ar p => ?_
    dsimp only at p
    cases hx : x.get e with
    | none => rw [hx] at p; exact (show False from p).elim
    | some d =>
      rw [hx] at p
      dsimp only at p
      obtain ⟨d', hd, k'⟩ := p.lift r
      obtain ⟨r1, p1⟩ := ar.rep r hx
      match d, hd, p1 with
      | .dic o ks ws, hd, p1 =>
        simp only [copyD] at hd
        split at hd
        · rename_i z; cases hd
          obtain ⟨y, u, kv, vs, rfl, h1, h2, h3, h4, h5⟩ := rep_dic r.ok p1
          cases h2
          rename_i kvs
          exact ⟨.inr (.inr (.inl ⟨rfl, .inl ⟨_, h1⟩⟩)), y, kvs, rfl, rfl, h1, new_dic r.ok z.1 z.2 h4 h5 fun z c gr ok rp => k' c gr ok z rp⟩
        · cases hd
end
def idxF (l ds : List D) : Option (D × List D) := match ds with
  | [.str s] => match strsOf l with
    | some ys => if s ∈ ys then some (.int (ys.idxOf s : Nat), l) else none
    | none => none
  | _ => none
theorem met_idx {C : KM} : MetOk C (rIndex C.K) idxF := fun a x vs us l ds d l' n s p Q k hx hl ps hf q => by
  match ds, hf, ps with
  | [.str z], hf, ps =>
    simp only [idxF] at hf
    cases hy : strsOf l with
    | none => rw [hy] at hf; cases hf
    | some ys =>
      rw [hy] at hf
      dsimp only at hf
      split at hf
      · rename_i hm; cases hf
        obtain ⟨u, rfl, ru, hu⟩ := one_rep ps
        cases rep_str hu
        have hv := strs_rep hy hl
        subst hv
        have hlt : ys.idxOf z < ys.length := List.idxOf_lt_length_iff.mpr hm
        have hz : fzL l = true := by
          have : ∀ (l : List D) (ys : List Str), strsOf l = some ys → l = ys.map .str := by
            intro l
            induction l with
            | nil => intro ys h; cases h; rfl
            | cons d l ih =>
              intro ys h
              cases d <;> simp only [strsOf] at h <;> (try (cases h; done))
              rename_i s
              cases e : strsOf l with
              | none => rw [e] at h; cases h
              | some zs => rw [e] at h; cases h; rw [ih zs e]; rfl
          rw [this l ys hy]
          exact fzL_strs ys
        refine ⟨x, ys.map V.str, .str z, ys.idxOf z, .str z, rfl, rfl, SqL.of hx, rfl, by rw [List.all_map, List.all_eq_true]; intro _ _; rfl, ?_, ?_, fun m z' hmj hz' => ?_, ?_⟩
        · rw [List.getElem?_map, List.getElem?_eq_getElem hlt, List.getElem_idxOf hlt]; rfl
        · simp [eqV]
        · rw [List.getElem?_map] at hz'
          have hml : m < ys.length := by omega
          rw [List.getElem?_eq_getElem hml] at hz'
          cases hz'
          have hne := List.not_of_lt_findIdx (p := (· == z)) (xs := ys) (i := m) hmj
          simp [eqV]
          simpa using hne
        · have := q (.int (ys.idxOf z : Nat)) (ys.map V.str) s n p hz hl ⟨0, [], by simp [fz], by simp [Rep]⟩
          rw [upd_id hx] at this
          exact this
      · cases hf
section
variable {X : Cx} {G : Gm} {W : WX} {lv : Nat} {a b e o : Expr} {es : List Expr} {ma mb : EM Arg} {mas : EM (List Arg)} {m : EM D} {apos cpos p pos : Pos} {x : Str}
theorem r_index (s : St0 X G) (j : Nat) (hN : X.N[j]? = some x) (hv : Vis X.env.scope x) (ha : PA X [e] (tArgs G W mas)) (hd : (x == ("__debug__" : Str)) = false := by decide) (hcd : (x == ("__classdict__" : Str)) = false := by decide)
    (hbase : attributeBase (.Name x p) "index" X.env (eval (.Name x p) X.env) = eval (.Name x p) X.env := by rfl) (hfew : ((backTo cpos (starEach [e] X.env)).all (fun x => !x.1) && (backToKw cpos (keywordEach [] X.env)).all (fun x => x.1.isSome)
      && decide ([e].length + ([] : List Keyword).length + (if ([] : List Keyword).isEmpty then 0 else 1) < 30)) = true := by rfl) (hline : (apos.endLine == cpos.line) = true := by rfl) (hs : starEach [e] X.env = (false, eval e X.env) :: starEach [] X.env := by rfl) (hplain : (backTo cpos (starEach [] X.env)).any (·.1) = false := by rfl) :
    PE X (.Call (.Attribute (.Name x p) "index" apos) [e] [] cpos) (tE G W (mMet j mas idxF)) :=
  (pe_bm PySem.F.plainAttrs_list PySem.F.slot_list_index PySem.F.type_list_index mt_index (pe_var hN hv hd hcd) ha hbase hfew hline hs hplain).weak fun _ _ _ q => by
    have := met_w met_idx q
    rw [s.k]; exact this
end
def inXD (d e : D) : Option D := match inQ d e with
  | some b => some (.bl b)
  | none => match e with
    | .lst _ l => if okP 63 d = true ∧ okPL 62 l = true then some (.bl ((toPL l).any fun z => PyData.eqv z (toP d))) else none
    | _ => none
theorem op_inX {X : Cx} {C : KM} (hC : C.K = X.K) (hu : X.A.units + 65 < cLine) : OpR X (compareOp .In) (rD C inXD) := by
  intro pins s σ H x y v u Q I rx ry h
  obtain ⟨a, d1, d2, r1, r2, d, rfl, k, p1, p2, hd, q⟩ := h
  unfold inXD at hd
  cases hi : inQ d1 d2 with
  | some b =>
    rw [hi] at hd
    exact Mi.op_inD hC (by omega) pins s σ a.H x y v u Q I rx ry ⟨a, d1, d2, r1, r2, d, rfl, k, p1, p2, by rw [← hd]; simp [inD, hi], q⟩
  | none =>
    rw [hi] at hd
    dsimp only at hd
    split at hd
    · rename_i o l
      split at hd
      · rename_i z; cases hd
        obtain ⟨s1, s2⟩ := okP_shape d1 63 z.1
        have z2 : okP 63 (.lst o l) = true := by simpa [okP] using z.2
        obtain ⟨s3, s4⟩ := okP_shape (.lst o l) 63 z2
        refine L2.op_inD hu pins s σ a.H _ _ v u Q I rx ry ⟨toP d1, toPL l, ?_, ?_, by simp [SeqAt.shaped, s1]; omega, by have s3' : PyData.canLay0 (.list (toPL l)) = true := s3; have s4' : (PyData.list (toPL l)).depth ≤ 63 := s4; simp [SeqAt.shaped, s3']; omega, q _ a (Grow.refl a) k rep_ofbl⟩
        · rw [← hC]; exact okP_dp k d1 63 _ _ _ z.1 p1
        · rw [← hC]; exact okP_dp k (.lst o l) 63 _ _ _ z2 p2
      · cases hd
    · cases hd
section
variable {X : Cx} {G : Gm} {W : WX} {a b : Expr} {ma mb : EM Arg} {pos : Pos}
theorem r_inX (s : St0 X G) (hu : X.A.units + 65 < cLine) (ha : PE X a (tArg G W ma)) (hb : PE X b (tArg G W mb)) (hm : behindInMarks .In b = false := by first | rfl | exact nobehind _ (by decide) (by decide)) : PE X (.Compare a [.In] [b] pos) (tE G W (mBin inXD ma mb)) :=
  (pe_cmpR (op_inX s.k.symm hu) ha hb hm).weak fun _ _ _ q => bin_w q
end
end Mi
namespace Mi
open PySem PySem.Spec PyProof.Rows L2
/-! ### the comprehension over the empty dict of a slot -/
def mLcE (j : Nat) : EM D := fun env => match env[j]? with
  | some (some (.dic _ [] [])) => .ok (.lst true [], env)
  | _ => .bad
theorem lcE_w {G : Gm} {W : WX} {σ : L2.St} {H : Hp} {Q : VK} {j : Nat} {g : TG} {tt : TT} {te : TE} {own : List Nat} (h : tE G W (mLcE j) σ H Q) : tLockE (tLc (iKeys (tVar j)) g tt te own) σ H Q := by
  obtain ⟨a, env, rfl, rel, post⟩ := h
  unfold mLcE at post
  split at post
  · rename_i o hj
    obtain ⟨v, e1, rp⟩ := rel.slot j _ hj
    obtain ⟨x, u, kv, vs, rfl, h1, h2, h3, h4, h5⟩ := rep_dic rel.ok rp
    cases h2
    rename_i kvs
    have hk : kvs = [] := by
      have := h4.len
      simp at this
      exact this
    subst hk
    refine ⟨x, .dK [], h1, True.intro, fun od => ⟨.ref x, e1, x, od, rfl, .inl ⟨[], upd_same, fun A hA => ?_⟩⟩⟩
    have ne : A ≠ x := by rintro rfl; rw [upd_same] at hA; cases hA
    rw [upd_ne ne] at hA
    refine ⟨fun i m H => i = 0 ∧ H = upd (upd a.H x (.frz od (.dK []))) A (.lst []), ⟨0, rfl, rfl⟩, ?_⟩
    rintro i m H ⟨rfl, rfl⟩
    have hx : (upd (upd a.H x (.frz od (.dK []))) A (.lst [])) x = some (.frz od (.dK [])) := by rw [upd_ne (Ne.symm ne), upd_same]
    refine .inl ⟨⟨hx, Nat.le_refl _⟩, hx, ?_⟩
    have e2 : upd (upd (upd a.H x (.frz od (.dK []))) A (.lst [])) x (.dK []) = upd a.H A (.lst []) := by
      funext y
      by_cases q1 : y = x
      · subst q1; rw [upd_same, upd_ne (Ne.symm ne), h1]
      · rw [upd_ne q1]
        by_cases q2 : y = A
        · subst q2; rw [upd_same, upd_same]
        · rw [upd_ne q2, upd_ne q2, upd_ne q1]
    rw [e2]
    exact new_lst (C := G.C) (r := 0) (p := []) (n := 0) (l := []) (vs := []) rel.ok rfl (by simp [RepL]) (fun z c gr ok rp => post c gr.step (rel.grow gr ok) z rp) A hA
  · exact (show False from post).elim
section
variable {X : Cx} {G : Gm} {W : WX} {lv : Nat} {tg : Expr} {m : EM D} {mt : EM Bool} {pos p : Pos} {x : Str}
theorem r_lcE {elt : Expr} {ifs : List Expr} {scope : Scope} (s : Go X G W lv) (j : Nat) (own : List (Str × Nat)) (t : Tgt) (hN : X.N[j]? = some x) (hv : Vis X.env.scope x) (ok : BlkOk X.N X.env.scope scope own)
    (hg : ∀ (s : Shared) (H : Hp) (C : Addr) (cl : List (Str × Addr)) (fp : List Addr), PG (X.blk s H scope (compEnvC scope cl C X.env) fp) tg (gT G.C.K t))
    (ht : ∀ (s : Shared) (H : Hp) (C : Addr) (cl : List (Str × Addr)) (fp : List Addr), Go (X.blk s H scope (compEnvC scope cl C X.env) fp) G W0 lv → PTs (X.blk s H scope (compEnvC scope cl C X.env) fp) ifs (tT G W0 mt))
    (he : ∀ (s : Shared) (H : Hp) (C : Addr) (cl : List (Str × Addr)) (fp : List Addr), Go (X.blk s H scope (compEnvC scope cl C X.env) fp) G W0 lv → PE (X.blk s H scope (compEnvC scope cl C X.env) fp) elt (tE G W0 m)) (hd : (x == ("__debug__" : Str)) = false := by decide) (hcd : (x == ("__classdict__" : Str)) = false := by decide) (hs : ∀ y, foldedSetIterable (.Name x p) X.env y = pure y := by intro _; rfl) :
    PE X (.ListComp elt [⟨tg, .Name x p, ifs, 0⟩] scope pos) (tE G W (mLcE j)) :=
  (pe_lock (pe_lc s.cm s.n (pi_keys (pe_var hN hv hd hcd)) ok hg (fun s0 H C cl fp => ht s0 H C cl fp (s.blk ..)) (fun s0 H C cl fp => he s0 H C cl fp (s.blk ..)) hs)).weak fun _ _ _ q => lcE_w q
end
/-! rows for simp -/
def lcEV (env : EnvD) : Option (Option D) → Res (D × EnvD)
  | some (some (.dic _ [] [])) => .ok (.lst true [], env)
  | _ => .bad
@[simp] theorem e_lcE {j : Nat} {env : EnvD} : mLcE j env = lcEV env (env[j]?) := by
  unfold mLcE lcEV
  rcases env[j]? with _ | _ | d
  · rfl
  · rfl
  · cases d <;> first | rfl | (rename_i ks ws; cases ks <;> cases ws <;> rfl)
@[simp] theorem lcEV_ok {o : Bool} {env : EnvD} : lcEV env (some (some (.dic o [] []))) = .ok (.lst true [], env) := rfl
end Mi
namespace Mi
open PySem PySem.Spec PyProof.Rows L2
/-! ### == and != by an own __eq__ -/
def clsD : D → Option Str
  | .ins _ c _ _ => some c
  | _ => none
def bltD : D → Option String
  | .non => some "NoneType" | .bl _ => some "bool" | .int _ => some "int" | .str _ => some "str" | .tup _ => some "tuple" | .lst _ _ => some "list" | _ => none
def resB (neg : Bool) : Res (D × EnvD) → Option D
  | .ok (.bl b, _) => some (.bl (b != neg))
  | _ => none
def okRt (tab : List (Str × (List D → Res (D × EnvD)))) (y : D) : Bool := (tyD y).isSome || ((clsD y).bind fun c => List.lookup c tab).isSome
def eqOD (tab : List (Str × (List D → Res (D × EnvD)))) (neg : Bool) (x y : D) : Option D :=
  if fz x = true ∧ fz y = true then
    match clsD x with
    | some c => if okRt tab y = true then (tab.lookup c).bind fun g => resB neg (g [x, y]) else none
    | none => match neg, bltD x, clsD y with
      | false, some _, some c => (tab.lookup c).bind fun g => resB neg (g [y, x])
      | _, _, _ => none
  else none
theorem sub_blt {K : PySem.W.Frag} {C : Addr} : ∀ {d : D} {T : String}, tyD d = some T → PySem.W.subIn K (.type T) (.ref C) = some false := by
  intro d T h
  have key : T ∈ ["NoneType", "bool", "int", "str", "tuple", "list", "dict"] := by
    cases d <;> simp only [tyD] at h <;> (try (cases h; done)) <;> cases h <;> decide
  simp only [List.mem_cons, List.not_mem_nil, or_false] at key
  show (fastBuiltinMro T).map (·.contains (.ref C)) = some false
  rcases key with rfl | rfl | rfl | rfl | rfl | rfl | rfl <;> (
    first
      | (have e : fastBuiltinMro "NoneType" = some [.type "NoneType", .type "object"] := by decide +kernel
         rw [e]; simp)
      | (have e : fastBuiltinMro "bool" = some [.type "bool", .type "int", .type "object"] := by decide +kernel
         rw [e]; simp)
      | (have e : fastBuiltinMro "int" = some [.type "int", .type "object"] := by decide +kernel
         rw [e]; simp)
      | (have e : fastBuiltinMro "str" = some [.type "str", .type "object"] := by decide +kernel
         rw [e]; simp)
      | (have e : fastBuiltinMro "tuple" = some [.type "tuple", .type "object"] := by decide +kernel
         rw [e]; simp)
      | (have e : fastBuiltinMro "list" = some [.type "list", .type "object"] := by decide +kernel
         rw [e]; simp)
      | (have e : fastBuiltinMro "dict" = some [.type "dict", .type "object"] := by decide +kernel
         rw [e]; simp))
end Mi
namespace HE
open PySem PySem.Spec PyProof.Rows PySem.SeqAt PySem.W
section
variable {prog : Program} {w : World} {A : Around} {E : Value → Shared → Prop} {s : Shared} {K : Frag} {x C L f : Addr} {h₀ : Heap} {m : Str → Option Value} {ox : Obj} {od : Option Obj} {b tb : Value}
/- x != b, x an instance of a class with an own __eq__ and no own __ne__ -/
theorem ne_K {Q : Value → Shared → Prop} (hu : A.units + 1 < cLine) (X : K.In s.heap) (I : InstAt s.heap x ox C od) (hb : Looks (model prog w) s.heap (typeOf b) tb) (hn : notFirst K C tb = true)
    (hs : findIn K (.ref C) "__eq__" = some (some (.ref f))) (hf : isFn K (.ref f) = true) (hs2 : findIn K (.ref C) "__ne__" = some (some (.builtin "object.__ne__"))) (hm : mroIn K C (.type "object") = some true)
    (h : wpAny (model prog w) A.in1 (call (.ref f) [.ref x, b]) (fun v s' => ∃ r, v = .bool r ∧ Q (.bool (!r)) s') E s) : wpAny (model prog w) A (richCompare .NotEq (.ref x) b) Q E s := by
  have body : wpAny (model prog w) A.in1 (Builtin.«object.__ne__» ⟨[.ref x, b], []⟩) (fun fin s' => ∃ v, fin = .done (.ret v) ∧ ((∃ r, v = .bool r) ∧ Q v s')) E s := by
    show wpAny _ _ (cRoomFor "comparison" [.ref x, b] >>= _) _ _ s
    refine wpAny_bind (wpAny_cRoomFor (by show A.units + 1 < cLine; exact hu) ?_)
    refine wpAny_bind (ifBound_K X I hs hf (wpAny_mono h (fun v s' hv => ?_) fun _ _ e => e))
    obtain ⟨r, rfl, hq⟩ := hv
    refine wpAny_bind (wpAny_truthy_bool ?_)
    exact wpAny_pure ⟨_, rfl, ⟨_, rfl⟩, hq⟩
  have one : wpAny (model prog w) A (tryCompare (.ref x) "__ne__" b) (fun r s' => ∃ v, r = some v ∧ Q v s') E s := by
    have hc : wpAny (model prog w) A (call (.builtin "object.__ne__") [.ref x, b]) (fun v s' => (∃ r, v = .bool r) ∧ Q v s') E s :=
      wpAny_call (codeAny_call_builtin F.cmp_object.ne.plain F.cmpEntry_ne (check_slot F.cmpKind_ne F.cmpSplit_ne (I.type.andThen (looks_mroIn X hm)) (F.cmpArgs_ne _ _) (wpAny_mono body (fun fin s' h' => by obtain ⟨v, rfl, hv⟩ := h'; exact hv) fun _ _ h' => h')))
    unfold tryCompare
    refine wpAny_bind ?_
    simp only [callSpecialIfBound?, bindSpecialIfBound?]
    refine wpAny_holding (wpAny_bind (wpAny_bind (wpAny_bind (I.type.here ((looks_findIn X hs2).here ?_)))))
    refine wpAny_bind (wpAny_askSetting (wpAny_ite ?_))
    have fin : wpAny (model prog w) A (call (.builtin "object.__ne__") ([.ref x] ++ [b]) >>= fun v => pure (some v)) (fun r s' => wpAny (model prog w) A (match r with
      | some .notImplemented | none => pure none
      | some v => pure (some v)) (fun r s' => ∃ v, r = some v ∧ Q v s') E s') E s := wpAny_bind (wpAny_mono hc (fun v s' h' => by
        obtain ⟨⟨r, rfl⟩, hq⟩ := h'
        exact wpAny_pure (wpAny_pure ⟨_, rfl, hq⟩)) fun _ _ h' => h')
    split
    · exact wpAny_bind (wpAny_of_eq (F.cmp_object.ne.bind _) (wpAny_pure (by exact fin)))
    · exact wpAny_tryCatch (wpAny_bind (wpAny_of_eq (F.cmp_object.ne.bind _) (wpAny_pure (by exact fin))))
  unfold richCompare
  simp only [oneThing_ref]
  refine wpAny_holding (wpAny_bind (wpAny_cRoomFor (by omega) ?_))
  refine wpAny_bind (I.type.here (wpAny_bind (hb.here ?_)))
  split
  · rename_i q
    have e : subIn K tb (.ref C) = some false := by
      rcases Bool.or_eq_true_iff.mp hn with e | e
      · rw [beq_iff_eq.mp e] at q; simp at q
      · exact beq_iff_eq.mp e
    refine wpAny_bind ((looks_subIn X e).here ?_)
    simp only [Bool.false_eq_true, if_false]
    refine wpAny_bind (wpAny_mono one (fun r s' z => ?_) fun _ _ e => e)
    obtain ⟨v, rfl, hq⟩ := z
    exact wpAny_pure hq
  · refine wpAny_bind (wpAny_pure ?_)
    simp only [Bool.false_eq_true, if_false]
    refine wpAny_bind (wpAny_mono one (fun r s' z => ?_) fun _ _ e => e)
    obtain ⟨v, rfl, hq⟩ := z
    exact wpAny_pure hq
/- v == y where v is of a built-in type that declines -/
theorem eq_right {v : Value} {T : String} {Q : Value → Shared → Prop} (hu : A.units < cLine) (X : K.In s.heap) (I : InstAt s.heap x ox C od) (hT : s.TypeIs v T) (hm : mroIn K C (.type T) = some false)
    (hone : oneThing? .Eq v (.ref x) = none) (hd : wpAny (model prog w) A (tryCompare v "__eq__" (.ref x)) (fun r s' => r = none ∧ s' = s) E s)
    (hs : findIn K (.ref C) "__eq__" = some (some (.ref f))) (hf : isFn K (.ref f) = true)
    (h : wpAny (model prog w) A (call (.ref f) [.ref x, v]) (W.CmpBack Q) E s) : wpAny (model prog w) A (richCompare .Eq v (.ref x)) Q E s := by
  have one : wpAny (model prog w) A (tryCompare (.ref x) "__eq__" v) (fun r s' => ∃ v, r = some v ∧ Q v s') E s := by
    unfold tryCompare
    refine wpAny_bind (ifBound_K X I hs hf (wpAny_mono h (fun v s' hv => ?_) fun _ _ e => e))
    cases v <;> first | exact hv.elim | exact wpAny_pure ⟨_, rfl, hv⟩
  unfold richCompare
  simp only [hone]
  refine wpAny_holding (wpAny_bind (wpAny_cRoomFor hu ?_))
  refine wpAny_bind (wpAny_typeOf hT (wpAny_bind (I.type.here ?_)))
  split
  · refine wpAny_bind ((looks_mroIn X hm).here ?_)
    simp only [Bool.false_eq_true, if_false, Bool.not_false, if_true]
    refine wpAny_bind (wpAny_mono hd (fun r s' z => ?_) fun _ _ e => e)
    obtain ⟨rfl, rfl⟩ := z
    refine wpAny_bind (wpAny_mono one (fun r s' z => ?_) fun _ _ e => e)
    obtain ⟨v, rfl, hq⟩ := z
    exact wpAny_pure hq
  · rename_i q
    exact absurd (by simp) q
end
end HE
namespace Mi
end Mi
namespace Mi
open PySem PySem.Spec PyProof.Rows L2
end Mi
namespace HE
open PySem PySem.Spec PyProof.Rows PySem.SeqAt PySem.W
section
variable {prog : Program} {w : World} {A : Around} {E : Value → Shared → Prop} {s : Shared} {K : Frag} {x C dx : Addr} {od : Option Obj}
theorem not_inst {T : String} {Q : Bool → Shared → Prop} (X : K.In s.heap) (I : InstAt s.heap x (instObj C dx) C od) (hm : mroIn K C (.type T) = some false) (h : Q false s) : wpAny (model prog w) A (isInstance (.ref x) (.type T)) Q E s := by
  unfold isInstance
  exact wpAny_bind (I.type.here ((looks_mroIn X hm).here h))
theorem dec_tuple {a : Addr} (X : K.In s.heap) (I : InstAt s.heap x (instObj C dx) C od) (hm : mroIn K C (.type "tuple") = some false) (hT : s.TypeIs (.ref a) "tuple") :
    wpAny (model prog w) A (tryCompare (.ref a) "__eq__" (.ref x)) (fun r s' => r = none ∧ s' = s) E s := by
  refine wpAny_tryCompare_declines hT PySem.F.slot_tuple_eq (wpAny_call_entry PySem.F.slot_tuple_eq hT PySem.F.entry_tuple_eq ?_ (PySem.F.args_tuple_eq_2 _ _))
  show wpAny _ _ (isInstance (.ref x) (.type "tuple") >>= _) _ _ s
  refine wpAny_bind (not_inst X I hm ?_)
  simp only [Bool.not_false, if_true]
  exact wpAny_pure ⟨_, rfl, by simp⟩
theorem dec_list {a : Addr} (X : K.In s.heap) (I : InstAt s.heap x (instObj C dx) C od) (hm : mroIn K C (.type "list") = some false) (hT : s.TypeIs (.ref a) "list") :
    wpAny (model prog w) A (tryCompare (.ref a) "__eq__" (.ref x)) (fun r s' => r = none ∧ s' = s) E s := by
  refine wpAny_tryCompare_declines hT PySem.F.slot_list_eq (wpAny_call_entry PySem.F.slot_list_eq hT PySem.F.entry_list_eq ?_ (PySem.F.args_list_eq_2 _ _))
  show wpAny _ _ (isInstance (.ref x) (.type "list") >>= _) _ _ s
  refine wpAny_bind (not_inst X I hm ?_)
  simp only [Bool.not_false, if_true]
  exact wpAny_pure ⟨_, rfl, by simp⟩
theorem dec_str {t : Str} {k : Tok} (I : InstAt s.heap x (instObj C dx) C od) : wpAny (model prog w) A (tryCompare (.str t k) "__eq__" (.ref x)) (fun r s' => r = none ∧ s' = s) E s := by
  have hT : s.TypeIs (.str t k) "str" := rfl
  refine wpAny_tryCompare_declines hT PySem.F.slot_str_eq (wpAny_call_entry PySem.F.slot_str_eq hT PySem.F.entry_str_eq ?_ (PySem.F.args_str_eq_2 _ _))
  show wpAny _ _ (asStr? (.ref x) >>= _) _ _ s
  refine wpAny_bind ?_
  unfold asStr?
  refine wpAny_bind (wpAny_load I.at_ (wpAny_pure ?_))
  exact wpAny_bind (wpAny_rule (wpAny_pure ⟨_, rfl, rfl, rfl, rfl⟩))
theorem dec_int {i : Int} {k : Tok} (I : InstAt s.heap x (instObj C dx) C od) : wpAny (model prog w) A (tryCompare (.int i k) "__eq__" (.ref x)) (fun r s' => r = none ∧ s' = s) E s := by
  have hT : s.TypeIs (.int i k) "int" := rfl
  refine wpAny_tryCompare_declines hT PySem.F.slot_int_eq (wpAny_call_entry PySem.F.slot_int_eq hT PySem.F.entry_int_eq ?_ (PySem.F.args_int_eq_2 _ _))
  show wpAny _ _ (asInt? (.ref x) >>= _) _ _ s
  refine wpAny_bind ?_
  unfold asInt?
  refine wpAny_bind (wpAny_load I.at_ (wpAny_pure ?_))
  exact wpAny_bind (wpAny_rule (wpAny_pure ⟨_, rfl, rfl, rfl, rfl⟩))
theorem dec_bool {b : Bool} (I : InstAt s.heap x (instObj C dx) C od) : wpAny (model prog w) A (tryCompare (.bool b) "__eq__" (.ref x)) (fun r s' => r = none ∧ s' = s) E s := by
  have hT : s.TypeIs (.bool b) "bool" := rfl
  refine wpAny_tryCompare_declines hT PySem.F.slot_bool_eq (wpAny_call_entry PySem.F.slot_bool_eq hT PySem.F.entry_int_eq ?_ (PySem.F.args_int_eq_2 _ _))
  show wpAny _ _ (asInt? (.ref x) >>= _) _ _ s
  refine wpAny_bind ?_
  unfold asInt?
  refine wpAny_bind (wpAny_load I.at_ (wpAny_pure ?_))
  exact wpAny_bind (wpAny_rule (wpAny_pure ⟨_, rfl, rfl, rfl, rfl⟩))
theorem dec_none : wpAny (model prog w) A (tryCompare .none "__eq__" (.ref x)) (fun r s' => r = none ∧ s' = s) E s :=
  wpAny_tryCompare_declines (show s.TypeIs .none "NoneType" from rfl) PySem.F.slot_NoneType_eq_refl (call_gives PySem.F.slot_NoneType_eq_refl rfl PySem.F.entry_NoneType_eq (PySem.F.args_NoneType_eq_2 _ _) (NoneType___eq___none_ref_0 x) ⟨rfl, rfl, rfl⟩)
end
end HE
namespace Mi
open PySem PySem.Spec PyProof.Rows L2
/- a class with an own __eq__ -/
structure EqCls (C : KM) (k : Nat) (c : Str) (cs : List Str) (g : List D → Res (D × EnvD)) : Prop where
  ex : ∃ (u f : Addr) (fd : FuncData) (ps : List Str), C.mg c = some (.ref u) ∧ PySem.W.findIn C.K (.ref u) "__eq__" = some (some (.ref f)) ∧ PySem.W.isFn C.K (.ref f) = true ∧ PySem.W.findIn C.K (.ref u) "__ne__" = some (some (.builtin "object.__ne__")) ∧
    PySem.W.mroIn C.K u (.type "object") = some true ∧ (∀ T ∈ (["tuple", "list", "str", "int", "bool", "NoneType"] : List String), PySem.W.mroIn C.K u (.type T) = some false) ∧
    (∀ c' ∈ cs, ∃ u', C.mg c' = some (.ref u') ∧ (u' = u ∨ PySem.W.mroIn C.K u' (.ref u) = some false)) ∧ Binds C.K fd ps [] ∧
    ∀ base : Heap, C.K.In base → base.Ns mainGlobals C.mg → FnOk C.P C.w C.K C.mg base (L2.CX C.P C.w) k f fd ps (spD C g)
section
variable {X : Cx} {G : Gm} {W : WX} {lv j : Nat} {g : List D → Res (D × EnvD)}
theorem run_fnA {CX : CXT} {k : Nat} {f : Addr} {fd : FuncData} {ps : List Str} {sp : Sp} {E : L2.St → XK} {pins : List (Addr × Obj)} {σ : L2.St} {H : Hp} {s : Shared} {Q : VK} {us : List Value} {vs : List V} {A : Around} (hA : A.frames = X.A.frames) (F : FnOk X.prog X.w X.K X.mg X.base CX k f fd ps sp) (hr : Room k A) (hb : Binds X.K fd ps []) (hx : PassesAt CX X σ (E σ))
    (I : L2.Inv X pins σ H s) (r : Vals vs us) (h : sp vs H Q (E σ)) : wpAny (model X.prog X.w) A (call (.ref f) us) (EP X pins σ Q) X.xe s := by
  have hl : us.length = ps.length := by rw [← r.length]; exact F.len _ _ _ _ h
  have b := hb s us I.kIn (by rw [List.append_nil]; exact hl)
  rw [List.append_nil] at b
  have e0 : Env0 X.prog X.w X.K X.mg X.base A X.stack s H := by
    have e := I.env0
    exact ⟨by rw [hA]; exact e.frames, e.mod, e.bs, e.bsz, e.funs, e.frf, e.hok, e.bare⟩
  refine wpAny_call (codeAny_mono (F.run A X.stack s H ⟨us, []⟩ us vs Q (E σ) hr e0 b r h) fun r s' hq => ?_)
  cases r with
  | error e => exact hx pins H s e s' I hq
  | ok fl =>
    cases fl with
    | ret u => exact I.after hq
    | next => exact False.elim hq
    | brk => exact False.elim hq
    | cont => exact False.elim hq
/- the own == told of two frozen things, from a world of no tags -/
theorem eq_sp {C : KM} {c : Wd} {x y : V} {d1 d2 : D} {r1 r2 : Nat} {bb : Bool} {outs : EnvD} {r : Bool} {Q : VK} (ok : Ok c) (z1 : fz d1 = true) (z2 : fz d2 = true) (p1 : Rep C c r1 [] x d1) (p2 : Rep C c r2 [] y d2) (hg : g [d1, d2] = .ok (.bl bb, outs))
    (k : ∀ z b, Grow c b → Ok b → Rep C b 0 [] z (.bl r) → Q z b.H) : spD C g [x, y] c.H (fun z H' => z = .bl bb ∧ Q (.bl r) H') (fun _ _ _ => False) := by
  refine ⟨⟨c.F, c.H, fun _ => none⟩, [d1, d2], rfl, ⟨ok.sub, fun x t h => by cases h⟩, rfl, fun i d h => ?_, ?_⟩
  · match i, h with
    | 0, h => cases h; exact ⟨x, rfl, Rep.fz (a := c) (b := ⟨c.F, c.H, fun _ => none⟩) (fun _ _ h => h) d1 [] [] x z1 p1⟩
    | 1, h => cases h; exact ⟨y, rfl, Rep.fz (a := c) (b := ⟨c.F, c.H, fun _ => none⟩) (fun _ _ h => h) d2 [] [] y z2 p2⟩
  · rw [hg]
    dsimp only
    intro b v st okb ho rp
    cases rep_bl rp
    refine ⟨rfl, ?_⟩
    have st' : ∀ x o, c.H x = some o → b.H x = some o ∧ b.t x = none ∧ b.F x = c.F x := fun x o h => st x o h rfl
    have gr : Grow c ⟨b.F, b.H, c.t⟩ := ⟨fun x o h => ⟨(st' x o h).1, rfl, (st' x o h).2.2⟩⟩
    have ok2 : Ok ⟨b.F, b.H, c.t⟩ := ⟨okb.sub, fun x t h => by
      obtain ⟨h1, o, h2⟩ := ok.own x t h
      exact ⟨by show b.F x = none; rw [(st' x o h2).2.2]; exact h1, o, (st' x o h2).1⟩⟩
    exact k (.bl r) ⟨b.F, b.H, c.t⟩ gr ok2 (by simp [Rep])
theorem resB_ok {neg : Bool} {r : Res (D × EnvD)} {d : D} (h : resB neg r = some d) : ∃ b e, r = .ok (.bl b, e) ∧ d = .bl (b != neg) := by
  match r, h with
  | .ok (.bl b, e), h => cases h; exact ⟨b, e, rfl, rfl⟩
theorem clsD_ins {d : D} {c : Str} (h : clsD d = some c) : ∃ o ns ws, d = .ins o c ns ws := by
  cases d <;> simp only [clsD] at h <;> first | (cases h; done) | (cases h; exact ⟨_, _, _, rfl⟩)
theorem rep_insF {C : KM} {a : Wd} {r : Nat} {p : List Nat} {v : V} {o : Bool} {c : Str} {ns : List Str} {ws : List D} (ok : Ok a) (z : fz (.ins o c ns ws) = true) (h : Rep C a r p v (.ins o c ns ws)) : ∃ x u dx fs, v = .ref x ∧ C.mg c = some (.ref u) ∧ a.H x = some (.ins u dx fs) := by
  simp only [fz, Bool.and_eq_true, Bool.not_eq_true'] at z
  obtain ⟨x, u, dx, vs, rfl, h1, _, h2, _⟩ := h
  rw [z.1] at h2
  rw [if_neg (by decide)] at h2
  exact ⟨x, u, dx, _, rfl, h1, ok.sub _ _ h2.1⟩
variable {tab : List (Str × (List D → Res (D × EnvD)))}
theorem look_mem {c : Str} {g : List D → Res (D × EnvD)} : ∀ {tab : List (Str × (List D → Res (D × EnvD)))}, tab.lookup c = some g → c ∈ tab.map (·.1)
  | (c', g') :: tab, h => by
    by_cases e : c = c'
    · subst e; simp
    · rw [List.lookup_cons] at h
      have : (c == c') = false := by simpa using e
      rw [this] at h
      exact List.mem_cons_of_mem _ (look_mem h)
theorem op_eqO (neg : Bool) (s : Go X G W lv) (T : ∀ c g, tab.lookup c = some g → EqCls G.C j c (tab.map (·.1)) g) (hj : j + 1 ≤ lv) : OpR X (compareOp (if neg = true then .NotEq else .Eq)) (rD G.C (eqOD tab neg)) := by
  intro pins s0 σ H x y v u Q I rx ry h
  obtain ⟨c, d1, d2, r1, r2, d, rfl, ok, p1, p2, hd, k⟩ := h
  unfold eqOD at hd
  split at hd
  case isFalse => cases hd
  rename_i zz
  obtain ⟨z1, z2⟩ := zz
  have hk : G.C.K.In X.base := by rw [← s.k]; exact I.ok.mod.kin
  have hbN : X.base.Ns mainGlobals G.C.mg := by rw [← s.m]; exact I.ok.mod.glob
  have e1 := s.p; have e2 := s.w; have e3 := s.k; have e4 := s.m
  have hu1 : X.A.units + 1 < cLine := by have := s.u; omega
  cases hc1 : clsD d1 with
  | some c1 =>
    rw [hc1] at hd
    dsimp only at hd
    split at hd
    case isFalse => cases hd
    rename_i hty
    obtain ⟨g, hl, hr⟩ := Option.bind_eq_some_iff.mp hd
    obtain ⟨bb, outs, hg, rfl⟩ := resB_ok hr
    obtain ⟨u1, f, fd, ps, q1, q2, q3, q4, q5, q6, q7, q8, q9⟩ := (T c1 g hl).ex
    have F' := q9 X.base hk hbN
    rw [← e1, ← e2, ← e3, ← e4] at F'
    rw [← e3] at q8 q2 q3 q4 q5
    obtain ⟨o, ns, ws, rfl⟩ := clsD_ins hc1
    obtain ⟨ax, u', dx, fs, rfl, g1, g2⟩ := rep_insF ok z1 p1
    rw [q1] at g1; cases g1
    cases rx
    obtain ⟨mA, J, _⟩ := ins_get I.hok g2
    obtain ⟨od, J, _⟩ := J.look
    -- the other's type
    have hy : ∃ tb, PySem.W.Looks (model X.prog X.w) s0.heap (typeOf u) tb ∧ PySem.W.notFirst X.K u1 tb = true := by
      cases ht : tyD d2 with
      | some T =>
        obtain ⟨P, kx, hp, _⟩ := kit_of I ry (by rw [e3]; exact rep_ty ok ht p2)
        exact ⟨_, kx.ty _ _ I.kIn hp, by
          have := sub_blt (K := X.K) (C := u1) ht
          simp [PySem.W.notFirst, this]⟩
      | none =>
        unfold okRt at hty
        rw [ht] at hty
        simp only [Option.isSome_none, Bool.false_or] at hty
        obtain ⟨g2, hg2⟩ := Option.isSome_iff_exists.mp hty
        obtain ⟨c2, hc2, hl2⟩ := Option.bind_eq_some_iff.mp hg2
        obtain ⟨o2, ns2, ws2, rfl⟩ := clsD_ins hc2
        obtain ⟨ay, u2, dy, fy, rfl, g3, g4⟩ := rep_insF ok z2 p2
        cases ry
        obtain ⟨mB, J2, _⟩ := ins_get I.hok g4
        obtain ⟨od2, J2, _⟩ := J2.look
        refine ⟨_, J2.type, ?_⟩
        obtain ⟨u3, g5, g6⟩ := q7 c2 (look_mem hl2)
        rw [g3] at g5; cases g5
        rw [e3]
        rcases g6 with rfl | g6
        · simp [PySem.W.notFirst]
        · simp [PySem.W.notFirst, PySem.W.subIn, g6]
    obtain ⟨tb, L, hn⟩ := hy
    have hsp := eq_sp (Q := Q) ok z1 z2 p1 p2 hg k
    have rv : Vals [V.ref ax, y] [Value.ref ax, u] := .cons rfl (.cons ry .nil)
    cases neg with
    | false =>
      obtain ⟨m, hF⟩ := I.fr
      show wpAny (model X.prog X.w) X.A (richCompare .Eq (.ref ax) u) (EP X pins σ Q) X.xe s0
      refine PySem.W.cmp_K (op := .Eq) (by omega) hF I.ok.mod.kin J L hn q2 q3 ?_
      refine wpAny_mono (run_fnA (E := WE W0) rfl F' (s.rm.mono (by omega)) q8 (passAt takes0 σ) I rv hsp) (fun r s' hq => ?_) fun _ _ e => e
      obtain ⟨z, H', I', rz, rfl, q⟩ := hq
      cases rz
      have e : (bb != false) = bb := by cases bb <;> rfl
      rw [e] at q
      exact ⟨.bl bb, H', I', rfl, q⟩
    | true =>
      show wpAny (model X.prog X.w) X.A (richCompare .NotEq (.ref ax) u) (EP X pins σ Q) X.xe s0
      refine HE.ne_K hu1 I.kIn J L hn q2 q3 q4 q5 ?_
      refine wpAny_mono (run_fnA (E := WE W0) rfl F' ((s.rm.mono hj).in1) q8 (passAt takes0 σ) I rv hsp) (fun r s' hq => ?_) fun _ _ e => e
      obtain ⟨z, H', I', rz, rfl, q⟩ := hq
      cases rz
      have e : (bb != true) = !bb := by cases bb <;> rfl
      rw [e] at q
      exact ⟨bb, rfl, .bl (!bb), H', I', rfl, q⟩
  | none =>
    rw [hc1] at hd
    dsimp only at hd
    cases hb1 : bltD d1 with
    | none => rw [hb1] at hd; cases neg <;> cases hd
    | some T1 =>
    rw [hb1] at hd
    cases hc2 : clsD d2 with
    | none => rw [hc2] at hd; cases neg <;> cases hd
    | some c2 =>
    rw [hc2] at hd
    cases neg with
    | true => cases hd
    | false =>
    dsimp only at hd
    obtain ⟨g, hl, hr⟩ := Option.bind_eq_some_iff.mp hd
    obtain ⟨bb, outs, hg, rfl⟩ := resB_ok hr
    obtain ⟨u1, f, fd, ps, q1, q2, q3, q4, q5, q6, q7, q8, q9⟩ := (T c2 g hl).ex
    have F' := q9 X.base hk hbN
    rw [← e1, ← e2, ← e3, ← e4] at F'
    rw [← e3] at q8 q2 q3 q4 q5 q6
    obtain ⟨o, ns, ws, rfl⟩ := clsD_ins hc2
    obtain ⟨ay, u', dy, fs, rfl, g1, g2⟩ := rep_insF ok z2 p2
    rw [q1] at g1; cases g1
    cases ry
    obtain ⟨mA, J, _⟩ := ins_get I.hok g2
    obtain ⟨od, J, _⟩ := J.look
    have hsp := eq_sp (Q := Q) ok z2 z1 p2 p1 hg k
    have rv : Vals [V.ref ay, x] [Value.ref ay, v] := .cons rfl (.cons rx .nil)
    have hcall : wpAny (model X.prog X.w) X.A (call (.ref f) [.ref ay, v]) (PySem.W.CmpBack (EP X pins σ Q)) X.xe s0 := by
      refine wpAny_mono (run_fnA (E := WE W0) rfl F' (s.rm.mono (by omega)) q8 (passAt takes0 σ) I rv hsp) (fun r s' hq => ?_) fun _ _ e => e
      obtain ⟨z, H', I', rz, rfl, q⟩ := hq
      cases rz
      have e : (bb != false) = bb := by cases bb <;> rfl
      rw [e] at q
      exact ⟨.bl bb, H', I', rfl, q⟩
    have hu0 : X.A.units < cLine := by omega
    show wpAny (model X.prog X.w) X.A (richCompare .Eq v (.ref ay)) (EP X pins σ Q) X.xe s0
    cases d1 <;> simp only [bltD] at hb1 <;> (try (cases hb1; done))
    case non =>
      cases rep_non p1; cases rx
      exact HE.eq_right hu0 I.kIn J (T := "NoneType") rfl (q6 _ (by simp)) rfl HE.dec_none q2 q3 hcall
    case bl b =>
      cases rep_bl p1; cases rx
      exact HE.eq_right hu0 I.kIn J (T := "bool") rfl (q6 _ (by simp)) rfl (HE.dec_bool J) q2 q3 hcall
    case int b =>
      cases rep_int p1; obtain ⟨t, rx⟩ := rx; subst rx
      exact HE.eq_right hu0 I.kIn J (T := "int") rfl (q6 _ (by simp)) rfl (HE.dec_int J) q2 q3 hcall
    case str b =>
      cases rep_str p1; obtain ⟨t, rx⟩ := rx; subst rx
      exact HE.eq_right hu0 I.kIn J (T := "str") rfl (q6 _ (by simp)) rfl (HE.dec_str J) q2 q3 hcall
    case tup l =>
      have ht := rep_ty (t := "tuple") ok rfl p1
      obtain ⟨a, vs, rfl, h1, _⟩ := rep_tup ok p1
      cases rx
      have hT : s0.TypeIs (.ref a) "tuple" := by
        obtain ⟨its, _, e, _⟩ := I.tuple (xs := vs) (by rw [e3]; exact h1)
        obtain ⟨o, w1, w2, _⟩ := e
        exact ⟨o, w1, w2⟩
      exact HE.eq_right hu0 I.kIn J (T := "tuple") hT (q6 _ (by simp)) rfl (HE.dec_tuple I.kIn J (q6 _ (by simp)) hT) q2 q3 hcall
    case lst o l =>
      have ht := rep_ty (t := "list") ok rfl p1
      obtain ⟨a, vs, rfl, h1, _⟩ := rep_lst ok p1
      cases rx
      have hT : s0.TypeIs (.ref a) "list" := by
        obtain ⟨_, its, n, _, e⟩ := I.hok a _ h1
        exact ⟨_, e, rfl⟩
      exact HE.eq_right hu0 I.kIn J (T := "list") hT (q6 _ (by simp)) rfl (HE.dec_list I.kIn J (q6 _ (by simp)) hT) q2 q3 hcall
end
end Mi
namespace Mi
open PySem PySem.Spec PyProof.Rows L2
theorem eq_def {C : KM} {N ps cs : List Str} {st : Stmt} {c qual : Str} {f u : Addr} {fd : FuncData} {lv : Nat} (io : List Nat) (m : EM FlowD) (F : Fun C.K "__eq__" qual st f fd) (S : FnScope N ps (defScope st)) (hb : Binds C.K fd ps []) (hm : C.mg c = some (.ref u))
    (h1 : PySem.W.findIn C.K (.ref u) "__eq__" = some (some (.ref f))) (h2 : PySem.W.isFn C.K (.ref f) = true) (h3 : PySem.W.findIn C.K (.ref u) "__ne__" = some (some (.builtin "object.__ne__"))) (h4 : PySem.W.mroIn C.K u (.type "object") = some true)
    (h5 : ∀ T ∈ (["tuple", "list", "str", "int", "bool", "NoneType"] : List String), PySem.W.mroIn C.K u (.type T) = some false) (h6 : ∀ c' ∈ cs, ∃ u', C.mg c' = some (.ref u') ∧ (u' = u ∨ PySem.W.mroIn C.K u' (.ref u) = some false))
    (body : ∀ (base : Heap) (cdv : Value) (A : Around) (outer : List Env) (s : Shared) (H : Hp) (E : XK) (vs : List V) (W : WX), Go (CxD C base N qual (defScope st) f cdv A outer s H E) ⟨C, vs, io⟩ W lv → PSs (CxD C base N qual (defScope st) f cdv A outer s H E) (defBody st) (tS ⟨C, vs, io⟩ W m)) :
    EqCls C (lv + 1) c cs (runD ps.length N.length io m) := ⟨u, f, fd, ps, hm, h1, h2, h3, h4, h5, h6, hb, fun base _ _ => fn_okQ io m F S base body⟩
section
variable {X : Cx} {G : Gm} {W : WX} {lv j : Nat} {a b : Expr} {ma mb : EM Arg} {pos : Pos} {tab : List (Str × (List D → Res (D × EnvD)))}
theorem r_eqO (s : Go X G W lv) (T : ∀ c g, tab.lookup c = some g → EqCls G.C j c (tab.map (·.1)) g) (hj : j + 1 ≤ lv) (ha : PE X a (tArg G W ma)) (hb : PE X b (tArg G W mb)) (hm : behindInMarks .Eq b = false := by first | rfl | exact nobehind _ (by decide) (by decide)) :
    PE X (.Compare a [.Eq] [b] pos) (tE G W (mBin (eqOD tab false) ma mb)) := (pe_cmpR (op_eqO false s T hj) ha hb hm).weak fun _ _ _ q => bin_w q
theorem r_neO (s : Go X G W lv) (T : ∀ c g, tab.lookup c = some g → EqCls G.C j c (tab.map (·.1)) g) (hj : j + 1 ≤ lv) (ha : PE X a (tArg G W ma)) (hb : PE X b (tArg G W mb)) (hm : behindInMarks .NotEq b = false := by first | rfl | exact nobehind _ (by decide) (by decide)) :
    PE X (.Compare a [.NotEq] [b] pos) (tE G W (mBin (eqOD tab true) ma mb)) := (pe_cmpR (op_eqO true s T hj) ha hb hm).weak fun _ _ _ q => bin_w q
theorem rt_eqO (s : Go X G W lv) (T : ∀ c g, tab.lookup c = some g → EqCls G.C j c (tab.map (·.1)) g) (hj : j + 1 ≤ lv) (ha : PE X a (tArg G W ma)) (hb : PE X b (tArg G W mb)) (hm : behindInMarks .Eq b = false := by first | rfl | exact nobehind _ (by decide) (by decide)) :
    PT X (.Compare a [.Eq] [b] pos) (tT G W (mTB (mBin (eqOD tab false) ma mb))) := (pt_cmpR (op_eqO false s T hj) ha hb hm).weak fun _ _ _ q => bin_w (tb_w q)
theorem rt_neO (s : Go X G W lv) (T : ∀ c g, tab.lookup c = some g → EqCls G.C j c (tab.map (·.1)) g) (hj : j + 1 ≤ lv) (ha : PE X a (tArg G W ma)) (hb : PE X b (tArg G W mb)) (hm : behindInMarks .NotEq b = false := by first | rfl | exact nobehind _ (by decide) (by decide)) :
    PT X (.Compare a [.NotEq] [b] pos) (tT G W (mTB (mBin (eqOD tab true) ma mb))) := (pt_cmpR (op_eqO true s T hj) ha hb hm).weak fun _ _ _ q => bin_w (tb_w q)
end
/-! ### isinstance of an own class -/
def isC (cs : List Str) (c : Str) : D → Option D
  | .ins _ c' _ _ => if c' ∈ cs then some (.bl (c' == c)) else none
  | d => if (tyD d).isSome = true then some (.bl false) else none
structure IsCls (C : KM) (cs : List Str) (c : Str) : Prop where
  ex : ∃ u, C.mg c = some (.ref u) ∧ ((PySem.W.clsIn C.K u).isSome && PySem.W.typeIn C.K (.ref u) == some (.type "type")) = true ∧ PySem.W.specialIn C.K (.builtin "object.__class__") "__get__" = some (some (.builtin "getset_descriptor.__get__")) ∧ PySem.W.takesIn C.K (.builtin "object.__class__") = some true ∧
    ∀ c' ∈ cs, ∃ u', C.mg c' = some (.ref u') ∧ Cls C.K u' ∧ PySem.W.findIn C.K (.ref u') "__class__" = some (some (.builtin "object.__class__")) ∧ PySem.W.mroIn C.K u' (.type "object") = some true ∧ PySem.W.kitOne C.K (.ref u') (.ref u) = some (c' == c)
theorem kit_own {K : PySem.W.Frag} {u : Addr} {d : D} {t : String} (h : tyD d = some t) (hu : ((PySem.W.clsIn K u).isSome && PySem.W.typeIn K (.ref u) == some (.type "type")) = true) : PySem.W.kitOne K (.type t) (.ref u) = some false := by
  unfold PySem.W.kitOne
  rw [if_neg (by simp)]
  show (if _ then _ else _) = _
  rw [if_pos hu]
  exact sub_blt h
section
variable {X : Cx} {G : Gm} {W : WX} {σ : L2.St} {H : Hp} {Q : VK} {a : Expr} {ma : EM Arg} {cs : List Str} {c : Str}
theorem isiC_w {u : Addr} (hm : G.C.mg c = some (.ref u)) (T : IsCls G.C cs c) (h : tE G W (mUn (isC cs c) ma) σ H Q) : tCB (rIsi G.C.K) (tCons (tArg G W ma) (tCons (tC (.ref u)) tNil)) σ H Q := by
  obtain ⟨a, env, rfl, rel, post⟩ := h
  refine tArg_of rel post fun x e b v st r ar p => ?_
  dsimp only at p
  cases hx : x.get e with
  | none => rw [hx] at p; exact (show False from p).elim
  | some d =>
    rw [hx] at p
    dsimp only at p
    obtain ⟨d', hd, k'⟩ := p.lift r
    obtain ⟨r1, p1⟩ := ar.rep r hx
    obtain ⟨u1, q1, q2, q3, q4, q5⟩ := T.ex
    rw [hm] at q1; cases q1
    cases ht : tyD d with
    | some t =>
      have e1 : isC cs c d = some (.bl false) := by
        cases d <;> simp only [tyD] at ht <;> (try (cases ht; done)) <;> simp [isC, tyD]
      rw [e1] at hd; cases hd
      exact ⟨v, .ref u, .type t, .ref u, false, rfl, .own u, rep_ty r.ok ht p1, kit_own ht q2, k' b (Grow.refl b) r.ok _ rep_ofbl⟩
    | none =>
      cases d <;> simp only [isC, ht] at hd <;> (try (cases hd; done))
      rename_i o c' ns ws
      split at hd
      case isFalse => cases hd
      rename_i hmem
      cases hd
      obtain ⟨u', g1, g2, g3, g4, g5⟩ := q5 c' hmem
      obtain ⟨y, u2, dx, vs, rfl, h1, _, h2, _⟩ := p1
      rw [g1] at h1; cases h1
      have hH : b.H y = some (.ins u' dx (ns.zip vs)) := by
        split at h2
        · exact h2.2
        · exact r.ok.sub _ _ h2.1
      exact ⟨.ref y, .ref u, .ref u', .ref u, (c' == c), rfl, .own u, .base (.ins hH g2 g3 q3 q4 g4), g5, k' b (Grow.refl b) r.ok _ rep_ofbl⟩
theorem r_isC (s : St0 X G) (cs : List Str) {p3 p pos : Pos} (T : IsCls G.C cs c) (ha : PE X a (tArg G W ma)) (h1 : G.C.mg "isinstance" = none) (hg : Gl X "isinstance") (hgt : Gl X c) (hv1 : bootBuiltins "isinstance" = some (.builtin "isinstance"))
    (hd : (c == ("__debug__" : Str)) = false := by decide)
    (hs : starEach [a, .Name c p3] X.env = (false, eval a X.env) :: starEach [.Name c p3] X.env := by rfl) (hpl : (backTo pos (starEach [Expr.Name c p3] X.env)).any (·.1) = false := by rfl) :
    PE X (.Call (.Name "isinstance" p) [a, .Name c p3] [] pos) (tE G W (mUn (isC cs c) ma)) := by
  obtain ⟨u, q1, _⟩ := T.ex
  exact (pe_callB call_isi hg (by rw [s.m]; exact h1) hv1 (pa_cons ha (pa_cons (pe_glob (v := .ref u) hgt (by rw [s.m]; exact q1) rfl hd) pa_nil) hs) (by decide) (by decide) hs hpl).weak fun _ _ _ q => by
    have := isiC_w q1 T q
    rw [s.k]; exact this
end
end Mi
namespace Mi
open PySem PySem.Spec PyProof.Rows L2
end Mi
namespace HE
open PySem PySem.Spec PyProof.Rows L2 HT
section
variable {prog : Program} {w : World} {A : Around} {E : Value → Shared → Prop} {s : Shared}
theorem places_rev (n : Nat) : Builtin.Slice.slicePlaces ((n : Int) - 1) (-1) (-1) = n := by
  unfold Builtin.Slice.slicePlaces
  rw [if_neg (by omega)]
  by_cases h : (n : Int) - 1 > -1
  · rw [if_pos h]
    simp only [Int.neg_neg, Int.ediv_one]
    omega
  · rw [if_neg h]; omega
theorem sliceApplied_rev {sl : Addr} {t : Tok} {n : Nat} {Q : Int × Int × Nat → Shared → Prop} (hs : s.heap.IsSliceOf sl .none .none (.int (-1) t)) (h : Q ((n : Int) - 1, -1, n) s) : wpAny (model prog w) A (Builtin.Slice.sliceApplied (.ref sl) (pure (n : Int))) Q E s := by
  obtain ⟨os, hos, hcs, hds⟩ := id hs
  unfold Builtin.Slice.sliceApplied Builtin.Slice.sliceFields
  refine wpAny_bind (wpAny_bind (wpAny_field hos hds (x := .none) rfl (wpAny_bind (wpAny_field hos hds (x := .none) rfl (wpAny_bind (wpAny_field hos hds (x := .int (-1) t) rfl (wpAny_pure ?_)))))))
  refine wpAny_bind (slicePart_int ?_)
  show wpAny _ _ (if ((-1 : Int) == 0) = true then _ else _) _ _ s
  rw [if_neg (by decide)]
  refine wpAny_bind (slicePart_none (wpAny_bind (slicePart_none (wpAny_bind (wpAny_pure ?_)))))
  have e : Builtin.Slice.sliceAdjust none none (-1) (n : Int) = ((n : Int) - 1, -1) := rfl
  show wpAny _ _ (match Builtin.Slice.sliceAdjust none none (-1) (n : Int) with | (lo, hi) => pure (lo, (-1 : Int), Builtin.Slice.slicePlaces lo hi (-1))) _ _ s
  rw [e]
  show wpAny _ _ (pure ((n : Int) - 1, (-1 : Int), Builtin.Slice.slicePlaces ((n : Int) - 1) (-1) (-1))) _ _ s
  rw [places_rev]
  exact wpAny_pure h
theorem fmap_cg {α β : Type} {f g : α → Option β} : ∀ {l : List α}, (∀ a ∈ l, f a = g a) → l.filterMap f = l.filterMap g
  | [], _ => rfl
  | a :: l, h => by rw [List.filterMap_cons, List.filterMap_cons, h a List.mem_cons_self, fmap_cg fun b hb => h b (List.mem_cons_of_mem _ hb)]
theorem size_rep {α : Type} (a : Array α) : ∀ (m : Nat) (acc : Array α), ((List.replicate m a).foldl (· ++ ·) acc).size = acc.size + m * a.size
  | 0, acc => by simp
  | m + 1, acc => by rw [List.replicate_succ, List.foldl_cons, size_rep a m, Array.size_append, Nat.succ_mul]; omega
theorem pick_rev (xs : Array Value) : ((List.range xs.size).filterMap fun (m : Nat) => xs[((xs.size : Int) - 1 + (m : Int) * (-1)).toNat]?).toArray = xs.toList.reverse.toArray := by
  have h := pick_gen xs.toList.reverse.toArray 0 xs.size
  have e : ((List.range xs.size).filterMap fun (m : Nat) => xs[((xs.size : Int) - 1 + (m : Int) * (-1)).toNat]?) = ((List.range xs.size).filterMap fun (m : Nat) => xs.toList.reverse.toArray[(((0 : Nat) : Int) + (m : Int) * 1).toNat]?) := by
    refine fmap_cg fun m hm => ?_
    have hm := List.mem_range.mp hm
    have e1 : ((xs.size : Int) - 1 + (m : Int) * (-1)).toNat = xs.size - 1 - m := by omega
    have e2 : (((0 : Nat) : Int) + (m : Int) * 1).toNat = m := by omega
    rw [e1, e2]
    have e3 : xs.toList.reverse.toArray[m]? = xs.toList.reverse[m]? := by simp
    rw [e3, List.getElem?_reverse (by rw [Array.length_toList]; exact hm), Array.length_toList]
    simp
  rw [e, h]
  congr 1
  simp only [List.drop_zero]
  exact List.take_of_length_le (by simp)
theorem getItem_tuple_rev {t sl : Addr} {items : Array Value} {k : Tok} {Q : Value → Shared → Prop} (ht : IsTup s.heap t items) (hs : s.heap.IsSliceOf sl .none .none (.int (-1) k))
    (h : Q (.ref s.heap.objs.size) { s with heap := s.heap.push { cls := .type "tuple", data := .seq items.toList.reverse.toArray } }) (hsz : items.size ≤ sizeLine) : wpAny (model prog w) A (getItem (.ref t) (.ref sl)) Q E s := by
  have htake : sizeOk (.seq items.toList.reverse.toArray) := by
    show items.toList.reverse.toArray.size ≤ sizeLine
    rw [List.size_toArray, List.length_reverse, Array.length_toList]
    exact hsz
  obtain ⟨os, hos, hcs, hds⟩ := id hs
  have hTs : s.TypeIs (.ref sl) "slice" := ⟨os, hos, hcs⟩
  unfold getItem
  try with_reducible refine wpAny_holding ?_
  first | refine wpAny_bind (wpAny_pure ?_) | skip
  refine wpAny_bind (wpAny_sequenceKey ht.typeIs (by decide) ?_)
  refine wpAny_bind (wpAny_callSpecial?_slot (name := Str.ofString "__getitem__") ht.typeIs PyProof.Rows.slot_tuple_getitem
    (wpAny_call_entry PyProof.Rows.slot_tuple_getitem ht.typeIs entry_tuple_getitem ?_ (args_tuple_getitem _ _)))
  show wpAny _ _ (Builtin.Tuple.tupleItemsOf (.ref t) >>= _) _ _ s
  refine wpAny_bind (tupleItemsOf_ ht ?_)
  refine wpAny_bind (wpAny_typeOf hTs ?_)
  rw [if_pos (by decide)]
  refine wpAny_bind (sliceApplied_rev hs ?_)
  have hno : ¬ ((((items.size : Int) - 1) == 0 && (-1 : Int) == 1 && items.size == items.size) = true) := by
    intro q
    rw [Bool.and_eq_true, Bool.and_eq_true] at q
    have q1 : (-1 : Int) = 1 := eq_of_beq q.1.2
    omega
  show wpAny _ _ (if (((items.size : Int) - 1) == 0 && (-1 : Int) == 1 && items.size == items.size) = true then _ else _) _ _ s
  rw [if_neg hno, pick_rev]
  first
    | exact wpAny_bind (wpAny_newObj_type (wpAny_pure ⟨_, rfl, wpAny_pure h⟩) htake)
    | exact wpAny_bind (wpAny_bind (wpAny_newObj_type (wpAny_pure ⟨_, rfl, wpAny_pure h⟩) htake))
    | exact wpAny_bind (wpAny_newObj_type (wpAny_bind (wpAny_pure (wpAny_pure ⟨_, rfl, wpAny_pure h⟩))) htake)
end
end HE
namespace Mi
open PySem PySem.Spec PyProof.Rows L2
def tRevT (K : PySem.W.Frag) (te : TE) : TE := fun σ H Q => te σ H fun x H1 => ∃ a xs, x = .ref a ∧ SqT K H1 a xs ∧ TupNew Q H1 xs.reverse
theorem pe_revT {X : Cx} {e : Expr} {te : TE} {k : Nat} {p1 p2 p3 pos : Pos} (he : PE X e te) : PE X (.Subscript e (.Slice none none (some (.UnaryOp .USub (.Constant (.int 1) k p1) p2)) p3) pos) (tRevT X.K te) := by
  refine ⟨fun pins s σ H Q I h => ?_⟩
  refine Subscript_ (thn (he.run pins s σ H _ I h) fun v s1 ⟨x, H1, I1, r1, q1⟩ => ?_)
  obtain ⟨a, xs, ex, hx, q⟩ := q1
  subst ex
  cases r1
  have hst : PO X (some (.UnaryOp .USub (.Constant (.int 1) k p1) p2)) (tPart (tUn (rU fun i => .int (-i)) (tC (.int 1)))) := po_some (pe_un un_neg pe_int)
  refine wpAny_Slice (thn (po_none.run pins s1 σ H1 (fun o H2 => o = none ∧ H2 = H1) I1 ⟨rfl, rfl⟩) fun vl s2 ⟨l, H2, I2, pl, el, e2⟩ => ?_)
  subst el e2
  refine thn (po_none.run pins s2 σ H2 (fun o H3 => o = none ∧ H3 = H2) I2 ⟨rfl, rfl⟩) fun vu s3 ⟨u, H3, I3, pu, eu, e3⟩ => ?_
  subst eu e3
  refine thn (hst.run pins s3 σ H3 (fun o H4 => o = some (-1) ∧ H4 = H3) I3 ⟨1, rfl, -1, rfl, rfl, rfl⟩) fun vs s4 ⟨o, H4, I4, ps, eo, e4⟩ => ?_
  subst eo e4
  have I5 : Inv X pins σ H4 { s4 with heap := s4.heap.push { cls := .type "slice", data := .fields #[vl, vu, vs] } } := I4.kept (t' := s4.toks) fun b ob q => Heap.get?_push_of_some _ q
  obtain ⟨its, r, ht, hz⟩ := I5.tuple hx
  have hlen := r.length
  cases pl; cases pu; cases ps
  show wpAny (model X.prog X.w) X.A (subscriptTail e (.Slice none none (some (.UnaryOp .USub (.Constant (.int 1) k p1) p2)) p3) (.ref a) (.ref s4.heap.objs.size)) (EP X pins σ Q) X.xe _
  refine tail_any (ops := [.ref a, .ref s4.heap.objs.size]) ht.typeIs (PyProof.Rows.slot_tuple_getitem.lookup) ?_ (by with_unfolding_all rfl)
  refine HE.getItem_tuple_rev ht (Heap.IsSliceOf.new _ _ _ _) ?_ (by rw [List.size_toArray]; omega)
  exact lay_tup I5 r.reverse (by rw [List.length_reverse]; exact hz) q
def revT : D → Option D
  | .tup l => if fzL l = true then some (.tup l.reverse) else none
  | _ => none
section
variable {X : Cx} {G : Gm} {W : WX} {σ : L2.St} {H : Hp} {Q : VK} {e a b : Expr} {ma mb : EM Arg} {pos : Pos}
theorem r_revT (s : St0 X G) {k : Nat} {p1 p2 p3 pos : Pos} (ha : PE X e (tArg G W ma)) : PE X (.Subscript e (.Slice none none (some (.UnaryOp .USub (.Constant (.int 1) k p1) p2)) p3) pos) (tE G W (mUn revT ma)) :=
  (pe_revT ha).weak fun σ H Q q => by
    obtain ⟨a, env, rfl, rel, post⟩ := q
    refine tArg_of rel post fun x e b v st r ar p => ?_
    dsimp only at p
    cases hx : x.get e with
    | none => rw [hx] at p; exact (show False from p).elim
    | some d =>
      rw [hx] at p
      dsimp only at p
      obtain ⟨d', hd, k'⟩ := p.lift r
      obtain ⟨r1, p1⟩ := ar.rep r hx
      match d, hd, p1 with
      | .tup l, hd, p1 =>
        simp only [revT] at hd
        split at hd
        · rename_i z; cases hd
          obtain ⟨x1, vs, rfl, h1, h2⟩ := rep_tup r.ok p1
          refine ⟨x1, vs, rfl, by rw [← s.k] at h1; exact h1, ?_⟩
          exact new_tup r.ok (fzL_rev z) (repL_rev (s := 0) (q := []) (m := 0) z h2) fun z b' gr ok rp => k' b' gr ok z rp
        · cases hd
/-! ### text * int -/
def repS (s : Str) (n : Int) : Str := if n < 1 then Str.empty else if (n == 1 || s.length == 0) = true then s else ⟨(List.replicate n.toNat s.cps).foldl (· ++ ·) #[]⟩
def mulSD : D → D → Option D
  | .str s, .int n => if s.length ≤ 1000 ∧ 0 ≤ n ∧ n ≤ 1000 then some (.str (repS s n)) else none
  | _, _ => none
theorem op_mulS : OpR X (binaryOp .Mult) (rD G.C mulSD) := by
  intro pins s0 σ H x y v u Q I rx ry h
  obtain ⟨c, d1, d2, r1, r2, d, rfl, ok, p1, p2, hd, k⟩ := h
  match d1, d2, hd, p1, p2 with
  | .str s, .int n, hd, p1, p2 =>
    simp only [mulSD] at hd
    split at hd
    · rename_i hz
      obtain ⟨h1, h2, h3⟩ := hz
      cases hd
      cases rep_str p1; cases rep_int p2
      obtain ⟨t, rfl⟩ := rx
      obtain ⟨t2, rfl⟩ := ry
      have kk := k (.str (repS s n)) c (Grow.refl c) ok (by simp [Rep])
      have hmul : s.length * n.toNat ≤ 1000000 := by
        have := Nat.mul_le_mul h1 (show n.toNat ≤ 1000 by omega)
        omega
      refine PySem.P.mul_str (by rw [decide_eq_false (by omega), decide_eq_false (by omega)]; rfl) (fun g1 g2 => ?_) (fun g1 g2 => ?_) ?_
      · have : (1000 : Int) ≤ (2 ^ 63 - 1) / n := by
          rw [Int.le_ediv_iff_mul_le (by omega)]
          omega
        omega
      · unfold Builtin.Str.tooLong
        rw [szl]
        exact decide_eq_false (by omega)
      · unfold repS at kk
        split
        · rename_i g; rw [if_pos g] at kk
          exact ⟨by decide, .str Str.empty, c.H, I.tok _, ⟨_, rfl⟩, kk⟩
        · rename_i g; rw [if_neg g] at kk
          split
          · rename_i g'; rw [if_pos g'] at kk
            exact ⟨.str s, c.H, I, ⟨_, rfl⟩, kk⟩
          · rename_i g'; rw [if_neg g'] at kk
            refine ⟨?_, .str _, c.H, I.tok _, ⟨_, rfl⟩, kk⟩
            show ((List.replicate n.toNat s.cps).foldl (· ++ ·) #[]).size ≤ sizeLine
            rw [HE.size_rep, szl]
            have e1 : s.cps.size = s.length := rfl
            rw [e1, Nat.mul_comm]
            show 0 + _ ≤ _
            omega
    · cases hd
theorem r_mulS (s : St0 X G) (ha : PE X a (tArg G W ma)) (hb : PE X b (tArg G W mb)) : PE X (.BinOp a .Mult b pos) (tE G W (mBin mulSD ma mb)) :=
  (pe_op op_mulS ha hb).weak fun _ _ _ q => bin_w q
end
end Mi
namespace Mi
open PySem PySem.Spec PyProof.Rows L2
theorem cls_two {K : PySem.W.Frag} {u : Addr} (h1 : PySem.W.isClsIn K u = true) (h2 : PySem.W.typeIn K (.ref u) = some (.type "type")) : ((PySem.W.clsIn K u).isSome && PySem.W.typeIn K (.ref u) == some (.type "type")) = true := by
  unfold PySem.W.isClsIn at h1
  rw [h1, h2]
  rfl
theorem kit_two {K : PySem.W.Frag} {y u : Addr} {b : Bool} (hne : y ≠ u) (h1 : PySem.W.isClsIn K u = true) (h2 : PySem.W.typeIn K (.ref u) = some (.type "type")) (h3 : PySem.W.subIn K (.ref y) (.ref u) = some false) (hb : b = false) : PySem.W.kitOne K (.ref y) (.ref u) = some b := by
  subst hb
  unfold PySem.W.kitOne
  rw [if_neg (by simpa using hne)]
  show (if _ then _ else _) = _
  rw [if_pos (cls_two h1 h2)]
  exact h3
end Mi
namespace Mi
open PySem PySem.Spec PyProof.Rows L2
/-! ### an own exception's __init__ that says super().__init__(text), then self.f = e -/
def supBody (txt fld ar : Str) (p0 p1 p2 p3 p4 p5 p6 p7 p8 p9 : Pos) (k : Nat) : List Stmt :=
  [.Expr (.Call (.Attribute (.Call (.Name "super" p0) [] [] p1) "__init__" p2) [.Constant (.str txt) k p3] [] p4) p5,
   .Assign [.Attribute (.Name "self" p6) fld p7] (.Name ar p8) p9]
def supScope (ar : Str) : Scope := { kind := .function, names := [("self", .local), (ar, .local), ("__class__", .free), ("super", .globalImplicit)], isGenerator := false, isCoroutine := false, more := [] }
/- what the written part says of such a class -/
structure SupC (P : Program) (K : PySem.W.Frag) (mg : Str → Option Value) (C : Addr) (fld : Str) : Prop where
  ox : OexC K C
  na : PySem.W.findIn K (.ref C) fld = some none
  ve : PySem.W.subIn K (.ref C) (.type "ValueError") = some true
  me : PySem.W.mroIn K C (.ref C) = some true
  su : PySem.W.ks_superIn K C C "__init__" = some (some (.builtin "ValueError.__init__"))
  op : PySem.W.nsIn K PySem.cStatics "thirdparty.any" = some none
  ng : mg "super" = none
  tp : (P.main.scope.names.lookup ("super" : Str)).isSome = false
def supSp (C : Addr) (fld : Str) : Sp := fun vs H Q _ => ∃ a v, vs = [.ref a, v] ∧ H a = some (exo a C none) ∧ ∀ dx, H dx = none → dx ≠ a → Q .non (upd (upd H dx (exd dx [(fld, v)])) a (exo a C (some dx)))
theorem sup_he {env : Env} {txt : Str} {kk : Nat} {p0 p1 p2 p3 p4 : Pos} (hpos : (p2.endLine == p4.line) = true) :
    eval (.Call (.Attribute (.Call (.Name "super" p0) [] [] p1) "__init__" p2) [.Constant (.str txt) kk p3] [] p4) env = (do
      let ov ← attributeBase (.Call (.Name "super" p0) [] [] p1) "__init__" env (eval (.Call (.Name "super" p0) [] [] p1) env)
      standAt p2.atName
      let (ff, first) ← holding [ov] (getMethod ov "__init__" (do return (← importBound (.Call (.Name "super" p0) [] [] p1) env).getD true))
      callWith p4 ff first (backTo p4 (starEach [.Constant (.str txt) kk p3] env)) []) := by
  show (do
      let ov ← attributeBase (.Call (.Name "super" p0) [] [] p1) "__init__" env (eval (.Call (.Name "super" p0) [] [] p1) env)
      standAt p2.atName
      methodCall (.Call (.Name "super" p0) [] [] p1) "__init__" p2 p4 env ov 1 (backTo p4 (starEach [.Constant (.str txt) kk p3] env)) (backToKw p4 (keywordEach [] env))) = _
  have hfew : methodCallForm 1 (backTo p4 (starEach [.Constant (.str txt) kk p3] env)) (backToKw p4 (keywordEach [] env)) = true := rfl
  have hp : methodCallPos true (.Call (.Name "super" p0) [] [] p1) env p2 p4 = pure p4 := by unfold methodCallPos; rw [hpos]; rfl
  simp only [methodCall, hfew, hp, calleeOf, if_true, pure_bind]
  rfl
theorem sup_ok {CX : CXT} {P : Program} {w : World} {K : PySem.W.Frag} {mg : Str → Option Value} {base : Heap} {C f cc cda : Addr} {name qual txt fld ar file : Str} {tf : Tok} {params : Arguments} {dV kV doc pm ct oc ccl cl : Value} {an od cdd cld : Option Addr} {osl ccs csl : Array (Option Value)} {vs : Array Value}
    {p0 p1 p2 p3 p4 p5 p6 p7 p8 p9 : Pos} {kk k : Nat} {a0 : PySem.Arg}
    (T : SupC P K mg C fld) (lk : K.lookup f = some ⟨oc, od, .func (PySem.W.ksFn name qual params (supBody txt fld ar p0 p1 p2 p3 p4 p5 p6 p7 p8 p9 kk) (supScope ar) dV kV doc pm an (.ref cda) ct cc), osl⟩) (hcd : PySem.W.codeIn K (.ref cda) qual = true)
    (hp : (params.posonlyargs ++ params.args).head? = some a0) (ha0 : a0.arg = "self")
    (hcode : K.lookup cda = some ⟨ccl, cdd, .fields vs, ccs⟩) (hvs : vs[2]? = some (.str file tf)) (hfile : ((P.main.file : Str) == file) = true) (hcell : K.lookup cc = some ⟨cl, cld, .cell (some (.ref C)), csl⟩)
    (hpos : (p2.endLine == p4.line) = true) (hne : (("self" : Str) == ar) = false) (hdr : (ar == ("__debug__" : Str)) = false) (hsc : (("__class__" : Str) == ar) = false) (hss : (("super" : Str) == ar) = false) :
    FnOk P w K mg base CX (k + 1) f (PySem.W.ksFn name qual params (supBody txt fld ar p0 p1 p2 p3 p4 p5 p6 p7 p8 p9 kk) (supScope ar) dV kV doc pm an (.ref cda) ct cc) ["self", ar] (supSp C fld) := by
  refine ⟨fun vs H Q E ⟨a, v, e, _⟩ => by rw [e]; rfl, fun A outer s H args us vs Q E hr e0 hb r hsp => ?_⟩
  obtain ⟨a, v, rfl, ha, hq⟩ := hsp
  have hka : (supScope ar).names.lookup ("self" : Str) = some .local := rfl
  have hkr : (supScope ar).names.lookup ar = some .local := by
    show List.lookup ar (("self", _) :: (ar, _) :: _) = _
    rw [List.lookup_cons, show (ar == ("self" : Str)) = false from beq_false_of_ne (fun z => by rw [z, beq_self_eq_true] at hne; cases hne), List.lookup_cons, beq_self_eq_true]
  have hkc : (supScope ar).names.lookup ("__class__" : Str) = some .free := by
    show List.lookup ("__class__" : Str) (("self", _) :: (ar, _) :: _) = _
    rw [List.lookup_cons, show (("__class__" : Str) == ("self" : Str)) = false by decide, List.lookup_cons, hsc]; rfl
  have hks : (supScope ar).names.lookup ("super" : Str) = some .globalImplicit := by
    show List.lookup ("super" : Str) (("self", _) :: (ar, _) :: _) = _
    rw [List.lookup_cons, show (("super" : Str) == ("self" : Str)) = false by decide, List.lookup_cons, hss]; rfl
  have hce : ∀ x ∈ (supScope ar).names, x.2 ≠ .cell := by
    intro x hx
    rcases List.mem_cons.mp hx with rfl | hx
    · exact fun z => NameKind.noConfusion z
    rcases List.mem_cons.mp hx with rfl | hx
    · exact fun z => NameKind.noConfusion z
    rcases List.mem_cons.mp hx with rfl | hx
    · exact fun z => NameKind.noConfusion z
    rcases List.mem_cons.mp hx with rfl | hx
    · exact fun z => NameKind.noConfusion z
    · cases hx
  obtain ⟨ua, u, rfl, ra, ru⟩ := vals2 r
  obtain rfl : ua = Value.ref a := ra
  have bk : ∀ b o, base.get? b = some o → s.heap.get? b = some o := fun b o e => (e0.bs b o e).1
  have KX : K.In s.heap := e0.mod.kin.keeps bk
  have lim : s.heap.NoLimit := e0.mod.nolimit.keeps bk
  obtain ⟨t1, hoa⟩ := exo_at e0.hok ha
  have hna : ∀ {b : Addr}, H b = none → b ≠ a := fun {b} n z => by rw [z, ha] at n; cases n
  refine PySem.ks_codeAny_call_defAt hr.depth (KX _ _ lk) rfl lim (PySem.W.codeRec_of KX hcd) rfl hb hce (fun y hy => ?_) (fun h1 hns hk1 => ?_)
  · rcases List.mem_cons.mp hy with rfl | hy
    · exact hka
    · rcases List.mem_cons.mp hy with rfl | hy
      · exact hkr
      · cases hy
  have n0 : s.heap.get? s.heap.objs.size = none := by
    cases z : s.heap.get? s.heap.objs.size with
    | none => rfl
    | some o => exact absurd (Heap.lt_size z) (Nat.lt_irrefl _)
  have aL : s.heap.objs.size ≠ a := fun z => by rw [z, hoa] at n0; cases n0
  have mS : (fun x => (List.zip [("self" : Str), ar] [Value.ref a, u]).reverse.lookup x) "self" = some (Value.ref a) := by
    show List.lookup ("self" : Str) [(ar, u), ("self", Value.ref a)] = _
    rw [List.lookup_cons, hne]; rfl
  have mR : (fun x => (List.zip [("self" : Str), ar] [Value.ref a, u]).reverse.lookup x) ar = some u := by
    show List.lookup ar [(ar, u), ("self", Value.ref a)] = _
    rw [List.lookup_cons, beq_self_eq_true]
  have bkH : ∀ b o, base.get? b = some o → b ≠ a := fun b o e => hna (e0.bs b o e).2
  have hk1a : h1.get? a = some ({ cls := .ref C, dict := none, data := .fields #[.ref t1, .none, .none, .none, .bool false, .none] } : Obj) := hk1 _ _ hoa
  obtain ⟨nm, q, N, bs, bm, sn, sub, ab, col, dd, k0, k1, k2, k3, k5, hC, hbm⟩ := T.ox.cls
  have hcl : PySem.W.clsIn K C = some { name := nm, bases := bs, mro := .ref C :: bm, ns := N, qualname := q, hasDict := true, slotNames := sn, subclasses := sub, abstract := ab, collection := col, hasDel := false } := by unfold PySem.W.clsIn; rw [hC] <;> rfl
  have hCd : ∀ {h : Heap}, K.In h → ∃ oD, h.get? C = some oD ∧ oD.data = .cls { name := nm, bases := bs, mro := .ref C :: bm, ns := N, qualname := q, hasDict := true, slotNames := sn, subclasses := sub, abstract := ab, collection := col, hasDel := false } := fun {h} X => ⟨_, X _ _ hC, rfl⟩
  have K1 : K.In h1 := e0.mod.kin.keeps fun b o e => hk1 _ _ (bk b o e)
  have gl1 : h1.Ns mainGlobals mg := e0.mod.glob.keeps fun b o e => hk1 _ _ (bk b o e)
  obtain ⟨mb, hbl, hbl2⟩ := e0.mod.blt
  have bl1 : h1.Ns builtinsNs mb := hbl.keeps fun b o e => hk1 _ _ (bk b o e)
  obtain ⟨hp0, g0, d0, tk0, os0⟩ := s
  refine PySem.ks_wpAt_execs_cons (PySem.ks_wpAt_Expr_any (PySem.ks_wpAt_MethodCall ?_ (sup_he hpos)))
  refine PySem.ks_wpAt_super_base (env := PySem.W.ksEnv qual (supScope ar) hp0.objs.size f (.ref cda) cc) hks hkc rfl rfl (K1 _ _ lk) rfl hp rfl (K1 _ _ hcode) rfl hvs hfile T.tp ?_
  refine PySem.W.ks_loadName_global rfl hks (Calls.loadGlobal_builtin gl1 T.ng bl1 ((hbl2 _ (by decide)).trans (by first | boot_by_name | rfl | kernel_rfl)) ⟨rfl, ?_⟩)
  refine wpAny_loadName_free rfl hkc rfl ⟨_, K1 _ _ hcell, rfl⟩ ?_
  rw [ha0]
  refine wpAny_loadName_local rfl hka hns mS ?_
  obtain ⟨oD, hD1, hD2⟩ := hCd K1
  refine PySem.ks_wpAny_isType_cls hD1 hD2 ⟨rfl, ?_⟩
  refine PySem.ks_wpAny_call_super hD1 hD2 hk1a rfl (fun c e => by cases e) (PySem.W.looks_mroIn K1 T.me) (fun h2 hso k2 => ?_)
  have hk2a := k2 _ _ hk1a
  have K2 : K.In h2 := K1.keeps k2
  have I2 : PySem.W.InstAt h2 a { cls := .ref C, dict := none, data := .fields #[.ref t1, .none, .none, .none, .bool false, .none] } C none := ⟨hk2a, rfl, rfl, trivial⟩
  have hI : PySem.W.Looks (model P w) h2 (isInstance (.ref a) (.type "ValueError")) true := I2.type.andThen (PySem.W.looks_subIn K2 T.ve)
  have hm := T.su
  unfold PySem.W.ks_superIn at hm
  rw [hcl] at hm
  refine PySem.W.kxs_getMethod PySem.W.kxs_ValueError hso (PySem.W.looks_opaque K2 T.op) (l₀ := .ref C :: bm) (fun A Q E s k q => wpAny_bind ((PySem.W.looks_clsIn K2 hcl) A _ E s k (wpAny_pure q))) rfl K2 hm hI (PySem.W.ks_ne K2 I2 hcl) rfl ?_
  have k3 : ∀ b o, h2.get? b = some o → (h2.push (PySem.W.kxs_mw "ValueError.__init__" a)).get? b = some o := fun b o e => Heap.get?_push_of_some _ e
  have hu3 : (h2.push (PySem.W.kxs_mw "ValueError.__init__" a)).get? h2.objs.size = some (PySem.W.kxs_mw "ValueError.__init__" a) := Heap.get?_push_at rfl rfl
  have hk3a := k3 _ _ hk2a
  have K3 := K2.keeps k3
  refine PySem.W.kxs_callWith (i := "ValueError.__init__") (x := a) rfl (Calls.evalArgs_plain ?_)
  refine Calls.spliced_cons (Calls.Constant_str (k := kk) (pos := p3) (Calls.spliced_nil ⟨hu3, ?_⟩))
  show wpAny _ _ (call (.ref h2.objs.size) [Value.str txt _]) _ _ _
  refine wpAny_call (codeAny_of_tree ?_)
  show wpAny _ _ (callAny (.ref h2.objs.size) ⟨_, []⟩) _ _ _
  simp only [callAny]
  refine wpAny_bind (wpAny_load hu3 ?_)
  simp only [PySem.W.kxs_mw, show (Value.type "method-wrapper" == Value.type "method" || Value.type "method-wrapper" == Value.type "builtin_function_or_method" || Value.type "method-wrapper" == Value.type "method-wrapper") = true by decide, if_true]
  refine PySem.W.KFB.if_so (by decide) ?_
  refine wpAny_bind (PySem.W.check_bound_init F.excBase_ValueError.toExcCallFacts (K3 _ _ hC) hk3a rfl ?_)
  refine wpAny_bind (wpAny_pure (wpAny_pure ?_))
  refine ⟨plainId_quiet F.excBase_ValueError.init.plain _, codeAny_builtin F.excBase_ValueError.initEntry ?_⟩
  refine PySem.W.exc_init_tree (cls := .ref C) (t0 := t1) (dv := none) (c2 := .none) (c3 := .none) (b4 := .bool false) hk3a (by show 1 ≤ sizeLine; rw [sizeLine_eq]; omega) fun h4 k4 hx4 _ => ?_
  have k14 : ∀ b o, b ≠ a → hp0.get? b = some o → h4.get? b = some o := fun b o n e => k4 b o n (k3 _ _ (k2 _ _ (hk1 _ _ e)))
  have K4 : K.In h4 := e0.mod.kin.keeps fun b o e => k14 b o (bkH b o e) (bk b o e)
  have hns4 : h4.Ns hp0.objs.size (fun x => (List.zip [("self" : Str), ar] [Value.ref a, u]).reverse.lookup x) := by
    obtain ⟨o, es, ep, e1, z⟩ := hns
    exact ⟨o, es, ep, k4 _ _ aL (k3 _ _ (k2 _ _ e1)), z⟩
  refine PySem.ks_wpAt_execs_cons (PySem.ks_wpAt_Assign_Attr ?_)
  refine wpAt_of_wpAny (wpAny_Name ?_ hdr)
  refine wpAny_loadName_local (m := fun x => (List.zip [("self" : Str), ar] [Value.ref a, u]).reverse.lookup x) rfl hkr ?_ mR ?_
  · exact hns4
  refine wpAny_Name ?_ rfl
  refine wpAny_loadName_local (m := fun x => (List.zip [("self" : Str), ar] [Value.ref a, u]).reverse.lookup x) rfl hka ?_ mS ?_
  · exact hns4
  refine PySem.W.set_plain K4 (ox := { cls := .ref C, dict := none, data := .fields #[.ref _, .none, .none, .none, .bool false, .none] }) (od := none) ⟨hx4, rfl, rfl, trivial⟩ T.ox.sa ?_
  refine PySem.HandSPX.exc_osa K4 hx4 hcl (show PySem.HandSPX.refsVE (.ref C :: bm) = true from hbm) rfl T.na (fun h5 tk5 dx k5' dn dne hx5 hn5 => ?_)
  refine wpAt_of_wpAny ?_
  rw [execs_nil]
  refine wpAny_pure ?_
  have kf : ∀ b o, b ≠ a → hp0.get? b = some o → h5.get? b = some o := fun b o n e => k5' b o n (k14 b o n e)
  have gone : hp0.get? dx = none := by
    cases z : hp0.get? dx with
    | none => rfl
    | some o => exact absurd (Heap.lt_size (k14 dx o dne z)) (Nat.not_lt.mpr dn)
  have hnd : H dx = none := e0.hok.gone gone
  have nd : ∀ {b : Addr} {o : Obj}, hp0.get? b = some o → b ≠ dx := fun {b o} q z => by rw [z, gone] at q; cases q
  refine ⟨.non, upd (upd H dx (exd dx [(fld, v)])) a (exo a C (some dx)), rfl, e0.bare, ?_, fun b o q => ?_, rfl, hq dx hnd dne⟩
  · exact {
      keep := fun b o q n _ _ => kf b o (hna n) q
      slot := fun b o q n _ _ => ⟨o.slots, kf b o (hna n) q⟩
      free := fun b o q n _ => by rw [upd_ne (hna n), upd_ne (nd q)]; exact n
      there := fun b o q _ => by
        by_cases hb : b = a
        · exact ⟨_, by rw [hb]; exact hx5⟩
        · exact ⟨o, kf b o hb q⟩
      tups := fun b xs q => by rw [upd_ne (at_ne ha q exo_tup), upd_ne (ne_of_none q hnd)]; exact q
      frzs := fun b o v q => by rw [upd_ne (at_ne ha q exo_frz), upd_ne (ne_of_none q hnd)]; exact q
      tbls := fun b ps q => ⟨#[], by rw [upd_ne (at_ne ha q exo_tbl), upd_ne (ne_of_none q hnd), q]; simp⟩ }
  · by_cases hb : b = a
    · subst hb
      rw [upd_same] at q
      cases q
      exact exo_ok hx5
    · rw [upd_ne hb] at q
      by_cases hd : b = dx
      · subst hd
        rw [upd_same] at q
        cases q
        exact exd_ok hn5 (relO_put (fs := []) ru fun g => True.intro)
      · rw [upd_ne hd] at q
        exact (e0.hok b o q).stay (fun c v hc z => kf c v (by
            rcases hc with hc | hc
            · rw [hc]
              exact hb
            · exact at_ne ha hc exo_own) z)
          (fun c hc => by rw [upd_ne (at_ne ha hc exo_own), upd_ne (ne_of_none hc hnd)]; exact hc) (fun c xs hc => by rw [upd_ne (at_ne ha hc exo_tup), upd_ne (ne_of_none hc hnd)]; exact hc)
end Mi
namespace Mi
open PySem PySem.Spec PyProof.Rows L2
/-! ### exceptions as values -/
def mExn0 (x : Str) : EM D := fun env => .ok (.exn x [] [], env)
def mExn1 (x f : Str) (ma : EM Arg) : EM D := fun env => (ma env).bind fun (y, e) => match y.get e with
  | some d => if fz d = true then .ok (.exn x [f] [d], e) else .bad
  | none => .bad
section
variable {X : Cx} {G : Gm} {W : WX} {lv : Nat} {p pos : Pos} {x : Str} {e : Expr}
theorem r_exn0 (s : St0 X G) (E : ExcC G.C x) (hg : Gl X x) (hdb : (x == ("__debug__" : Str)) = false := by decide) : PE X (.Call (.Name x p) [] [] pos) (tE G W (mExn0 x)) := by
  obtain ⟨C, h1, h2, h3, h4, h5⟩ := E.ex
  rw [← s.k] at h2 h3 h4 h5
  have h1' := h1
  rw [← s.m] at h1
  refine ⟨fun pins s0 σ H Q I h => ?_⟩
  refine wpAny_Call_Name_kw (ld_glob I hg h1 ?_ hdb)
  obtain ⟨hp1, g1, d1, tk1, os1⟩ := s0
  refine PySem.W.callWith_K0 I.kIn h3 ?_
  show wpAny _ _ (call (.ref C) []) _ _ _
  obtain ⟨bm, N, nm, qn, bs, hdct, sn, sub, ab, col, dd, k0, k1, k2, k3, k5, mN, hC, hN, hni, T⟩ := exc_obj I.kIn h2
  refine wpAny_call_exc_subT PySem.F.excBase_ValueError T hC hN hni (fun h' e hm => ?_) (Nat.zero_le _)
  have hn : H e = none := I.hok.gone hm.new
  obtain ⟨t, ht, _, _⟩ := hm.there
  obtain ⟨a, env, rfl, rel, post⟩ := h
  obtain ⟨gr, ok⟩ := grow_f (o := exo e C none) rel.ok hn
  refine ⟨.ref e, upd a.H e (exo e C none), I.laidN hm.keeps hm.new hn (exo_ok ht), rfl, ?_⟩
  refine post ⟨upd a.F e (exo e C none), upd a.H e (exo e C none), a.t⟩ gr.step (rel.grow gr ok) (.ref e) ?_
  exact ⟨e, C, none, [], rfl, h1', rfl, upd_same, .inl ⟨rfl, rfl⟩, rfl, rfl⟩

/- C(e), C's own __init__ saying super().__init__(text), self.f = e -/
def tSup (a0 : Unit) (C : Addr) (f : Str) (te : TE) : TE := fun σ H Q => te σ H fun v H1 => ∀ a dx, H1 a = none → H1 dx = none → dx ≠ a → Q (.ref a) (upd (upd (upd H1 a (exo a C none)) dx (exd dx [(f, v)])) a (exo a C (some dx)))
theorem pe_sup {C fI : Addr} {k : Nat} {fd : FuncData} {ps : List Str} {f : Str} {te : TE} (T : OexC X.K C) (iC : PySem.W.findIn X.K (.ref C) "__init__" = some (some (.ref fI))) (tI : PySem.W.typeIn X.K (.ref fI) = some (.type "function"))
    (F1 : FnOk X.prog X.w X.K X.mg X.base CX0 k fI fd ps (supSp C f)) (hr : Room (k + 1) X.A) (hb : Binds X.K fd ps []) (hg : Gl X x) (hm : X.mg x = some (.ref C)) (he1 : PE X e te)
    (hdb : (x == ("__debug__" : Str)) = false := by decide) (he : starEach [e] X.env = (false, eval e X.env) :: starEach [] X.env := by rfl) (hpl : (backTo pos (starEach [] X.env)).any (·.1) = false := by rfl) :
    PE X (.Call (.Name x p) [e] [] pos) (tSup () C f te) := by
  refine ⟨fun pins s σ H Q I h => ?_⟩
  obtain ⟨nm, q, N, bs, bm, sn, sub, ab, col, dd, k0, k1, k2, k3, k5, hC, hbm⟩ := T.cls
  refine wpAny_Call_Name_kw (ld_glob I hg hm ?_ hdb)
  refine PySem.W.callWith_K (h₀ := X.base) I.ok.mod.kin T.kC ?_ he hpl
  rw [he]
  show wpAny _ _ (spliced ((false, eval e X.env) :: backTo pos (starEach [] X.env))) _ _ s
  refine Calls.spliced_cons (thn (he1.run pins s σ H _ I h) fun u s1 ⟨v, H1, I1, r1, q1⟩ => ?_)
  refine Calls.spliced_nil ⟨I1.kIn, ?_⟩
  show wpAny _ _ (call (.ref C) [u]) _ _ _
  obtain ⟨hp, g, dr, tk, os⟩ := s1
  have hsz : hp.objs.size ≤ hp.objs.size + 1 := Nat.le_succ _
  have hn : H1 (hp.objs.size + 1) = none := I1.hok.fresh hsz
  have kk : ∀ b o, hp.get? b = some o → ((hp.push (PySem.W.kdv_tup [u])).push (PySem.HandSPX.excO C hp.objs.size)).get? b = some o := fun b o e => Heap.get?_push_of_some _ (Heap.get?_push_of_some _ e)
  have hget : ((hp.push (PySem.W.kdv_tup [u])).push (PySem.HandSPX.excO C hp.objs.size)).get? (hp.objs.size + 1) = some (PySem.HandSPX.excO C hp.objs.size) := by heap_get
  have I2 : Inv X pins σ (upd H1 (hp.objs.size + 1) (exo (hp.objs.size + 1) C none)) ⟨(hp.push (PySem.W.kdv_tup [u])).push (PySem.HandSPX.excO C hp.objs.size), g, dr, tk, os⟩ :=
    I1.laid (t' := tk) (a := hp.objs.size + 1) (o := exo (hp.objs.size + 1) C none) (h' := (hp.push (PySem.W.kdv_tup [u])).push (PySem.HandSPX.excO C hp.objs.size)) kk hsz (exo_ok hget)
  have r2 : Vals [V.ref (hp.objs.size + 1), v] [Value.ref (hp.objs.size + 1), u] := .cons rfl (.cons r1 .nil)
  have hq : supSp C f [V.ref (hp.objs.size + 1), v] (upd H1 (hp.objs.size + 1) (exo (hp.objs.size + 1) C none)) (fun z H2 => z = .non ∧ ∃ dx, H1 dx = none ∧ dx ≠ hp.objs.size + 1 ∧ H2 = upd (upd (upd H1 (hp.objs.size + 1) (exo (hp.objs.size + 1) C none)) dx (exd dx [(f, v)])) (hp.objs.size + 1) (exo (hp.objs.size + 1) C (some dx))) (fun _ _ _ => False) :=
    ⟨_, v, rfl, upd_same, fun dx hd ne => ⟨rfl, dx, by rw [upd_ne ne] at hd; exact hd, ne, rfl⟩⟩
  have hl : [Value.ref (hp.objs.size + 1), u].length = ps.length := by
    have e := r2.length
    rw [F1.len _ _ _ _ hq] at e
    exact e.symm
  have hbx := hb ⟨(hp.push (PySem.W.kdv_tup [u])).push (PySem.HandSPX.excO C hp.objs.size), g, dr, tk, os⟩ [Value.ref (hp.objs.size + 1), u] I2.kIn (by rw [List.append_nil]; exact hl)
  rw [List.append_nil] at hbx
  refine wpAny_call (PySem.HandSPX.call_own F.excBase_ValueError (fun Y => PySem.HandSPX.refsVE_contains Y bm hbm) (I1.kIn _ _ hC) (PySem.W.looks_findIn I1.kIn iC) (fun self => PySem.W.bind_fn I1.kIn self tI) (by show 1 ≤ sizeLine; rw [sizeLine_eq]; omega)
    (codeAny_mono (F1.run _ X.stack _ _ ⟨[Value.ref (hp.objs.size + 1), u], []⟩ [Value.ref (hp.objs.size + 1), u] _ _ (fun _ _ _ => False) (hr.make C [u] []) (I2.env0.make C [u] []) hbx r2 hq) fun r s' hq' => ?_))
  cases r with
  | error er => exact False.elim hq'
  | ok fl =>
    cases fl with
    | ret w =>
      obtain ⟨z, H2, os2, bare2, un2, hok2, rv, ev, dx, hd, ne, e2⟩ := hq'
      subst ev e2
      exact ⟨rv, .ref (hp.objs.size + 1), _, I2.call' (ch := []) os2 un2 hok2 bare2 (fun b z => absurd z (by simp)), rfl, q1 _ dx hn hd ne⟩
    | next => exact False.elim hq'
    | brk => exact False.elim hq'
    | cont => exact False.elim hq'
/- an own class with such an __init__ -/
structure Sup1 (C : KM) (k : Nat) (x f : Str) : Prop where
  ex : ∃ (u fI : Addr) (fd : FuncData) (ps : List Str), C.mg x = some (.ref u) ∧ OexC C.K u ∧ PySem.W.findIn C.K (.ref u) "__init__" = some (some (.ref fI)) ∧ PySem.W.typeIn C.K (.ref fI) = some (.type "function") ∧ Binds C.K fd ps [] ∧
    ∀ base, FnOk C.P C.w C.K C.mg base CX0 k fI fd ps (supSp u f)
theorem upd3 {H : Hp} {a dx : Addr} {o0 o1 o2 : HO} (ne : dx ≠ a) : upd (upd (upd H a o0) dx o1) a o2 = upd (upd H dx o1) a o2 := by
  funext b
  by_cases hb : b = a
  · subst hb; rw [upd_same, upd_same]
  · rw [upd_ne hb, upd_ne hb]
    by_cases hd : b = dx
    · subst hd; rw [upd_same, upd_same]
    · rw [upd_ne hd, upd_ne hd, upd_ne hb]
theorem r_exn1 {f : Str} {ma : EM Arg} {j : Nat} (s : Go X G W lv) (E : Sup1 G.C j x f) (hj : j + 1 ≤ lv) (hg : Gl X x) (he1 : PE X e (tArg G W ma)) (hdb : (x == ("__debug__" : Str)) = false := by decide)
    (he : starEach [e] X.env = (false, eval e X.env) :: starEach [] X.env := by rfl) (hpl : (backTo pos (starEach [] X.env)).any (·.1) = false := by rfl) : PE X (.Call (.Name x p) [e] [] pos) (tE G W (mExn1 x f ma)) := by
  obtain ⟨C, fI, fd, ps, h1, h2, h3, h4, h5, h6⟩ := E.ex
  have h1' := h1
  have h6' := h6 X.base
  rw [← s.k] at h2 h3 h4 h5
  rw [← s.m] at h1
  rw [← s.p, ← s.w, ← s.k, ← s.m] at h6'
  refine (pe_sup h2 h3 h4 h6' (s.rm.mono hj) h5 hg h1 he1 hdb he hpl).weak fun σ H Q h => ?_
  obtain ⟨a, env, rfl, rel, post⟩ := h
  refine tArg_of rel post fun y e1 b v s1 rel1 ar1 post1 => fun A dx hA hd ne => ?_
  dsimp only at post1
  cases hx : y.get e1 with
  | none => rw [hx] at post1; exact (show False from post1).elim
  | some d =>
    rw [hx] at post1
    dsimp only at post1
    by_cases z : fz d = true
    · rw [if_pos z] at post1
      obtain ⟨r1, p1⟩ := ar1.rep rel1 hx
      obtain ⟨g1, k1⟩ := grow_f (o := exd dx [(f, v)]) rel1.ok hd
      have hA2 : (⟨upd b.F dx (exd dx [(f, v)]), upd b.H dx (exd dx [(f, v)]), b.t⟩ : Wd).H A = none := by
        show upd b.H dx _ A = none
        rw [upd_ne (Ne.symm ne)]; exact hA
      obtain ⟨g2, k2⟩ := grow_f (o := exo A C (some dx)) k1 hA2
      rw [upd3 ne]
      refine post1 ⟨upd (upd b.F dx (exd dx [(f, v)])) A (exo A C (some dx)), upd (upd b.H dx (exd dx [(f, v)])) A (exo A C (some dx)), b.t⟩ (g1.trans g2).step (rel1.grow (g1.trans g2) k2) (.ref A) ?_
      refine ⟨A, C, some dx, [v], rfl, h1', rfl, upd_same, .inr ⟨dx, rfl, ?_⟩, by simp [fzL, z], v, [], rfl, ?_, rfl⟩
      · show upd _ A _ dx = _
        rw [upd_ne ne]; exact upd_same
      · exact p1.step rel1.ok (g1.trans g2).step z
    · rw [if_neg z] at post1; exact (show False from post1).elim
end
end Mi
namespace Mi
open PySem PySem.Spec PyProof.Rows L2
/-! ### fields of exceptions, isinstance of them, raise C(e) -/
def xfD (cs : List Str) (f : Str) : D → Option D
  | .exn c [g] [w] => if c ∈ cs ∧ g = f then some w else none
  | _ => none
structure XfOk (C : KM) (c f : Str) : Prop where
  ex : ∃ u, C.mg c = some (.ref u) ∧ XfC C.K u ∧ PySem.W.findIn C.K (.ref u) f = some none
section
variable {X : Cx} {G : Gm} {W : WX} {lv : Nat} {p pos pos' : Pos} {x : Str} {e : Expr}
theorem r_xf {f : Str} {ma : EM Arg} (s : St0 X G) (cs : List Str) (T : ∀ c ∈ cs, XfOk G.C c f) (ha : PE X e (tArg G W ma)) (hb : attributeBase e f X.env (eval e X.env) = eval e X.env := by rfl) : PE X (.Attribute e f pos) (tE G W (mUn (xfD cs f) ma)) := by
  refine ⟨fun pins s0 σ H Q I h => ?_⟩
  refine attr_of hb (thn (ha.run pins s0 σ H _ I (un_w h)) fun u s1 ⟨v, H1, I1, rv, a, d1, r1, d, hH, ok, rp, hd, q⟩ => ?_)
  subst hH
  match d1, hd, rp with
  | .exn c [g] [w], hd, rp =>
    simp only [xfD] at hd
    split at hd
    · rename_i hc
      cases hd
      obtain ⟨hmem, rfl⟩ := hc
      obtain ⟨cu, m1, T1, hno⟩ := (T c hmem).ex
      simp only [Rep, RepL] at rp
      obtain ⟨y, u2, dx, vs, rfl, m2, hl, hF, her, hfz, vv, us, rfl, rp1, rfl⟩ := rp
      rw [m1] at m2; cases m2
      rw [← s.k] at T1 hno
      obtain rfl : u = Value.ref y := rv
      rcases her with ⟨_, z⟩ | ⟨d2, rfl, hD⟩
      · cases z
      have hz : fz d = true := by simpa [fzL] using hfz
      obtain ⟨t1, ho⟩ := exo_at I1.hok (ok.sub _ _ hF)
      obtain ⟨mA, hns, hr⟩ := exd_at I1.hok (ok.sub _ _ hD)
      obtain ⟨od, hod, hlk⟩ := lookIn_ns hns
      have hlk0 : List.lookup g (List.zip [g] [vv]) = some vv := by
        show List.lookup g [(g, vv)] = _
        rw [List.lookup_cons, beq_self_eq_true]
      obtain ⟨uu, hu, ru⟩ := RelO.some_of (v := vv) (o := mA g) (by rw [← hlk0]; exact hr g)
      have J : PySem.W.InstAt s1.heap y ({ cls := .ref cu, dict := some d2, data := .fields #[.ref t1, .none, .none, .none, .bool false, .none] } : Obj) cu (some od) := ⟨ho, rfl, rfl, hod⟩
      exact HandSPX.exc_get I1.kIn J T1.ga T1.gg T1.exC (PySem.W.findObj_own T1.hdC hno rfl (by rw [hlk, hu])) (handed_of ru) ⟨vv, a.H, I1.tok _, ru, q vv a (Grow.refl a) ok (rp1.step ok (Step.refl a) hz)⟩
    · cases hd

/- isinstance of an exception -/
def isX (cs : List Str) (all : Bool) (c : Str) : D → Option D
  | .exn c' _ _ => if c' ∈ cs then some (.bl (all || c' == c)) else none
  | _ => none
structure IsX (C : KM) (cs : List Str) (all : Bool) (c : Str) (cv : Value) : Prop where
  ex : ∀ c' ∈ cs, ∃ u', C.mg c' = some (.ref u') ∧ L2.ExcC C.K u' ∧ PySem.W.kitOne C.K (.ref u') cv = some (all || c' == c)
theorem cls_some {K : PySem.W.Frag} {u : Addr} (h : PySem.W.hasDictIn K u = true) : (PySem.W.clsIn K u).isSome = true := by
  unfold PySem.W.hasDictIn at h
  cases e : PySem.W.clsIn K u with
  | none => rw [e] at h; cases h
  | some c => rfl
def rIsX (K : PySem.W.Frag) : List V → Hp → VK → Prop := fun xs H Q => ∃ (a u : Addr) (dx : Option Addr) (c : V) (cv : Value) (b : Bool), xs = [.ref a, c] ∧ H a = some (exo a u dx) ∧ (dx = none ∨ ∃ d fs, dx = some d ∧ H d = some (exd d fs)) ∧ L2.ExcC K u ∧ (∀ w, RelV c w → w = cv) ∧ PySem.W.kitOne K (.ref u) cv = some b ∧ Q (.bl b) H
theorem call_isX : CallR X (.builtin "isinstance") (rIsX X.K) := by
  intro pins s σ H xs us Q I r h
  obtain ⟨a, u, dx, c, cv, b, rfl, hF, hdx, C, hcv, e, q⟩ := h
  cases r with
  | cons rx rr =>
    cases rr with
    | cons rt rr =>
      cases rr
      cases rx
      have ec := hcv _ rt
      subst ec
      obtain ⟨t1, ho⟩ := exo_at I.hok hF
      have fin : ∀ tk, EP X pins σ Q (.bool b) { s with toks := tk } := fun tk => ⟨.bl b, H, I.kept (t' := tk) fun _ _ z => z, rfl, q⟩
      rcases hdx with rfl | ⟨d, fs, rfl, hD⟩
      · exact PySem.W.kia_one (PySem.W.kitx_exc (cls_some C.hd) C.hg C.hk C.hs C.ha C.hn C.ht C.hm) I.kIn (⟨ho, rfl, rfl, trivial⟩ : PySem.W.InstAt s.heap a _ u none) e (fun z => nomatch z) fin
      · obtain ⟨mA, hns, hr⟩ := exd_at I.hok hD
        obtain ⟨od, hod, _⟩ := lookIn_ns hns
        exact PySem.W.kia_one (PySem.W.kitx_exc (cls_some C.hd) C.hg C.hk C.hs C.ha C.hn C.ht C.hm) I.kIn (⟨ho, rfl, rfl, hod⟩ : PySem.W.InstAt s.heap a _ u (some od)) e (fun z => nomatch z) fin
theorem isX_w {cs : List Str} {all : Bool} {c : Str} {cv : Value} {cV : V} {ma : EM Arg} {σ : L2.St} {H : Hp} {Q : VK} (hcv : ∀ w, RelV cV w → w = cv) (T : IsX G.C cs all c cv) (h : tE G W (mUn (isX cs all c) ma) σ H Q) : tCB (rIsX G.C.K) (tCons (tArg G W ma) (tCons (tC cV) tNil)) σ H Q := by
  obtain ⟨a, env, rfl, rel, post⟩ := h
  refine tArg_of rel post fun x e b v st r ar p => ?_
  dsimp only at p
  cases hx : x.get e with
  | none => rw [hx] at p; exact (show False from p).elim
  | some d =>
    rw [hx] at p
    dsimp only at p
    obtain ⟨d', hd, k'⟩ := p.lift r
    obtain ⟨r1, p1⟩ := ar.rep r hx
    cases d <;> simp only [isX] at hd <;> (try (cases hd; done))
    rename_i c' ns ws
    split at hd
    · rename_i hmem
      cases hd
      obtain ⟨u', m1, hc, hk⟩ := T.ex c' hmem
      simp only [Rep] at p1
      obtain ⟨y, u2, dx, vs, rfl, m2, hl, hF, her, hfz, _⟩ := p1
      rw [m1] at m2; cases m2
      refine ⟨y, u', dx, cV, cv, _, rfl, r.ok.sub _ _ hF, ?_, hc, hcv, hk, k' b (Grow.refl b) r.ok _ rep_ofbl⟩
      rcases her with ⟨z, _⟩ | ⟨d2, z, hD⟩
      · exact .inl z
      · exact .inr ⟨d2, _, z, r.ok.sub _ _ hD⟩
    · cases hd
theorem r_isX {a ce : Expr} {ma : EM Arg} {c : Str} {cv : Value} {cV : V} {p3 : Pos} (s : St0 X G) (cs : List Str) (all : Bool) (T : IsX G.C cs all c cv) (hcv : ∀ w, RelV cV w → w = cv) (ha : PE X a (tArg G W ma)) (hc : PE X ce (tC cV)) (h1 : G.C.mg "isinstance" = none) (hg : Gl X "isinstance") (hv1 : bootBuiltins "isinstance" = some (.builtin "isinstance"))
    (he1 : starEach [a, ce] X.env = (false, eval a X.env) :: starEach [ce] X.env := by rfl) (he2 : starEach [ce] X.env = (false, eval ce X.env) :: starEach [] X.env := by rfl) (hpl : (backTo pos (starEach [ce] X.env)).any (·.1) = false := by rfl) :
    PE X (.Call (.Name "isinstance" p3) [a, ce] [] pos) (tE G W (mUn (isX cs all c) ma)) := by
  rw [← s.m] at h1
  refine (pe_callB (r := rIsX X.K) call_isX hg h1 hv1 (pa_cons ha (pa_cons hc pa_nil he2) he1) (by decide) (by decide) he1 hpl).weak fun σ H Q h => ?_
  rw [s.k]
  exact isX_w hcv T h

/- raise C(e) -/
def mRaise1 (x f : Str) (ma : EM Arg) : EM FlowD := fun env => (ma env).bind fun (y, e) => match y.get e with
  | some d => if fz d = true then .exc ⟨x, [f], [d]⟩ e else .bad
  | none => .bad
theorem rs_raise1 {f : Str} {ma : EM Arg} {j : Nat} (s : Go X G W lv) (E : Sup1 G.C j x f) (hj : j + 1 ≤ lv) (hg : Gl X x) (he1 : PE X e (tArg G W ma)) (hdb : (x == ("__debug__" : Str)) = false := by decide)
    (he : starEach [e] X.env = (false, eval e X.env) :: starEach [] X.env := by rfl) (hpl : (backTo pos (starEach [] X.env)).any (·.1) = false := by rfl) :
    PS X (.Raise (some (.Call (.Name x p) [e] [] pos)) none pos') (tS G W (mRaise1 x f ma)) := by
  obtain ⟨C, fI, fd, ps, h1, h2, h3, h4, h5, h6⟩ := E.ex
  have h1' := h1
  have h6' := h6 X.base
  rw [← s.k] at h2 h3 h4 h5
  rw [← s.m] at h1
  rw [← s.p, ← s.w, ← s.k, ← s.m] at h6'
  refine (ps_raise s.cm s.tk (pmk_oex h2 h3 h4 h6' (s.rm.mono hj) h5 .nil pass0 hg h1 (pa_cons he1 pa_nil he) hdb he hpl)).weak fun D σ H q => ?_
  obtain ⟨a, env, rfl, rel, post⟩ := q
  refine tArg_ofS rel post fun y e1 b v s1 rel1 ar1 post1 => ⟨by show 1 ≤ 1000; omega, fun A hA => ?_⟩
  dsimp only at post1
  cases hx : y.get e1 with
  | none => rw [hx] at post1; exact (show False from post1).elim
  | some d =>
    rw [hx] at post1
    dsimp only at post1
    by_cases z : fz d = true
    · rw [if_pos z] at post1
      obtain ⟨r1, p1⟩ := ar1.rep rel1 hx
      refine ⟨A, v, rfl, upd_same, fun dx hd ne => ⟨rfl, dx, [(f, v)], upd_same, ?_, ?_, ?_⟩⟩
      · rw [upd_ne ne]; exact upd_same
      · rw [upd_ne ne] at hd; exact hd
      rw [upd_ne ne] at hd
      obtain ⟨g1, k1⟩ := grow_f (o := .xd [(f, v)]) rel1.ok hd
      have eH : upd (del (upd (upd (upd b.H A (exo A C none)) dx (exd dx [(f, v)])) A (exo A C (some dx))) A) dx (.xd [(f, v)]) = upd b.H dx (.xd [(f, v)]) := by
        funext w
        by_cases h1 : w = dx
        · rw [h1, upd_same, upd_same]
        · rw [upd_ne h1, upd_ne h1]
          by_cases h2 : w = A
          · rw [h2, del_same, hA]
          · rw [del_ne h2, upd_ne h2, upd_ne h1, upd_ne h2]
      rw [eH]
      refine post1 ⟨upd b.F dx (.xd [(f, v)]), upd b.H dx (.xd [(f, v)]), b.t⟩ σ (.ref C) (some dx) g1.step (rel1.grow g1 k1) ⟨h1', .inr ⟨dx, [v], rfl, upd_same, rfl, by simp [fzL, z], v, [], rfl, p1.step rel1.ok g1.step z, rfl⟩⟩
    · rw [if_neg z] at post1; exact (show False from post1).elim
end
end Mi
namespace Mi
open PySem PySem.Spec PyProof.Rows L2
/-! ### try: .. except X as n: y = .. -/
def mTryAs (i j : Nat) (yes no : List Str) (mv : Exc → Option D) (body : EM FlowD) : EM FlowD := fun env => match body env with
  | .exc x e => if x.cls ∈ yes then (match mv x with
      | some w => if i < e.length then .ok (.next, (e.set j (some w)).set i none) else .bad
      | none => .bad) else if x.cls ∈ no then .exc x e else .bad
  | r => r
/- n.f -/
def mvPart (c f : Str) (x : Exc) : Option D := if x.cls = c then (match x.ns, x.ws with
  | [g], [w] => if g = f then some w else none
  | _, _ => none) else none
def mvList (mv : Exc → Option D) (x : Exc) : Option D := match mv x with
  | some w => if fz w = true then some (.lst true [w]) else none
  | none => none
def tEx (G : Gm) (i : Nat) (a : Addr) (cls : Value) (d : Option Addr) (mv : Exc → Option D) : TE := fun σ H Q => ∃ b x w, b.H = H ∧ Ok b ∧ σ[i]? = some (some (.ref a)) ∧ ExcRep G.C b x cls d ∧ mv x = some w ∧ ∀ v c, Grow b c → Ok c → Rep G.C c 0 [] v w → Q v c.H
theorem RelE.unset {G : Gm} {a : Wd} {σ : L2.St} {env : EnvD} (r : RelE G a σ env) {i : Nat} (hi : i ∉ G.io) : RelE G a (σ.set i none) (env.set i none) := by
  refine ⟨r.ok, by rw [List.length_set, List.length_set]; exact r.len, fun j e hj => ?_, fun j hj w hw => ?_⟩
  · by_cases ij : i = j
    · subst ij
      rw [List.getElem?_set] at hj
      rw [if_pos rfl] at hj
      split at hj <;> cases hj
    · rw [List.getElem?_set_ne ij] at hj ⊢
      exact r.slot j e hj
  · have ij : i ≠ j := fun z => hi (by rw [z]; exact hj)
    rw [List.getElem?_set_ne ij]
    exact r.prm j hj w hw
section
variable {X : Cx} {G : Gm} {W : WX} {lv : Nat} {p pos pos' : Pos} {x n y : Str} {e : Expr} {a : Addr} {oe : Obj} {cls : Value} {d : Option Addr} {pn : List (Addr × Obj)} {i : Nat}
theorem re_part {f c : Str} (s : St0 X G) (T : XfOk G.C c f) (hz : Zc cls d oe) (hf : ∃ vs, oe.data = .fields vs) (hN : X.N[i]? = some n) (hv : Vis X.env.scope n) (hdb : (n == ("__debug__" : Str)) = false := by decide) (hcd : (n == ("__classdict__" : Str)) = false := by decide)
    (hb : attributeBase (.Name n p) f X.env (eval (.Name n p) X.env) = eval (.Name n p) X.env := by rfl) :
    PE (X.suite a ((a, oe) :: pn)) (.Attribute (.Name n p) f pos) (tEx G i a cls d (mvPart c f)) := by
  obtain ⟨C, h1, h2, h3⟩ := T.ex
  rw [← s.k] at h2 h3
  refine (pe_xf (X := X) (cls := cls) (d := d) (pos := pos) h2 h3 hz hf (pe_var (X := X.suite a ((a, oe) :: pn)) (pos := p) hN hv hdb hcd) hb).weak fun σ H Q h => ?_
  obtain ⟨b, x, w, rfl, ok, hs, er, hm, q⟩ := h
  simp only [mvPart] at hm
  split at hm
  case isFalse => cases hm
  rename_i hc
  obtain ⟨m1, er⟩ := er
  obtain ⟨xc, ns, ws⟩ := x
  dsimp only at hc m1 er hm
  subst hc
  rw [h1] at m1
  cases m1
  split at hm
  case h_2 => cases hm
  rename_i g w1
  split at hm
  case isFalse => cases hm
  rename_i hg
  cases hm
  subst hg
  rcases er with ⟨z, _⟩ | ⟨u, vs, rfl, hF, hl, hfz, hrep⟩
  · cases z
  simp only [RepL] at hrep
  obtain ⟨v, us, rfl, rp, rfl⟩ := hrep
  refine ⟨.ref a, hs, rfl, rfl, u, [(g, v)], v, rfl, ok.sub _ _ hF, ?_, ?_⟩
  · rw [List.lookup_cons, beq_self_eq_true]
  · exact q v b (Grow.refl b) ok (rp.step ok (Step.refl b) (by simpa [fzL] using hfz))
theorem re_list {mv : Exc → Option D} (h : PE (X.suite a ((a, oe) :: pn)) e (tEx G i a cls d mv)) (hs : starEach [e] X.env = (false, eval e X.env) :: starEach [] X.env := by rfl) : PE (X.suite a ((a, oe) :: pn)) (.List [e] pos) (tEx G i a cls d (mvList mv)) := by
  refine (pe_lst (pa_cons h pa_nil hs)).weak fun σ H Q q => ?_
  obtain ⟨b, x, w, rfl, ok, hs, er, hm, q⟩ := q
  unfold mvList at hm
  cases hw : mv x with
  | none => rw [hw] at hm; cases hm
  | some w1 =>
    rw [hw] at hm
    dsimp only at hm
    split at hm
    · rename_i z
      cases hm
      refine ⟨b, x, w1, rfl, ok, hs, er, hw, fun v c gr okc rp => ⟨by show 1 ≤ sizeLine; rw [sizeLine_eq]; omega, fun A hA => ?_⟩⟩
      have rl : RepL G.C c 0 [] 0 [v] [w1] := ⟨v, [], rfl, rp.step okc (Step.refl c) z, rfl⟩
      exact new_lst okc (by simp [fzL, z]) rl (fun z b' g' k' r' => q z b' (gr.trans g') k' r') A hA
    · cases hm
theorem rs_tryAs {c : Value} {body : List Stmt} {np py pa : Pos} {ve : Expr} {ms : EM FlowD} {mv : Exc → Option D} (s : Go X G W lv) (hst : X.stack = X.env :: X.outer) (hf : X.env.frame = some X.env.locals) (hc : Names X x c) (i j : Nat) (yes no : List Str) (hio : i ∉ G.io) (hjo : j ∉ G.io) (hij : i ≠ j)
    (hN : X.N[i]? = some n) (hln : X.env.kindOf n = some .local) (hNj : X.N[j]? = some y) (hlj : X.env.scope.names.lookup y = some .local)
    (hy : ∀ n ∈ yes, ∀ u, G.C.mg n = some u → PySem.W.exmOne G.C.K u c = some true) (hn : ∀ n ∈ no, ∀ u, G.C.mg n = some u → PySem.W.exmOne G.C.K u c = some false)
    (hb : ∀ (W' : WX) (pn : List (Addr × Obj)) (xe : Value → Shared → Prop), Go (X.tr pn xe) G W' lv → PSs (X.tr pn xe) body (tS G W' ms))
    (hv : ∀ (a : Addr) (oe : Obj) (cls : Value) (d : Option Addr) (pn : List (Addr × Obj)), Zc cls d oe → (∃ vs, oe.data = .fields vs) → PE (X.suite a ((a, oe) :: pn)) ve (tEx G i a cls d mv))
    (hsw : swapsWith ve (some (.Name y py)) pa.line X.env = pure false := by rfl) :
    PS X (.Try body [.ExceptHandler (some (.Name x np)) (some n) [.Assign [.Name y py] ve pa] pos'] [] [] pos) (tS G W (mTryAs i j yes no mv ms)) := by
  refine (ps_try_as (i := i) hst hf s.n hN hln hc s.tk (fun W' pn xe tk pw => hb W' pn xe (s.tr tk pw))
    (fun a oe cls d pn hz hf => pss_one (ps_set (X := X.suite a ((a, oe) :: pn)) (i := j) s.n hNj (.inl hlj) (hv a oe cls d pn hz hf) hsw (.inr hlj)))).weak fun D σ H q => ?_
  obtain ⟨a, env, rfl, rel, post⟩ := q
  refine ⟨a, env, rfl, rel, ?_⟩
  unfold mTryAs at post
  cases hm : ms env with
  | bad => rw [hm] at post; exact post
  | ok fe =>
    obtain ⟨f, e⟩ := fe
    rw [hm] at post
    cases f <;> exact post
  | exc z e =>
    rw [hm] at post
    dsimp only at post
    split at post
    · rename_i hin
      intro b σ' cls dd st r er
      refine ⟨true, by rw [s.k]; exact hy _ hin _ er.1, fun _ A hA => ?_, fun z => Bool.noConfusion z⟩
      cases hw : mv z with
      | none => rw [hw] at post; exact (show False from post).elim
      | some w =>
        rw [hw] at post
        dsimp only at post
        split at post
        · rename_i hlt
          rw [r.len] at hlt
          refine ⟨b, z, w, rfl, r.ok, by rw [List.getElem?_set, if_pos rfl, if_pos hlt], er, hw, fun v c gr okc rp => ?_⟩
          have rr := ((r.grow gr okc).sett hjo rp).unset hio
          have es : ((σ'.set i (some (.ref A))).set j (some v)).set i none = (σ'.set j (some v)).set i none := by
            rw [List.set_comm _ _ hij.symm, List.set_set, List.set_comm _ _ hij]
          show D.nx (((σ'.set i (some (.ref A))).set j (some v)).set i none) c.H
          rw [es]
          exact post (mvW c 0 (j + 1)) _ ((st.trans gr.step).trans mvW_step) rr
        · exact (show False from post).elim
    · split at post
      · rename_i hin
        intro b σ' cls dd st r er
        exact ⟨false, by rw [s.k]; exact hn _ hin _ er.1, fun z => Bool.noConfusion z, fun _ => post b σ' cls dd st r er⟩
      · exact (show False from post).elim
end
end Mi
namespace Mi
open PySem PySem.Spec PyProof.Rows L2
/-! ### repr -/
mutual
def pdD : D → Option PyData
  | .non => some .none
  | .bl b => some (.bool b)
  | .int i => some (.int i)
  | .str s => some (.str s)
  | .tup l => (pdL l).map .tuple
  | .lst _ l => (pdL l).map .list
  | _ => none
def pdL : List D → Option (List PyData)
  | [] => some []
  | d :: r => match pdD d, pdL r with | some k, some ks => some (k :: ks) | _, _ => none
end
mutual
theorem pd_nodict : ∀ (d : D) (p : PyData), pdD d = some p → p.hasDict = false
  | .non, p, h => by simp only [pdD] at h; cases h; rfl
  | .bl _, p, h => by simp only [pdD] at h; cases h; rfl
  | .int _, p, h => by simp only [pdD] at h; cases h; rfl
  | .str _, p, h => by simp only [pdD] at h; cases h; rfl
  | .ty _, p, h => by simp only [pdD] at h; cases h
  | .fn _, p, h => by simp only [pdD] at h; cases h
  | .scr _, p, h => by simp only [pdD] at h; cases h
  | .dic _ _ _, p, h => by simp only [pdD] at h; cases h
  | .ins _ _ _ _, p, h => by simp only [pdD] at h; cases h
  | .pd _ _ _, p, h => by simp only [pdD] at h; cases h
  | .exn _ _ _, p, h => by simp only [pdD] at h; cases h
  | .tup l, p, h => by
    simp only [pdD] at h
    obtain ⟨ps, e, rfl⟩ := Option.map_eq_some_iff.mp h
    simp only [PyData.hasDict]; exact pd_nodictL l ps e
  | .lst _ l, p, h => by
    simp only [pdD] at h
    obtain ⟨ps, e, rfl⟩ := Option.map_eq_some_iff.mp h
    simp only [PyData.hasDict]; exact pd_nodictL l ps e
theorem pd_nodictL : ∀ (l : List D) (ps : List PyData), pdL l = some ps → PyData.hasDictAll ps = false
  | [], ps, h => by simp only [pdL] at h; cases h; rfl
  | d :: r, ps, h => by
    simp only [pdL] at h
    split at h
    · rename_i k ks e1 e2
      cases h
      simp only [PyData.hasDictAll, pd_nodict d k e1, pd_nodictL r ks e2, Bool.or_false]
    · cases h
end
section
variable {X : Cx} {C : KM} {pins : List (Addr × Obj)} {σ : L2.St} {a : Wd} {s : Shared}
mutual
theorem rep_reads (hC : C.K = X.K) (ok : Ok a) (I : Inv X pins σ a.H s) : ∀ (d : D) (p : PyData) (r : Nat) (q : List Nat) (v : V) (u : Value), pdD d = some p → Rep C a r q v d → RelV v u → ∃ as, Reads s.heap u p as
  | .non, p, r, q, v, u, h, rp, ru => by simp only [pdD] at h; cases h; cases rep_non rp; cases ru; exact ⟨_, .none⟩
  | .bl _, p, r, q, v, u, h, rp, ru => by simp only [pdD] at h; cases h; cases rep_bl rp; cases ru; exact ⟨_, .bool _⟩
  | .int _, p, r, q, v, u, h, rp, ru => by simp only [pdD] at h; cases h; cases rep_int rp; obtain ⟨t, rfl⟩ := ru; exact ⟨_, .int _ t⟩
  | .str _, p, r, q, v, u, h, rp, ru => by simp only [pdD] at h; cases h; cases rep_str rp; obtain ⟨t, rfl⟩ := ru; exact ⟨_, .str _ t⟩
  | .ty _, p, r, q, v, u, h, rp, ru => by simp only [pdD] at h; cases h
  | .fn _, p, r, q, v, u, h, rp, ru => by simp only [pdD] at h; cases h
  | .scr _, p, r, q, v, u, h, rp, ru => by simp only [pdD] at h; cases h
  | .dic _ _ _, p, r, q, v, u, h, rp, ru => by simp only [pdD] at h; cases h
  | .ins _ _ _ _, p, r, q, v, u, h, rp, ru => by simp only [pdD] at h; cases h
  | .pd _ _ _, p, r, q, v, u, h, rp, ru => by simp only [pdD] at h; cases h
  | .exn _ _ _, p, r, q, v, u, h, rp, ru => by simp only [pdD] at h; cases h
  | .tup l, p, r, q, v, u, h, rp, ru => by
    simp only [pdD] at h
    obtain ⟨ps, e, rfl⟩ := Option.map_eq_some_iff.mp h
    simp only [Rep] at rp
    obtain ⟨x, vs, rfl, hx, hl⟩ := rp
    obtain rfl : u = Value.ref x := ru
    have hx2 : XT C.K a.H x vs := xt_mono ok.sub hx
    have sq := hx2.sq
    rw [hC] at sq
    obtain ⟨its, o, n, r1, e1, e2, e3⟩ := sqT_at I.hok I.kIn sq
    obtain ⟨as, hr⟩ := rep_readsL hC ok I l ps r q 0 vs its e hl r1
    exact ⟨as, .tuple e1 e2 e3 (by simpa using hr)⟩
  | .lst o l, p, r, q, v, u, h, rp, ru => by
    simp only [pdD] at h
    obtain ⟨ps, e, rfl⟩ := Option.map_eq_some_iff.mp h
    obtain ⟨x, vs, rfl, hx, hl⟩ := rp
    obtain rfl : u = Value.ref x := ru
    have hH : a.H x = some (.lst vs) := by
      split at hx
      · exact hx.2
      · exact ok.sub _ _ hx.1
    have z0 : ObjOk X.prog X.w a.H s.heap x (.lst vs) := I.hok x _ hH
    obtain ⟨_, its, n, r1, e1⟩ := z0
    obtain ⟨as, hr⟩ := rep_readsL hC ok I l ps r q 0 vs its e hl r1
    exact ⟨_, .list e1 rfl rfl (by simpa using hr)⟩
theorem rep_readsL (hC : C.K = X.K) (ok : Ok a) (I : Inv X pins σ a.H s) : ∀ (l : List D) (ps : List PyData) (r : Nat) (q : List Nat) (n : Nat) (vs : List V) (us : List Value), pdL l = some ps → RepL C a r q n vs l → Vals vs us → ∃ as, ReadsAll s.heap us ps as
  | [], ps, r, q, n, vs, us, h, rp, ru => by
    simp only [pdL] at h; cases h
    simp only [RepL] at rp; subst rp
    cases ru
    exact ⟨_, .nil⟩
  | d :: l, ps, r, q, n, vs, us, h, rp, ru => by
    simp only [pdL] at h
    split at h
    · rename_i k ks e1 e2
      cases h
      simp only [RepL] at rp
      obtain ⟨v, vs, rfl, rp1, rp2⟩ := rp
      cases ru with
      | cons ru1 ru2 =>
        obtain ⟨as, h1⟩ := rep_reads hC ok I d k r (n :: q) v _ e1 rp1 ru1
        obtain ⟨bs, h2⟩ := rep_readsL hC ok I l ks r q (n + 1) vs _ e2 rp2 ru2
        exact ⟨_, .cons h1 h2⟩
    · cases h
end
end
def reprD : D → Option D
  | .non => some (.str "None")
  | .int i => if i.natAbs.log2 < 1920 then some (.str ((toString i : String) : Str)) else none
  | .str x => if (reprText x).length ≤ sizeLine then some (.str (reprText x)) else none
  | .tup l => match pdD (.tup l) with
    | some p => if p.showable = true ∧ p.shown.length ≤ sizeLine ∧ p.depth ≤ 8 then some (.str p.shown) else none
    | none => none
  | .lst o l => match pdD (.lst o l) with
    | some p => if p.showable = true ∧ p.shown.length ≤ sizeLine ∧ p.depth ≤ 8 then some (.str p.shown) else none
    | none => none
  | _ => none
def reprL : List D → Option D
  | [d] => reprD d
  | _ => none
theorem call_reprD {X : Cx} {C : KM} (hC : C.K = X.K) (hu : X.A.units + 64 < cLine) (hg : X.A.guards = some []) : CallR X (.builtin "repr") (cD C reprL) := by
  intro pins s σ H xs us Q I r h
  obtain ⟨a, ds, d, rfl, ok, pr, hd, q⟩ := h
  match ds, pr, hd with
  | [d0], pr, hd =>
    cases pr with
    | cons p1 p2 =>
    cases p2
    obtain ⟨r0, rp⟩ := p1
    obtain ⟨u, rfl, ru⟩ := vals1 r
    simp only [reprL] at hd
    have fin : ∀ (x : Str) (t : Tok) (h' : Heap) (tk : Tok), d = .str x → (∀ b o, s.heap.get? b = some o → h'.get? b = some o) → EP X pins σ Q (.str x t) { s with heap := h', toks := tk } := fun x t h' tk e k => by
      subst e
      exact ⟨.str x, a.H, I.kept (h' := h') (t' := tk) k, ⟨t, rfl⟩, q _ a (Grow.refl a) ok (by simp [Rep])⟩
    have obj : ∀ (x : Addr) (p : PyData), u = .ref x → pdD d0 = some p → (if p.showable = true ∧ p.shown.length ≤ sizeLine ∧ p.depth ≤ 8 then some (D.str p.shown) else none) = some d → wpAny (model X.prog X.w) X.A (call (.builtin "repr") [u]) (EP X pins σ Q) X.xe s := fun x p eu ep hd => by
      subst eu
      split at hd
      · rename_i z
        cases hd
        obtain ⟨as, hr⟩ := rep_reads hC ok I d0 p r0 [] _ _ ep rp ru
        refine repr_of_reads' hr z.1 (fun hh => by rw [pd_nodict d0 p ep] at hh; cases hh) hg (by have := z.2.2; omega) (fun _ _ e => e) (fun h' u tk k => fin _ u h' tk rfl k) z.2.1
      · cases hd
    cases d0 <;> simp only [reprD] at hd <;> (try (cases hd; done))
    case non =>
      cases hd; cases rep_non rp; cases ru
      exact P.repr_of_none (fin _ _ s.heap _ rfl fun _ _ e => e)
    case int i =>
      split at hd
      · rename_i z
        cases hd; cases rep_int rp; obtain ⟨t, rfl⟩ := ru
        exact P.repr_of_int z (fin _ _ s.heap _ rfl fun _ _ e => e)
      · cases hd
    case str x =>
      split at hd
      · rename_i z
        cases hd; cases rep_str rp; obtain ⟨t, rfl⟩ := ru
        exact P.repr_of_str (fin _ _ s.heap _ rfl fun _ _ e => e) z
      · cases hd
    case tup l =>
      split at hd
      · rename_i p ep
        obtain ⟨x, vs, rfl, _⟩ := (show ∃ x vs, _ = V.ref x ∧ _ from by simpa only [Rep] using rp)
        obtain rfl : u = Value.ref x := ru
        exact obj x p rfl ep hd
      · cases hd
    case lst o l =>
      split at hd
      · rename_i p ep
        obtain ⟨x, vs, rfl, _⟩ := (show ∃ x vs, _ = V.ref x ∧ _ from rp)
        obtain rfl : u = Value.ref x := ru
        exact obj x p rfl ep hd
      · cases hd
end Mi
namespace Mi
open PySem PySem.Spec PyProof.Rows L2
/-! ### a law that asks repr: its own frame is the caller's, no guard runs -/
theorem fn_runG {C : KM} {N ps : List Str} {st : Stmt} {x : Str} {f : Addr} {fd : FuncData} {lv : Nat} (io : List Nat) (m : EM FlowD) (F : Fun C.K x x st f fd) (S : FnScope N ps (defScope st)) {A : Around} (hG : A.guards = some []) (hr : Room (lv + 1) A) (base : Heap)
    (body : ∀ (cdv : Value) (outer : List Env) (s : Shared) (H : Hp) (E : XK) (vs : List V) (W : WX), (CxD C base N x (defScope st) f cdv A outer s H E).A.guards = some [] → Go (CxD C base N x (defScope st) f cdv A outer s H E) ⟨C, vs, io⟩ W lv →
      PSs (CxD C base N x (defScope st) f cdv A outer s H E) (defBody st) (tS ⟨C, vs, io⟩ W m))
    (outer : List Env) (s : Shared) (H : Hp) (args : Args) (us : List Value) (vs : List V) (Q : VK) (E : XK) (e0 : Env0 C.P C.w C.K C.mg base A outer s H) (hb : BindsTo s fd args (ps.zip us)) (rv : Vals vs us) (h : spD C (runD ps.length N.length io m) vs H Q E) :
    codeAny (model C.P C.w) A (.call (.ref f) args) (CR (L2.CX C.P C.w) outer C.P C.w H s Q E) s := by
  obtain ⟨oc, od, kV, doc, pm, an, cdv, ct, osl, rfl, lk, hcd⟩ := F.ex
  have hlen : vs.length = ps.length := by
    obtain ⟨a, ds, _, _, hl, _, h⟩ := h
    unfold runD at h
    by_cases z : ds.length = ps.length ∧ ownOk io ds 0 = true
    · rw [← hl, z.1]
    · rw [if_neg z] at h; exact h.elim
  have inB : ∀ b o, base.get? b = some o → s.heap.get? b = some o := fun b o e =>
    (e0.bs b o e).1
  have inK : C.K.In s.heap := e0.mod.kin.keeps inB
  have hkd : ∀ y ∈ ps.zip us, (defScope st).names.lookup y.1 = some .local ∨ ((defScope st).names.lookup y.1 = some .cell ∧
      ((cellsFrom (s.heap.objs.size + 1) (defScope st).names []).lookup y.1).isSome = true) := fun y hy => by
    obtain ⟨n, v⟩ := y
    have hn := S.par n (List.of_mem_zip hy).1
    exact hn.imp id fun q => ⟨q, PySem.W.cellsFrom_some _ _ _ (.inl q)⟩
  refine codeAny_call_function hr.depth (inK _ _ lk) rfl S.co S.gen rfl
    (PySem.W.codeRec_of inK hcd) (hb _ _ _ _ ?_)
  refine wpAny_newFunctionEnv_cells S.kind hkd fun env he s1 x1 => ?_
  subst he
  refine ⟨(e0.mod.nolimit.keeps inB).keeps x1.toInCall.keep,
    codeAny_func ?_⟩
  have I := inv_start (CX := L2.CX C.P C.w) (E := E) S hr.hd e0 hlen rv x1
  have hrd := hr.deeper (envOfC x (defScope st) s.heap.objs.size f cdv)
  have go : Go (CxD C base N x (defScope st) f cdv A outer s H E) ⟨C, vs, io⟩ (fun cls d _ H => E cls d H) lv :=
    { p := rfl, w := rfl, k := rfl, m := rfl, n := S.nd, u := by have := hrd.un; show (A.deeper _).units + 64 < cLine; omega, tk := takes_of rfl rfl rfl rfl, pw := passes_of rfl, rm := hrd, cm := rfl }
  have ht := body cdv outer s H E vs _ hG go
  have hq : tS ⟨C, vs, io⟩ (fun cls d _ H => E cls d H) m { nx := fun _ H' => Q .non H', rt := Q } (L2.start N vs) H := by
    obtain ⟨a, ds, rfl, ok, hl, hrep, h⟩ := h
    have hpl : ps.length ≤ N.length := by have := congrArg List.length S.pre; rw [List.length_take] at this; omega
    unfold runD at h
    by_cases z : ds.length = ps.length ∧ ownOk io ds 0 = true
    · rw [if_pos z] at h
      refine ⟨a, ds.map some ++ List.replicate (N.length - ps.length) none, rfl, ⟨ok, ?_, fun i d e => ?_, fun i hi v hv => ?_⟩, ?_⟩
      · unfold L2.start
        rw [List.length_append, List.length_append, List.length_map, List.length_map, List.length_replicate, List.length_replicate, z.1, hlen]
      · have hi : i < ds.length := by
          by_cases hi : i < ds.length
          · exact hi
          · rw [List.getElem?_append_right (by simpa using hi), List.getElem?_replicate] at e
            split at e <;> cases e
        have e2 : ds[i]? = some d := by
          rw [List.getElem?_append_left (by simpa using hi), List.getElem?_map] at e
          cases q : ds[i]? with
          | none => rw [q] at e; cases e
          | some d' => rw [q] at e; cases e; rfl
        obtain ⟨v, h1, h2⟩ := hrep i d e2
        refine ⟨v, ?_, h2⟩
        unfold L2.start
        rw [List.getElem?_append_left (by rw [List.length_map]; exact (List.getElem?_eq_some_iff.mp h1).1), List.getElem?_map, h1]; rfl
      · have hv : vs[i]? = some v := hv
        unfold L2.start
        rw [List.getElem?_append_left (by rw [List.length_map]; exact (List.getElem?_eq_some_iff.mp hv).1), List.getElem?_map, hv]; rfl
      · cases hm : m (ds.map some ++ List.replicate (N.length - ps.length) none) with
        | bad => rw [hm] at h; exact h.elim
        | exc y e => rw [hm] at h; exact fun b σ cls dd st r er => h b cls dd st r.ok (outs_rep r (Nat.le_of_eq hlen.symm)) er
        | ok fe =>
          obtain ⟨fl, e⟩ := fe
          rw [hm] at h
          cases fl with
          | next => exact fun b σ st r => h b .non st r.ok (outs_rep r (Nat.le_of_eq hlen.symm)) (by simp [Rep])
          | ret d => exact fun b σ v st r rp => h b v st r.ok (outs_rep r (Nat.le_of_eq hlen.symm)) rp
          | brk => exact h.elim
          | cont => exact h.elim
    · rw [if_neg z] at h; exact h.elim
  refine wpAny_mono (ht.run [] s1 (L2.start N vs) H _ I hq) (fun fl s' hs => ?_) fun e s' hs => hs
  cases fl with
  | ret u =>
    obtain ⟨v, σ', H', J, rv, q⟩ := hs
    exact ⟨v, H', J.os, J.bare, J.base, J.hok, rv, q⟩
  | next =>
    obtain ⟨σ', H', J, q⟩ := hs
    exact ⟨V.non, H', J.os, J.bare, J.base, J.hok, rfl, q⟩
  | brk => exact False.elim (hs.elim fun _ h => h.elim fun _ h => h.2)
  | cont => exact False.elim (hs.elim fun _ h => h.elim fun _ h => h.2)
/- what the law's own def does, called by the caller of laws -/
abbrev RunG (P : Program) (w : World) (K : PySem.W.Frag) (mg : Str → Option Value) (g : List D → Res (D × EnvD)) (base : Heap) (fa : Addr) (fd : FuncData) : Prop :=
  ∀ (outer : List Env) (s : Shared) (H : Hp) (args : Args) (us : List Value) (vs : List V) (Q : VK) (E : XK), Env0 P w K mg base callerA outer s H → BindsTo s fd args (List.zip [("_law_script" : Str)] us) → Vals vs us → spD ⟨P, w, K, mg⟩ g vs H Q E →
    codeAny (model P w) callerA (.call (.ref fa) args) (CR (L2.CX P w) outer P w H s Q E) s
theorem walkG {l : PySem.W.OpenLaw} {g : List D → Res (D × EnvD)} {q : Program} {loose : List Str} {XP : (Str → Option Value) → Heap → Prop} {YP : World → Heap → Prop} {d : DefRec} {K : Params → PySem.W.Frag} (hn : l.most = some 63) (hdf : d.params.defaults = [])
    (hY : ∀ (w : World) (h : Heap), YP w h → (K w.params).In h)
    (F : ∀ (w : World) (mg : Str → Option Value) (fa : Addr) (h : Heap), (K w.params).In h → h.Ns mainGlobals mg → mg d.name = some (.ref fa) →
      ∃ fd : FuncData, (∀ (s : Shared) (u : Value), BindsTo s fd ⟨[u], []⟩ [("_law_script", u)]) ∧ ∀ base : Heap, (K w.params).In base → base.Ns mainGlobals mg → RunG l.prog w (K w.params) mg g base fa fd)
    (hg : ∀ ns : List Int, ns.length ≤ 63 → (∀ z ∈ ns, Builtin.Int.intBits z ≤ 1048576) → ∃ outs, g [.scr ns] = .ok (.bl true, outs)) :
    PySem.W.WalkO q loose XP YP l.row.toRowW d [] (fun f vs => PySem.call f vs) := by
  refine Att.attach_callB hn hdf fun w s₀ s₁ mg mb fa o pm cd doc a vs ns G Y ho hd hcd hmg hobj hints hlen hbits hgen => ?_
  have KX := hY w _ Y
  obtain ⟨fd, hb, hF⟩ := F w mg fa _ KX G.T.g hmg
  obtain ⟨outs, hres⟩ := hg ns hlen hbits
  have rels := vals_ints hints
  have lens : ns.length ≤ sizeLine := Nat.le_trans hlen (by decide)
  have one : ∀ H : Hp, (∀ b, H b = none ∨ ∃ o xs, H b = some (.frz o (.lst xs))) → SqL (K w.params) H a (ns.map V.int) → HOk l.prog w H s₁.heap → (∀ b, H b ≠ none → b = a) → (H a ≠ none → (K w.params).lookup a = none) →
      codeAny (model l.prog w) callerA (.call (.ref fa) ⟨[.ref a], []⟩) (fun r s' => r = .ok (.ret (.bool true)) ∧ OldK s₁.heap s'.heap ∧ s'.os = s₁.os ∧ AllBare s'.gens) s₁ := by
    intro H hO hS hok hA hK
    have hidden : ∀ {b : Addr} {o : Obj}, s₁.heap.get? b = some o →
        H b = none → (hidT s₁.heap H).get? b = some o := fun e n => hidT_get e n
    have away : ∀ {b : Addr} {o : Obj}, s₁.heap.get? b = some o → (∀ n, o.data ≠ .seq vs.toArray n) → H b = none := fun {b o} e dn => by
      by_cases z : H b = none
      · exact z
      · have eb := hA b z
        subst eb
        rw [hobj] at e
        cases e
        exact absurd rfl (dn _)
    have space : ∀ {b : Addr} {m : Str → Option Value}, s₁.heap.Ns b m → (hidT s₁.heap H).Ns b m := by
      rintro b m ⟨o, es, ep, e, dd, r⟩
      exact ⟨o, es, ep, hidden e (away e fun n z => by rw [dd] at z; cases z), dd, r⟩
    have part : (K w.params).In (hidT s₁.heap H) := fun b o e => by
      refine hidden (KX b o e) ?_
      by_cases z : H b = none
      · exact z
      · have eb := hA b z
        subst eb
        rw [hK z] at e
        cases e
    obtain ⟨mc, c1, c2⟩ := G.T.nolimit
    have M : Mod (K w.params) mg (hidT s₁.heap H) :=
      ⟨part, space G.T.g, ⟨mb, space G.T.b, G.T.builtins⟩, ⟨mc, space c1, c2⟩⟩
    have e0 : Env0 l.prog w (K w.params) mg (hidT s₁.heap H) callerA [] s₁ H :=
      ⟨rfl, M, fun b o e => of_hidT e, Nat.le_of_eq (hidT_size _ _), trivial, fun b hb => (by cases hb), hok, .of_eq hgen⟩
    have sp : spD ⟨l.prog, w, K w.params, mg⟩ g [.ref a] H (fun v _ => v = .bl true) fun _ _ _ => False := by
      refine ⟨scriptW H, [.scr ns], rfl, ⟨fun _ _ h => h, fun _ _ h => by cases h⟩, rfl, fun i d e => ?_, ?_⟩
      · cases i with
        | zero => simp at e; subst e; exact ⟨_, rfl, by simp only [Rep]; exact ⟨a, rfl, hS⟩⟩
        | succ i => simp at e
      · rw [hres]
        intro b v _ _ _ rp
        exact rep_bl rp
    refine codeAny_mono (hF _ part (space G.T.g) [] s₁ H ⟨[.ref a], []⟩ [.ref a] [.ref a] _ _ e0 (hb s₁ (.ref a)) (.cons rfl .nil) sp) fun r s' h => ?_
    match r, h with
    | .error e, h =>
      obtain ⟨_, _, _, _, _, _, _, _, _, _, _, _, z⟩ := h
      exact z.elim
    | .ok .next, h => exact False.elim h
    | .ok .brk, h => exact False.elim h
    | .ok .cont, h => exact False.elim h
    | .ok (.ret u), h =>
      obtain ⟨v, H', os, bare, un, hok', r', q⟩ := h
      have q2 : v = .bl true := q
      subst q2
      obtain rfl : u = Value.bool true := r'
      refine ⟨rfl, OldK.of_keep fun b o e => ?_, os, bare⟩
      rcases hO b with z | ⟨ob, xs, z⟩
      · exact un.keep b o e z (fun z => by cases z) (by simp)
      · have g1 : ObjOk l.prog w H s₁.heap b (.frz ob (.lst xs)) := hok b _ z
        have g2 : ObjOk l.prog w H' s'.heap b (.frz ob (.lst xs)) := hok' b _ (un.frzs b ob _ z)
        have k1 := g1.1
        rw [e] at k1
        cases k1
        exact g2.1
  by_cases hk : (K w.params).lookup a = none
  · have self : ∀ b, (fun b => if b = a then some (HO.frz { cls := .type "list", data := .seq vs.toArray } (.lst (ns.map V.int))) else none : Hp) b ≠ none → b = a := fun b z => by
      by_cases hb : b = a
      · exact hb
      · exact absurd (if_neg hb) z
    refine one (fun b => if b = a then some (.frz { cls := .type "list", data := .seq vs.toArray } (.lst (ns.map V.int))) else none) (fun b => ?_) (.inl (.inr ⟨_, if_pos rfl⟩)) (fun b u z => ?_) self fun _ => hk
    · by_cases hb : b = a
      · exact .inr ⟨_, _, if_pos hb⟩
      · exact .inl (if_neg hb)
    · have hb := self b (by rw [z]; simp)
      have z' := (if_pos hb).symm.trans z
      cases z'
      subst hb
      exact ⟨hobj, by rw [List.length_map]; exact lens, vs, _, rels, hobj⟩
  · cases e : (K w.params).lookup a with
    | none => exact absurd e hk
    | some o =>
      have e2 := KX a o e
      rw [hobj] at e2
      cases e2
      refine one (fun _ => none) (fun _ => .inl rfl) (.inr ⟨_, vs.toArray, _, e, rfl, rfl, rfl, ?_, by simpa using rels⟩) (fun b u z => by cases z) (fun b z => absurd rfl z) fun z => absurd rfl z
      rw [List.size_toArray, hints.length]
      exact lens
end Mi
namespace Mi
open PySem PySem.Spec PyProof.Rows L2
/-! ### facts of many exception classes at once -/
def exB (K : PySem.W.Frag) (us : List (Str × Addr)) : Bool := us.all fun p => PySem.W.findIn K (.ref p.2) "__getattribute__" == some (some (.builtin "BaseException.__getattribute__")) && (PySem.W.findIn K (.ref p.2) "__getattr__" == some none &&
  (PySem.W.subIn K (.ref p.2) (.type "BaseException") == some true && (PySem.W.hasDictIn K p.2 && (PySem.W.findIn K (.ref p.2) "__class__" == some (some (.builtin "object.__class__")) && PySem.W.mroIn K p.2 (.type "object") == some true))))
def ixB (K : PySem.W.Frag) (us : List (Str × Addr)) (all : Bool) (c : Str) (cv : Value) : Bool := us.all fun p => PySem.W.kitOne K (.ref p.2) cv == some (all || p.1 == c)
theorem isX_of {C : KM} {us : List (Str × Addr)} {all : Bool} {c : Str} {cv : Value} (hm : ∀ p ∈ us, C.mg p.1 = some (.ref p.2)) (h1 : exB C.K us = true) (hn : PySem.W.specialIn C.K (.builtin "object.__class__") "__get__" = some (some (.builtin "getset_descriptor.__get__")))
    (ht : PySem.W.takesIn C.K (.builtin "object.__class__") = some true) (h2 : ixB C.K us all c cv = true) : IsX C (us.map (·.1)) all c cv := by
  refine ⟨fun c' hc => ?_⟩
  obtain ⟨p, hp, rfl⟩ := List.mem_map.mp hc
  have a1 := List.all_eq_true.mp h1 p hp
  have a2 := List.all_eq_true.mp h2 p hp
  simp only [Bool.and_eq_true, beq_iff_eq] at a1 a2
  exact ⟨p.2, hm p hp, ⟨a1.1, a1.2.1, a1.2.2.1, a1.2.2.2.1, a1.2.2.2.2.1, hn, ht, a1.2.2.2.2.2⟩, a2⟩
theorem xfOk_of {C : KM} {us : List (Str × Addr)} {c f : Str} {u : Addr} (hm : C.mg c = some (.ref u)) (hu : (c, u) ∈ us) (h1 : exB C.K us = true) (hf : PySem.W.findIn C.K (.ref u) f = some none) : XfOk C c f := by
  have a1 := List.all_eq_true.mp h1 _ hu
  simp only [Bool.and_eq_true, beq_iff_eq] at a1
  exact ⟨u, hm, ⟨a1.1, a1.2.1, a1.2.2.1, a1.2.2.2.1⟩, hf⟩
theorem isX_hcv {u : Addr} : ∀ w, RelV (.ref u) w → w = Value.ref u := fun _ h => h
theorem isX_hct {n : String} : ∀ w, RelV (.ty n) w → w = Value.type n := fun _ h => h
end Mi
namespace Mi
open PySem PySem.Spec PyProof.Rows L2
/-! ### rows for exceptions -/
section
variable {env e : EnvD} {x f : Str} {d : D} {i j : Nat} {yes no : List Str} {ms : EM FlowD} {ma : EM Arg}
@[simp] theorem e_exn0 : mExn0 x env = .ok (.exn x [] [], env) := rfl
def kEx1 (x f : Str) : Arg × EnvD → Res (D × EnvD) := fun (y, e) => match y.get e with
  | some d => if fz d = true then .ok (.exn x [f] [d], e) else .bad
  | none => .bad
@[simp] theorem e_exn1 : mExn1 x f ma env = (ma env).bind (kEx1 x f) := rfl
@[simp] theorem kEx1_val : kEx1 x f (.val d, e) = if fz d = true then .ok (.exn x [f] [d], e) else .bad := rfl
def kRs1 (x f : Str) : Arg × EnvD → Res (FlowD × EnvD) := fun (y, e) => match y.get e with
  | some d => if fz d = true then .exc ⟨x, [f], [d]⟩ e else .bad
  | none => .bad
@[simp] theorem e_rs1 : mRaise1 x f ma env = (ma env).bind (kRs1 x f) := rfl
@[simp] theorem kRs1_val : kRs1 x f (.val d, e) = if fz d = true then .exc ⟨x, [f], [d]⟩ e else .bad := rfl
def kTryAs (i j : Nat) (yes no : List Str) (mv : Exc → Option D) : Res (FlowD × EnvD) → Res (FlowD × EnvD)
  | .exc x e => if x.cls ∈ yes then (match mv x with
      | some w => if i < e.length then .ok (.next, (e.set j (some w)).set i none) else .bad
      | none => .bad) else if x.cls ∈ no then .exc x e else .bad
  | r => r
@[simp] theorem e_tryAs {mv : Exc → Option D} : mTryAs i j yes no mv ms env = kTryAs i j yes no mv (ms env) := by
  unfold mTryAs kTryAs
  cases ms env <;> rfl
@[simp] theorem kTryAs_ok {mv : Exc → Option D} {f : FlowD × EnvD} : kTryAs i j yes no mv (.ok f) = .ok f := rfl
theorem kTryAs_exc {mv : Exc → Option D} {z : Exc} {w : D} (h1 : z.cls ∈ yes) (h2 : mv z = some w) (h3 : i < e.length) : kTryAs i j yes no mv (.exc z e) = .ok (.next, (e.set j (some w)).set i none) := by
  show (if z.cls ∈ yes then _ else _) = _
  rw [if_pos h1, h2]
  show (if i < e.length then _ else _) = _
  rw [if_pos h3]
theorem isX_in {cs : List Str} {all : Bool} {c c' : Str} {ns : List Str} {ws : List D} (h : c' ∈ cs) : isX cs all c (.exn c' ns ws) = some (.bl (all || c' == c)) := by
  simp only [isX]
  rw [if_pos h]
@[simp] theorem fz_exn {c : Str} {ns : List Str} {ws : List D} : fz (.exn c ns ws) = fzL ws := by simp [fz]
theorem frzQ_exn {c : Str} {ns : List Str} {ws : List D} (h : fzL ws = true) : frzQ (.exn c ns ws) = .exn c ns ws := frzQ_fz (by simp [h])
end
/- a comprehension whose elements draw: E the frame, of what is drawn from and of the target -/
theorem loopL_st {k : Nat} {elt : EM D} {S : Type} (E : S → Option D → EnvD) (hE : ∀ s x y, (E s x).set k y = E s y) (P : D → Prop) (hs : ∀ s x, ∃ d s' y, elt (E s (some x)) = .ok (d, E s' y) ∧ P (frzQ d)) :
    ∀ (ds acc : List D) (s : S) (x : Option D), ∃ (l : List D) (s' : S) (y : Option D), loopL (.nm k) mYes elt [k] ds acc (E s x) = .ok (acc ++ l, E s' y) ∧ l.length = ds.length ∧ ∀ d ∈ l, P d
  | [], acc, s, x => ⟨[], s, x, by simp [loopL], rfl, by simp⟩
  | d :: ds, acc, s, x => by
    obtain ⟨v, s1, y1, h1, h2⟩ := hs s d
    obtain ⟨l, s2, y2, h3, h4, h5⟩ := loopL_st E hE P hs ds (acc ++ [frzQ v]) s1 y1
    refine ⟨frzQ v :: l, s2, y2, ?_, by simp [h4], fun z hz => ?_⟩
    · have hw : wipeE (E s x) [k] = E s none := by simp [wipeE, hE]
      have hy : mYes (E s (some d)) = .ok (true, E s (some d)) := rfl
      simp only [loopL, mTg, hw, hE, hy, h1]
      rw [h3, List.append_assoc]
      rfl
    · rcases List.mem_cons.mp hz with rfl | hz
      · exact h2
      · exact h5 z hz
end Mi
namespace Mi
open PySem PySem.Spec PyProof.Rows L2
def yes_BadBook : List Str := ["BadBook"]
def no_BadBook : List Str := ["BadClerk", "BadParty", "BadText", "ElderError", "NoClaim", "NoClock", "NoDemand", "NoFolk", "NoFractions", "NoGrade", "NoInstance", "NoLabels", "NoLine", "NoName", "NoNames", "NoNumber", "NoNumbers", "NoPlace", "NoRow", "NoRule", "NoWeights", "NoWish", "NoWorld", "NotKept", "NotRight", "NotServed", "NothingDone", "OtherBook", "TooLarge", "TooMany"]
def yes_ElderError : List Str := ["BadBook", "BadClerk", "BadParty", "BadText", "ElderError", "NoClaim", "NoClock", "NoDemand", "NoFolk", "NoFractions", "NoGrade", "NoInstance", "NoLabels", "NoLine", "NoName", "NoNames", "NoNumber", "NoNumbers", "NoPlace", "NoRow", "NoRule", "NoWeights", "NoWish", "NoWorld", "NotKept", "NotRight", "NotServed", "NothingDone", "OtherBook", "TooLarge", "TooMany"]
def no_ElderError : List Str := []
def xs_label : List Str := ["NotKept"]
def xs_line : List Str := ["BadText"]
def xs_most : List Str := ["TooLarge", "TooMany"]
def xs_part : List Str := ["BadBook", "BadParty", "BadClerk"]
def exl : List Str := ["BadBook", "BadClerk", "BadParty", "BadText", "NoClaim", "NoClock", "NoDemand", "NoFolk", "NoFractions", "NoGrade", "NoInstance", "NoLabels", "NoLine", "NoName", "NoNames", "NoNumber", "NoNumbers", "NoPlace", "NoRow", "NoRule", "NoWeights", "NoWish", "NoWorld", "NotKept", "NotRight", "NotServed", "NothingDone", "OtherBook", "TooLarge", "TooMany"]
def m__law_deck : EM FlowD :=
  mRet (mLst (mArgs [mFrz (mLc (mIt1 (mFrz (mSl (mVarA 0) (mNoP) (mPart (mC (.int 63)))))) (.nm 1) (mYes) (mCB intD (mArgs [mVarA 1])) [1]), mFrz (mC (.int 0)), mFrz (mC (.int 0)), mFrz (mC (.int 0))]))
def g__law_deck : List D → Res (D × EnvD) := runD 1 2 [0] m__law_deck
def m__law_with : EM FlowD :=
  mRet (mLst (mArgs [mFrz (mExn1 "BadBook" "part" (mFrz (mBin ixD (mVarA 0) (mFrz (mC (.int 0)))))), mFrz (mExn1 "BadParty" "part" (mFrz (mBin ixD (mVarA 0) (mFrz (mC (.int 1)))))), mFrz (mExn1 "BadClerk" "part" (mFrz (mBin ixD (mVarA 0) (mFrz (mC (.int 2)))))), mFrz (mExn1 "TooLarge" "most" (mFrz (mBin ixD (mVarA 0) (mFrz (mC (.int 3)))))), mFrz (mExn1 "TooMany" "most" (mFrz (mBin ixD (mVarA 0) (mFrz (mC (.int 4)))))), mFrz (mExn1 "BadText" "line" (mFrz (mBin ixD (mVarA 0) (mFrz (mC (.int 5)))))), mFrz (mExn1 "NotKept" "label" (mFrz (mBin ixD (mVarA 0) (mFrz (mC (.int 6))))))]))
def g__law_with : List D → Res (D × EnvD) := runD 1 1 [0] m__law_with
def m__law_is_caught : EM FlowD :=
  mSeq (mAsg 0 (mC (.bl false)))
  (mSeq (mTry yes_ElderError no_ElderError (mExc "NoFolk") (mAsg 0 (mC (.bl true))))
  (mRet (mVarM 0 0)))
def g__law_is_caught : List D → Res (D × EnvD) := runD 0 1 ([] : List Nat) m__law_is_caught
def m__law_pick : EM FlowD :=
  mSeq (mSetX 0 (mC (.int 3)) (mBin addD (mFrz (mBin ixD (mVarA 0) (mFrz (mC (.int 3))))) (mFrz (mC (.int 1)))))
  (mSeq (mIfS (mTB (mBin gtD (mFrz (mBin ixD (mVarA 0) (mFrz (mC (.int 2))))) (mFrz (mC (.int 0))))) (mSeq (mAsg 2 (mBin modD (mFrz (mCB intD (mArgs [mFrz (mBin ixD (mVarA 0) (mFrz (mC (.int 2))))]))) (mVarA 1)))
  (mSeq (mSetX 0 (mC (.int 2)) (mBin fdivD (mFrz (mCB intD (mArgs [mFrz (mBin ixD (mVarA 0) (mFrz (mC (.int 2))))]))) (mVarA 1)))
  (mRet (mVarM 2 2)))) (mNext))
  (mSeq (mAsg 3 (mBin ixD (mVarA 0) (mFrz (mC (.int 0)))))
  (mSeq (mAsg 4 (mC (.int 0)))
  (mSeq (mIfS (mTB (mBin gtD (mFrz (mCB lenD (mArgs [mVarA 3]))) (mFrz (mC (.int 0))))) (mAsg 4 (mBin ixD (mVarA 3) (mFrz (mBin modD (mFrz (mCB intD (mArgs [mFrz (mBin ixD (mVarA 0) (mFrz (mC (.int 1))))]))) (mFrz (mCB lenD (mArgs [mVarA 3]))))))) (mNext))
  (mSeq (mSetX 0 (mC (.int 1)) (mBin addD (mFrz (mBin ixD (mVarA 0) (mFrz (mC (.int 1))))) (mFrz (mC (.int 1)))))
  (mSeq (mIfS (mAndT (mTB (mBin geD (mVarA 4) (mFrz (mBin powD (mFrz (mC (.int 10))) (mFrz (mC (.int 18))))))) (mTB (mBin leD (mFrz (mBin ixD (mVarA 0) (mFrz (mC (.int 1))))) (mFrz (mCB lenD (mArgs [mVarA 3])))))) (mSeq (mSetX 0 (mC (.int 2)) (mBin fdivD (mFrz (mCB intD (mArgs [mVarA 4]))) (mVarA 1)))
  (mRet (mBin modD (mFrz (mCB intD (mArgs [mVarA 4]))) (mVarA 1)))) (mNext))
  (mSeq (mAsg 5 (mBin modD (mFrz (mBin mulD (mFrz (mCB intD (mArgs [mFrz (mBin addD (mFrz (mBin addD (mVarA 4) (mFrz (mBin mulD (mFrz (mC (.int 7919))) (mFrz (mBin ixD (mVarA 0) (mFrz (mC (.int 3))))))))) (mFrz (mC (.int 1))))]))) (mFrz (mC (.int 48271))))) (mFrz (mC (.int 2147483647)))))
  (mSeq (mAsg 5 (mBin modD (mFrz (mBin mulD (mVarA 5) (mFrz (mBin addD (mFrz (mBin fdivD (mVarA 5) (mFrz (mC (.int 1009))))) (mFrz (mC (.int 69621))))))) (mFrz (mC (.int 2147483647)))))
  (mSeq (mAsg 5 (mBin modD (mFrz (mBin mulD (mVarA 5) (mFrz (mBin addD (mFrz (mBin fdivD (mVarA 5) (mFrz (mC (.int 2003))))) (mFrz (mC (.int 40692))))))) (mFrz (mC (.int 2147483399)))))
  (mRet (mBin modD (mVarA 5) (mVarA 1))))))))))))
def g__law_pick : List D → Res (D × EnvD) := runD 2 6 [0, 1] m__law_pick
def m__law_long : EM FlowD :=
  mSeq (mAsg 1 (mC (.int 0)))
  (mSeq (mFor (mIt (mArgs [mFrz (mC (.int 4))]) rng1) (.nm 2) (mAsg 1 (mBin addD (mFrz (mBin mulD (mVarA 1) (mFrz (mBin powD (mFrz (mC (.int 10))) (mFrz (mC (.int 10))))))) (mFrz (mCall g__law_pick (mArgs [mVarA 0, mFrz (mBin powD (mFrz (mC (.int 10))) (mFrz (mC (.int 10))))]))))))
  (mRet (mVarM 1 1)))
def g__law_long : List D → Res (D × EnvD) := runD 1 3 [0] m__law_long
def m__law_value : EM FlowD :=
  mSeq (mAsg 1 (mCall g__law_pick (mArgs [mVarA 0, mFrz (mC (.int 6))])))
  (mSeq (mIfS (mTB (mBin eqD (mVarA 1) (mFrz (mC (.int 0))))) (mRet (mBin subD (mFrz (mCall g__law_pick (mArgs [mVarA 0, mFrz (mC (.int 9))]))) (mFrz (mC (.int 4))))) (mNext))
  (mSeq (mIfS (mTB (mBin eqD (mVarA 1) (mFrz (mC (.int 1))))) (mRet (mBin mulD (mFrz (mCall g__law_long (mArgs [mVarA 0]))) (mFrz (mBin subD (mFrz (mC (.int 1))) (mFrz (mBin mulD (mFrz (mC (.int 2))) (mFrz (mCall g__law_pick (mArgs [mVarA 0, mFrz (mC (.int 2))]))))))))) (mNext))
  (mSeq (mIfS (mTB (mBin eqD (mVarA 1) (mFrz (mC (.int 2))))) (mRet (mUn (joinD "") (mFrz (mLc (mIt (mArgs [mFrz (mCall g__law_pick (mArgs [mVarA 0, mFrz (mC (.int 9))]))]) rng1) (.nm 2) (mYes) (mBin ixD (mFrz (mC (.str "abcXYZ 019*"))) (mFrz (mCall g__law_pick (mArgs [mVarA 0, mFrz (mC (.int 11))])))) [2])))) (mNext))
  (mSeq (mIfS (mTB (mBin eqD (mVarA 1) (mFrz (mC (.int 3))))) (mRet (mTup (mArgs [mFrz (mCall g__law_pick (mArgs [mVarA 0, mFrz (mC (.int 5))])), mFrz (mC (.str "a")), mFrz (mCall g__law_pick (mArgs [mVarA 0, mFrz (mC (.int 3))]))]))) (mNext))
  (mSeq (mIfS (mTB (mBin eqD (mVarA 1) (mFrz (mC (.int 4))))) (mRet (mLst (mArgs [mFrz (mCall g__law_pick (mArgs [mVarA 0, mFrz (mC (.int 5))]))]))) (mNext))
  (mRet (mC .non)))))))
def g__law_value : List D → Res (D × EnvD) := runD 1 3 [0] m__law_value
def m__law_plain : EM FlowD :=
  mRet (mLst (mArgs [mFrz (mExn0 "NoWorld"), mFrz (mExn0 "NoNumber"), mFrz (mExn0 "NoDemand"), mFrz (mExn0 "NoFolk"), mFrz (mExn0 "NoInstance"), mFrz (mExn0 "NoClock"), mFrz (mExn0 "NoPlace"), mFrz (mExn0 "NoRule"), mFrz (mExn0 "NoGrade"), mFrz (mExn0 "NotServed"), mFrz (mExn0 "NoClaim"), mFrz (mExn0 "NoRow"), mFrz (mExn0 "NotRight"), mFrz (mExn0 "NoName"), mFrz (mExn0 "NothingDone"), mFrz (mExn0 "NoLine"), mFrz (mExn0 "OtherBook"), mFrz (mExn0 "NoLabels"), mFrz (mExn0 "NoNames"), mFrz (mExn0 "NoNumbers"), mFrz (mExn0 "NoFractions"), mFrz (mExn0 "NoWeights"), mFrz (mExn0 "NoWish")]))
def g__law_plain : List D → Res (D × EnvD) := runD 0 0 ([] : List Nat) m__law_plain
def m__law_kinds : EM FlowD :=
  mSeq (mAsg 1 (mLst (mArgs [mFrz (mUn (isX exl false "NoWorld") (mVarA 0)), mFrz (mUn (isX exl false "NoNumber") (mVarA 0)), mFrz (mUn (isX exl false "NoDemand") (mVarA 0)), mFrz (mUn (isX exl false "NoFolk") (mVarA 0)), mFrz (mUn (isX exl false "NoInstance") (mVarA 0)), mFrz (mUn (isX exl false "NoClock") (mVarA 0)), mFrz (mUn (isX exl false "NoPlace") (mVarA 0)), mFrz (mUn (isX exl false "NoRule") (mVarA 0)), mFrz (mUn (isX exl false "NoGrade") (mVarA 0)), mFrz (mUn (isX exl false "NotServed") (mVarA 0)), mFrz (mUn (isX exl false "NoClaim") (mVarA 0)), mFrz (mUn (isX exl false "NoRow") (mVarA 0))])))
  (mSeq (mAsg 2 (mLst (mArgs [mFrz (mUn (isX exl false "NotRight") (mVarA 0)), mFrz (mUn (isX exl false "NoName") (mVarA 0)), mFrz (mUn (isX exl false "NothingDone") (mVarA 0)), mFrz (mUn (isX exl false "NoLine") (mVarA 0)), mFrz (mUn (isX exl false "OtherBook") (mVarA 0)), mFrz (mUn (isX exl false "NoLabels") (mVarA 0)), mFrz (mUn (isX exl false "NoNames") (mVarA 0)), mFrz (mUn (isX exl false "NoNumbers") (mVarA 0)), mFrz (mUn (isX exl false "NoFractions") (mVarA 0)), mFrz (mUn (isX exl false "NoWeights") (mVarA 0)), mFrz (mUn (isX exl false "NoWish") (mVarA 0))])))
  (mRet (mBin addD (mFrz (mBin addD (mVarA 1) (mVarA 2))) (mFrz (mLst (mArgs [mFrz (mUn (isX exl false "BadBook") (mVarA 0)), mFrz (mUn (isX exl false "BadParty") (mVarA 0)), mFrz (mUn (isX exl false "BadClerk") (mVarA 0)), mFrz (mUn (isX exl false "TooLarge") (mVarA 0)), mFrz (mUn (isX exl false "TooMany") (mVarA 0)), mFrz (mUn (isX exl false "BadText") (mVarA 0)), mFrz (mUn (isX exl false "NotKept") (mVarA 0))]))))))
def g__law_kinds : List D → Res (D × EnvD) := runD 1 3 [0] m__law_kinds
def m__law_is_alone : EM FlowD :=
  mSeq (mIfS (mOrT (mNotT (mTB (mUn (isX exl true "ElderError") (mVarA 0)))) (mNotT (mTB (mUn (isX exl true "ValueError") (mVarA 0))))) (mRet (mC (.bl false))) (mNext))
  (mRet (mBin eqD (mFrz (mCall g__law_kinds (mArgs [mVarA 0]))) (mFrz (mLc (mIt (mArgs [mFrz (mC (.int 30))]) rng1) (.nm 2) (mYes) (mBin eqD (mVarA 2) (mVarA 1)) [2]))))
def g__law_is_alone : List D → Res (D × EnvD) := runD 2 3 [0, 1] m__law_is_alone
def m__law_fields : EM FlowD :=
  mSeq (mAsg 1 (mLst (mArgs [mFrz (mUn (xfD xs_part "part") (mFrz (mBin ixD (mVarA 0) (mFrz (mC (.int 0)))))), mFrz (mUn (xfD xs_part "part") (mFrz (mBin ixD (mVarA 0) (mFrz (mC (.int 1)))))), mFrz (mUn (xfD xs_part "part") (mFrz (mBin ixD (mVarA 0) (mFrz (mC (.int 2)))))), mFrz (mUn (xfD xs_most "most") (mFrz (mBin ixD (mVarA 0) (mFrz (mC (.int 3))))))])))
  (mRet (mBin addD (mVarA 1) (mFrz (mLst (mArgs [mFrz (mUn (xfD xs_most "most") (mFrz (mBin ixD (mVarA 0) (mFrz (mC (.int 4)))))), mFrz (mUn (xfD xs_line "line") (mFrz (mBin ixD (mVarA 0) (mFrz (mC (.int 5)))))), mFrz (mUn (xfD xs_label "label") (mFrz (mBin ixD (mVarA 0) (mFrz (mC (.int 6))))))])))))
def g__law_fields : List D → Res (D × EnvD) := runD 1 2 [0] m__law_fields
def m__law_raised : EM FlowD :=
  mSeq (mAsg 1 (mLst (mArgs [])))
  (mSeq (mTryAs 2 1 yes_BadBook no_BadBook (mvList (mvPart "BadBook" "part")) (mRaise1 "BadBook" "part" (mFrz (mVarE 0))))
  (mRet (mVarM 1 1)))
def g__law_raised : List D → Res (D × EnvD) := runD 1 3 [0] m__law_raised
def m_law : EM FlowD :=
  mSeq (mAsg 1 (mCall g__law_deck (mArgs [mVarA 0])))
  (mSeq (mAsg 2 (mLc (mIt (mArgs [mFrz (mC (.int 7))]) rng1) (.nm 3) (mYes) (mCall g__law_value (mArgs [mVarA 1])) [3]))
  (mSeq (mAsg 4 (mLc (mIt (mArgs [mFrz (mC (.int 7))]) rng1) (.nm 3) (mYes) (mCall g__law_value (mArgs [mVarA 1])) [3]))
  (mSeq (mAsg 5 (mLc (mIt1 (mFrz (mVarE 2))) (.nm 6) (mYes) (mCB reprL (mArgs [mVarA 6])) [6]))
  (mSeq (mAsg 7 (mLc (mIt1 (mFrz (mVarE 4))) (.nm 6) (mYes) (mCB reprL (mArgs [mVarA 6])) [6]))
  (mSeq (mAsg 8 (mBin addD (mFrz (mCall g__law_plain (mArgs []))) (mFrz (mCall g__law_with (mArgs [mVarA 2])))))
  (mSeq (mAsg 9 (mCall g__law_with (mArgs [mVarA 4])))
  (mSeq (mIfS (mNotT (mTB (mCB allD (mArgs [mFrz (mLc (mIt (mArgs [mFrz (mC (.int 30))]) rng1) (.nm 10) (mYes) (mCall g__law_is_alone (mArgs [mFrz (mBin ixD (mVarA 8) (mVarA 10)), mVarA 10])) [10])])))) (mRet (mC (.bl false))) (mNext))
  (mSeq (mIfS (mNotT (mTB (mCB allD (mArgs [mFrz (mLc (mIt (mArgs [mFrz (mC (.int 7))]) rng1) (.nm 10) (mYes) (mCall g__law_is_alone (mArgs [mFrz (mBin ixD (mVarA 9) (mVarA 10)), mFrz (mBin addD (mFrz (mC (.int 23))) (mVarA 10))])) [10])])))) (mRet (mC (.bl false))) (mNext))
  (mSeq (mIfS (mTB (mBin neD (mFrz (mLc (mIt1 (mFrz (mCall g__law_fields (mArgs [mFrz (mSl (mVarA 8) (mPart (mC (.int 23))) (mNoP))])))) (.nm 6) (mYes) (mCB reprL (mArgs [mVarA 6])) [6])) (mVarA 5))) (mRet (mC (.bl false))) (mNext))
  (mSeq (mIfS (mTB (mBin neD (mFrz (mLc (mIt1 (mFrz (mCall g__law_fields (mArgs [mVarA 9])))) (.nm 6) (mYes) (mCB reprL (mArgs [mVarA 6])) [6])) (mVarA 7))) (mRet (mC (.bl false))) (mNext))
  (mSeq (mIfS (mTB (mBin neD (mFrz (mLc (mIt1 (mFrz (mCall g__law_raised (mArgs [mFrz (mBin ixD (mVarA 4) (mFrz (mC (.int 0))))])))) (.nm 6) (mYes) (mCB reprL (mArgs [mVarA 6])) [6])) (mFrz (mSl (mVarA 7) (mNoP) (mPart (mC (.int 1))))))) (mRet (mC (.bl false))) (mNext))
  (mRet (mCall g__law_is_caught (mArgs []))))))))))))))
def g_law : List D → Res (D × EnvD) := runD 1 11 [0] m_law
end Mi
namespace Mi
open PySem PySem.Spec PyProof.Rows L2
@[simp] theorem sortX_l {o : Bool} {l : List D} : sortX [.lst o l] = sortD [.lst o l] := rfl
@[simp] theorem listY_d {o : Bool} {ks ws : List D} : listY [.dic o ks ws] = listX [.dic o ks ws] := rfl
@[simp] theorem listY_g {ds : List (Key × D)} : listY [dicG ds] = listX [dicG ds] := rfl
@[simp] theorem listY_l {o : Bool} {l : List D} : listY [.lst o l] = listX [.lst o l] := rfl
def dk (cells : List Int) (a b c : Int) : D := .lst true [.lst false (cells.map .int), .int a, .int b, .int c]
@[simp] theorem fzL_mapint (l : List Int) : fzL (l.map D.int) = true := fzL_ints l
@[simp] theorem fz_dk {cells a b c} : fz (dk cells a b c) = false := by simp [dk]
theorem pow_18 : powD (.int 10) (.int 18) = some (.int 1000000000000000000) := by simp [powD]
@[simp] theorem ixD_dk0 {cells a b c} : ixD (dk cells a b c) (.int 0) = some (.lst false (cells.map .int)) := by
  unfold dk; simp [ixD, atI, ixN, pick]
@[simp] theorem ixD_dk1 {cells a b c} : ixD (dk cells a b c) (.int 1) = some (.int a) := by
  unfold dk; simp [ixD, atI, ixN, pick]
@[simp] theorem ixD_dk2 {cells a b c} : ixD (dk cells a b c) (.int 2) = some (.int b) := by
  unfold dk; simp [ixD, atI, ixN, pick]
@[simp] theorem ixD_dk3 {cells a b c} : ixD (dk cells a b c) (.int 3) = some (.int c) := by
  unfold dk; simp [ixD, atI, ixN, pick]
@[simp] theorem setX_dk1 {cells a b c z} : setX (dk cells a b c) (.int 1) (.int z) = some (dk cells z b c) := by
  unfold dk; simp [setX, ixN]
@[simp] theorem setX_dk2 {cells a b c z} : setX (dk cells a b c) (.int 2) (.int z) = some (dk cells a z c) := by
  unfold dk; simp [setX, ixN]
@[simp] theorem setX_dk3 {cells a b c z} : setX (dk cells a b c) (.int 3) (.int z) = some (dk cells a b z) := by
  unfold dk; simp [setX, ixN]
theorem ixD_cells {b : Bool} {cells : List Int} {i : Int} (h : 0 ≤ i) (h2 : i < cells.length) : ∃ z, ixD (.lst b (cells.map .int)) (.int i) = some (.int z) := by
  have e : i.toNat < cells.length := by omega
  refine ⟨cells[i.toNat], ?_⟩
  simp [ixD, atI, ixN, h, h2, pick, e]
theorem deck_loop (s : D) : ∀ (l : List Int) (acc : List D) (x : Option D), ∃ y, loopL (.nm 1) mYes (mCB intD (mArgs [mVarA 1])) [1] (l.map .int) acc [some s, x] = .ok (acc ++ l.map .int, [some s, y])
  | [], acc, x => ⟨x, by simp [loopL]⟩
  | z :: l, acc, x => by
    obtain ⟨y, h⟩ := deck_loop s l (acc ++ [.int z]) (some (.int z))
    refine ⟨y, ?_⟩
    simp [loopL, mTg, wipeE] at h ⊢
    exact h
theorem cut_len (l : List Int) (lo hi : Option Int) : (cutD l lo hi).length ≤ l.length := by
  unfold cutD
  rw [List.length_take, List.length_drop]; omega
theorem s_law_deck {ns : List Int} (h : ns.length ≤ 63) : ∃ cells, g__law_deck [.scr ns] = .ok (dk cells 0 0 0, [some (.scr ns)]) := by
  refine ⟨cutD ns none (some 63), ?_⟩
  have hl := cut_len ns none (some 63)
  obtain ⟨y, hy⟩ := deck_loop (.scr ns) (cutD ns none (some 63)) [] none
  have hs : seqI [.lst false ((cutD ns none (some 63)).map D.int)] = some ((cutD ns none (some 63)).map D.int) := by simp [seqI]
  simp [g__law_deck, runD, ownOk, m__law_deck, slD, frz_lstt, sqV_ok hs, kLc_ok (fzL_mapint _) (show ((cutD ns none (some 63)).map D.int).length ≤ 1000 by rw [List.length_map]; omega), hy, restE, restV, outsD, List.range, List.range.loop, dk]
theorem mul_48 (x : Int) : mulD (.int x) (.int 48271) = some (.int (x * 48271)) := mulD_i (.inl (by decide))
theorem mul_79 (x : Int) : mulD (.int 7919) (.int x) = some (.int (7919 * x)) := mulD_i (.inr (by decide))
theorem mul_a (x : Int) : mulD (.int (x % 2147483647)) (.int (x % 2147483647 / 1009 + 69621)) = some (.int (x % 2147483647 * (x % 2147483647 / 1009 + 69621))) := mulD_i (.inr (by omega))
theorem mul_b (x : Int) : mulD (.int (x % 2147483647)) (.int (x % 2147483647 / 2003 + 40692)) = some (.int (x % 2147483647 * (x % 2147483647 / 2003 + 40692))) := mulD_i (.inr (by omega))
theorem mod_a (x : Int) : modD (.int x) (.int 2147483647) = some (.int (x % 2147483647)) := modD_i (by decide)
theorem mod_b (x : Int) : modD (.int x) (.int 2147483399) = some (.int (x % 2147483399)) := modD_i (by decide)
theorem div_a (x : Int) : fdivD (.int x) (.int 1009) = some (.int (x / 1009)) := fdivD_i (by decide) (by decide)
theorem div_b (x : Int) : fdivD (.int x) (.int 2003) = some (.int (x / 2003)) := fdivD_i (by decide) (by decide)
def rnd (z c : Int) : Int := ((z + 7919 * (c + 1) + 1) * 48271 % 2147483647 * ((z + 7919 * (c + 1) + 1) * 48271 % 2147483647 / 1009 + 69621) % 2147483647 * ((z + 7919 * (c + 1) + 1) * 48271 % 2147483647 * ((z + 7919 * (c + 1) + 1) * 48271 % 2147483647 / 1009 + 69621) % 2147483647 / 2003 + 40692)) % 2147483399
theorem s_law_pick (cells : List Int) (a b c : Int) {m : Int} (hm : 0 < m) (hm2 : m.natAbs.log2 < 9000) : ∃ r a' b' c', g__law_pick [dk cells a b c, .int m] = .ok (.int r, [some (dk cells a' b' c'), some (.int m)]) ∧ 0 ≤ r ∧ r < m := by
  by_cases hb : 0 < b
  · refine ⟨b % m, a, b / m, c + 1, ?_, Int.emod_nonneg _ (by omega), Int.emod_lt_of_pos _ hm⟩
    simp [g__law_pick, runD, ownOk, m__law_pick, hb, modD_i hm, fdivD_i hm hm2, outsD, List.range, List.range.loop]
  · have tail : ∀ x : Int, 0 ≤ x % m ∧ x % m < m := fun x => ⟨Int.emod_nonneg _ (by omega), Int.emod_lt_of_pos _ hm⟩
    by_cases h0 : 0 < cells.length
    · have h0' : (0 : Int) < cells.length := by omega
      obtain ⟨z, hz⟩ := ixD_cells (b := false) (Int.emod_nonneg a (show (cells.length : Int) ≠ 0 by omega)) (Int.emod_lt_of_pos a h0')
      by_cases h1 : 1000000000000000000 ≤ z
      · by_cases h2 : a + 1 ≤ cells.length
        · refine ⟨z % m, a + 1, z / m, c + 1, ?_, tail _⟩
          simp [g__law_pick, runD, ownOk, m__law_pick, hb, h0, hz, h1, h2, pow_18, modD_i hm, modD_i h0', fdivD_i hm hm2, outsD, List.range, List.range.loop]
        · refine ⟨rnd z c % m, a + 1, b, c + 1, ?_, tail _⟩
          · simp [rnd, g__law_pick, runD, ownOk, m__law_pick, hb, h0, hz, h1, h2, pow_18, modD_i hm, modD_i h0', fdivD_i hm hm2, outsD, List.range, List.range.loop, mul_48, mul_79, mul_a, mul_b, mod_a, mod_b, div_a, div_b]
      · refine ⟨rnd z c % m, a + 1, b, c + 1, ?_, tail _⟩
        · simp [rnd, g__law_pick, runD, ownOk, m__law_pick, hb, h0, hz, h1, pow_18, modD_i hm, modD_i h0', fdivD_i hm hm2, outsD, List.range, List.range.loop, mul_48, mul_79, mul_a, mul_b, mod_a, mod_b, div_a, div_b]
    · have h0' : cells.length = 0 := by omega
      refine ⟨rnd 0 c % m, a + 1, b, c + 1, ?_, tail _⟩
      · simp [rnd, g__law_pick, runD, ownOk, m__law_pick, hb, h0', pow_18, modD_i hm, fdivD_i hm hm2, outsD, List.range, List.range.loop, mul_48, mul_79, mul_a, mul_b, mod_a, mod_b, div_a, div_b]
end Mi
namespace Mi
open PySem PySem.Spec PyProof.Rows L2
/-! ### texts of signs -/
def one (c : Nat) : Str := ⟨#[c]⟩
def txt (l : List Nat) : Str := ⟨l.toArray⟩
theorem txt_cps (l : List Nat) : (txt l).cps.toList = l := by simp [txt]
theorem txt_len (l : List Nat) : (txt l).length = l.length := by simp [txt, Str.length]
theorem str_txt (s : Str) : s = txt s.cps.toList := by
  obtain ⟨⟨l⟩⟩ := s; rfl
theorem strsOf_ones : ∀ l : List Nat, strsOf (l.map fun c => .str (one c)) = some (l.map one)
  | [] => rfl
  | c :: l => by
    rw [List.map_cons, strsOf, strsOf_ones l]; rfl
theorem strsOf_map : ∀ l : List Str, strsOf (l.map .str) = some l
  | [] => rfl
  | c :: l => by rw [List.map_cons, strsOf, strsOf_map l]; rfl
theorem joinL_ones : ∀ l : List Nat, TL.joinL [] (l.map fun c => [c]) = l
  | [] => rfl
  | [c] => rfl
  | c :: d :: l => by
    show [c] ++ ([] ++ TL.joinL [] ((d :: l).map fun c => [c])) = _
    rw [joinL_ones (d :: l)]; rfl
theorem join_ones (l : List Nat) : Txt.join "" (l.map one) = txt l := by
  have h1 : Txt.join "" (l.map one) = Str.join "" (l.map one) := by
    have := join_plain_closes (sep := "") (l := l.map one)
    simpa using this
  rw [h1]
  apply str_ext
  rw [txt_cps]
  have := TL.tl_join "" (l.map one)
  show TL.tl (Str.join "" (l.map one)) = l
  rw [this, List.map_map]
  exact joinL_ones l
theorem sum_ones (l : List Nat) : ((l.map one).map (·.length)).sum = l.length := by
  induction l with
  | nil => rfl
  | cons c l ih => simp only [List.map_cons, List.sum_cons, ih, List.length_cons]; show 1 + l.length = _; omega
theorem joinD_ones (b : Bool) (l : List Nat) (h : l.length ≤ 1000) : joinD "" (.lst b (l.map fun c => .str (one c))) = some (.str (txt l)) := by
  simp only [joinD, strsOf_ones]
  rw [if_pos (by rw [sum_ones, List.length_map]; show l.length + l.length * 0 ≤ _; omega), join_ones]
/-! ### labels -/
end Mi
namespace Mi
open PySem PySem.Spec PyProof.Rows L2
/-! ### tables, terms, demands drawn -/
theorem ix_s {t : Str} {r : Int} (h : 0 ≤ r) (h2 : r < t.cps.toList.length) (hs : t.cps.toList.length ≤ 1000) : ∃ c ∈ t.cps.toList, ixD (.str t) (.int r) = some (.str (one c)) := by
  have hz : t.length ≤ sizeLine := by rw [szl]; show t.cps.size ≤ _; rw [← Array.length_toList]; omega
  have e : r.toNat < t.cps.toList.length := by omega
  refine ⟨t.cps.toList[r.toNat], List.getElem_mem e, ?_⟩
  simp only [ixD, hz, if_true, atI, ixN, h, h2, Option.bind_some, List.getElem?_eq_getElem e, Option.map_some, one]
/-! terms -/
end Mi
namespace Mi
open PySem PySem.Spec PyProof.Rows L2
theorem pow_10 : powD (.int 10) (.int 10) = some (.int 10000000000) := by simp [powD]
def lgB : EM FlowD := (mAsg 1 (mBin addD (mFrz (mBin mulD (mVarA 1) (mFrz (mBin powD (mFrz (mC (.int 10))) (mFrz (mC (.int 10))))))) (mFrz (mCall g__law_pick (mArgs [mVarA 0, mFrz (mBin powD (mFrz (mC (.int 10))) (mFrz (mC (.int 10))))])))))
theorem lg_one (cells : List Int) (a b c n : Int) (t : Option D) (h0 : 0 ≤ n) {B : Int} (hB : n < B) : ∃ a' b' c' n', lgB [some (dk cells a b c), some (.int n), t] = .ok (.next, [some (dk cells a' b' c'), some (.int n'), t]) ∧ 0 ≤ n' ∧ n' < B * 10000000000 := by
  obtain ⟨r, a1, b1, c1, h1, h2, h3⟩ := s_law_pick cells a b c (m := 10000000000) (by decide) (by decide)
  refine ⟨a1, b1, c1, n * 10000000000 + r, ?_, by omega, by omega⟩
  simp [lgB, runD, ownOk, outsD, List.range, List.range.loop, ownVars, putBack, pow_10, mulD_i, h1]
theorem s_law_long (cells : List Int) (a b c : Int) : ∃ n a' b' c', g__law_long [dk cells a b c] = .ok (.int n, [some (dk cells a' b' c')]) ∧ 0 ≤ n ∧ n < 10000000000000000000000000000000000000000 := by
  obtain ⟨a1, b1, c1, n1, h1, u1, v1⟩ := lg_one cells a b c 0 (some (.int 0)) (by decide) (B := 1) (by decide)
  obtain ⟨a2, b2, c2, n2, h2, u2, v2⟩ := lg_one cells a1 b1 c1 n1 (some (.int 1)) u1 v1
  obtain ⟨a3, b3, c3, n3, h3, u3, v3⟩ := lg_one cells a2 b2 c2 n2 (some (.int 2)) u2 v2
  obtain ⟨a4, b4, c4, n4, h4, u4, v4⟩ := lg_one cells a3 b3 c3 n3 (some (.int 3)) u3 v3
  have hr : rng1 [.int 4] = some [.int 0, .int 1, .int 2, .int 3] := by simp [rng1, rngD, List.range, List.range.loop]
  have hz : fzL [D.int 0, .int 1, .int 2, .int 3] = true := by simp
  have hl : loopF (.nm 2) lgB [.int 0, .int 1, .int 2, .int 3] [some (dk cells a b c), some (.int 0), none] = .ok (.next, [some (dk cells a4 b4 c4), some (.int n4), some (.int 3)]) := by
    simp only [e_lp, tg_nm, lpV_ok, List.set_cons_succ, List.set_cons_zero, h1, bind_ok, kLp_next, h2, h3, h4, e_lp0]
  simp only [lgB] at hl
  refine ⟨n4, a4, b4, c4, ?_, u4, by omega⟩
  simp (implicitDefEqProofs := false) [g__law_long, m__law_long, runD, ownOk, outsD, List.range, List.range.loop, ownVars, putBack, rV_ok hr, kFor_ok hz, hl]
/-! ### values -/
def rv (d : D) : Str := match reprD d with
  | some (.str t) => t
  | _ => ""
def okV (d : D) : Prop := fz d = true ∧ reprD d = some (.str (rv d)) ∧ PyData.strOk (rv d) = true
theorem okV_of {d : D} {t : Str} (h : fz d = true) (e : reprD d = some (.str t)) (k : PyData.strOk t = true) : okV d := by
  have z : rv d = t := by unfold rv; rw [e]
  exact ⟨h, by rw [z]; exact e, by rw [z]; exact k⟩
theorem strOk_of {s : Str} (h : ∀ c ∈ s.cps.toList, c < 1114112) : PyData.strOk s = true := by
  unfold PyData.strOk
  rw [Array.all_eq_true_iff_forall_mem]
  intro c hc
  exact decide_eq_true (h c (Array.mem_toList_iff.mpr hc))
theorem strOk_int (i : Int) : PyData.strOk ((toString i : String) : Str) = true := strOk_of fun c hc => by
  by_cases z : c < 1114112
  · exact z
  · exact absurd hc (int_text_free' c ⟨by omega, by omega⟩ i)
theorem okV_int {i : Int} (h : i.natAbs.log2 < 1920) : okV (.int i) := okV_of (by simp) (by simp only [reprD]; rw [if_pos h]) (strOk_int i)
theorem okV_str {x : Str} (h : (reprText x).length ≤ sizeLine) (k : PyData.strOk (reprText x) = true) : okV (.str x) := okV_of (by simp) (by simp only [reprD]; rw [if_pos h]) k
theorem okV_small : ∀ i : Fin 5, ∀ j : Fin 3, (PyData.tuple [.int i.val, .str "a", .int j.val]).showable = true ∧ (PyData.tuple [.int i.val, .str "a", .int j.val]).shown.length ≤ 1000 ∧ (PyData.tuple [.int i.val, .str "a", .int j.val]).depth ≤ 8 ∧ PyData.strOk (PyData.tuple [.int i.val, .str "a", .int j.val]).shown = true := by decide +kernel
theorem okV_smallL : ∀ i : Fin 5, (PyData.list [.int i.val]).showable = true ∧ (PyData.list [.int i.val]).shown.length ≤ 1000 ∧ (PyData.list [.int i.val]).depth ≤ 8 ∧ PyData.strOk (PyData.list [.int i.val]).shown = true := by decide +kernel
theorem okV_tup {i j : Int} (h1 : 0 ≤ i) (h2 : i < 5) (h3 : 0 ≤ j) (h4 : j < 3) : okV (.tup [.int i, .str "a", .int j]) := by
  obtain ⟨n, rfl⟩ := Int.eq_ofNat_of_zero_le h1
  obtain ⟨m, rfl⟩ := Int.eq_ofNat_of_zero_le h3
  have k := okV_small ⟨n, by omega⟩ ⟨m, by omega⟩
  refine okV_of (by simp) (t := (PyData.tuple [.int (n : Int), .str "a", .int (m : Int)]).shown) ?_ k.2.2.2
  have e : pdD (.tup [.int (n : Int), .str "a", .int (m : Int)]) = some (.tuple [.int (n : Int), .str "a", .int (m : Int)]) := by simp [pdD, pdL]
  simp only [reprD, e]
  rw [if_pos ⟨k.1, Nat.le_trans k.2.1 (by rw [szl]; decide), k.2.2.1⟩]
theorem okV_lst {i : Int} (h1 : 0 ≤ i) (h2 : i < 5) : okV (.lst false [.int i]) := by
  obtain ⟨n, rfl⟩ := Int.eq_ofNat_of_zero_le h1
  have k := okV_smallL ⟨n, by omega⟩
  refine okV_of (by simp) (t := (PyData.list [.int (n : Int)]).shown) ?_ k.2.2.2
  have e : pdD (.lst false [.int (n : Int)]) = some (.list [.int (n : Int)]) := by simp [pdD, pdL]
  simp only [reprD, e]
  rw [if_pos ⟨k.1, Nat.le_trans k.2.1 (by rw [szl]; decide), k.2.2.1⟩]
end Mi
namespace Mi
open PySem PySem.Spec PyProof.Rows L2
def ab : Str := "abcXYZ 019*"
theorem ab_len : ab.cps.toList.length = 11 := by decide +kernel
theorem ab_lt : ∀ c ∈ ab.cps.toList, c < 16 ^ 8 := by decide +kernel
theorem ab_repr : ∀ c ∈ ab.cps.toList, PySem.Builtin.Str.reprChar 34 c = [c] ∧ PySem.Builtin.Str.reprChar 39 c = [c] ∧ c < 1000 := by decide +kernel
theorem fold_plain (q : Nat) : ∀ (l : List Nat) (acc : Array Nat), (∀ c ∈ l, PySem.Builtin.Str.reprChar q c = [c]) → (l.foldl (fun out c => out ++ (PySem.Builtin.Str.reprChar q c).toArray) acc).toList = acc.toList ++ l
  | [], acc, _ => by simp
  | c :: l, acc, h => by
    rw [List.foldl_cons, fold_plain q l _ fun d hd => h d (List.mem_cons_of_mem _ hd), h c (by simp)]
    simp
theorem strOk_repr {cs : List Nat} (h : ∀ c ∈ cs, c ∈ ab.cps.toList) : PyData.strOk (reprText (txt cs)) = true := by
  refine strOk_of fun c hc => ?_
  have hq : reprQuote (txt cs) = 34 ∨ reprQuote (txt cs) = 39 := by
    unfold reprQuote
    split
    · exact .inl rfl
    · exact .inr rfl
  have hr : ∀ c ∈ cs, PySem.Builtin.Str.reprChar (reprQuote (txt cs)) c = [c] := fun c hc => by
    obtain ⟨h1, h2, _⟩ := ab_repr c (h c hc)
    rcases hq with e | e <;> rw [e] <;> assumption
  have hl : (reprText (txt cs)).cps.toList = [reprQuote (txt cs)] ++ cs ++ [reprQuote (txt cs)] := by
    unfold reprText
    dsimp only
    rw [Array.toList_push, ← Array.foldl_toList, txt_cps, fold_plain _ _ _ hr]
  rw [hl] at hc
  simp only [List.mem_append, List.mem_singleton] at hc
  rcases hc with (hc | hc) | hc
  · rcases hq with e | e <;> rw [e] at hc <;> omega
  · have := (ab_repr c (h c hc)).2.2; omega
  · rcases hq with e | e <;> rw [e] at hc <;> omega
def txE : EM D := mBin ixD (mFrz (mC (.str "abcXYZ 019*"))) (mFrz (mCall g__law_pick (mArgs [mVarA 0, mFrz (mC (.int 11))])))
def txP (d : D) : Prop := ∃ c ∈ ab.cps.toList, d = .str (one c)
theorem tx_one (cells : List Int) (k : Int) (s : Int × Int × Int) (x : D) : ∃ d s' y, txE [some (dk cells s.1 s.2.1 s.2.2), some (.int k), some x] = .ok (d, [some (dk cells (s' : Int × Int × Int).1 s'.2.1 s'.2.2), some (.int k), y]) ∧ txP (frzQ d) := by
  obtain ⟨a, b, c⟩ := s
  obtain ⟨r, a1, b1, c1, h1, h2, h3⟩ := s_law_pick cells a b c (m := 11) (by decide) (by decide)
  obtain ⟨ch, hch, hi⟩ := ix_s (t := ab) h2 (by rw [ab_len]; exact h3) (by rw [ab_len]; decide)
  refine ⟨.str (one ch), (a1, b1, c1), some x, ?_, ch, hch, by simp⟩
  simp only [ab] at hi
  simp (implicitDefEqProofs := false) [txE, ownVars, putBack, h1, hi]
theorem chars_of : ∀ l : List D, (∀ d ∈ l, txP d) → ∃ cs : List Nat, l = cs.map (fun c => D.str (one c)) ∧ ∀ c ∈ cs, c ∈ ab.cps.toList
  | [], _ => ⟨[], rfl, by simp⟩
  | d :: l, h => by
    obtain ⟨c, hc, rfl⟩ := h d (by simp)
    obtain ⟨cs, rfl, h2⟩ := chars_of l fun x hx => h x (List.mem_cons_of_mem _ hx)
    exact ⟨c :: cs, rfl, fun x hx => by
      rcases List.mem_cons.mp hx with rfl | hx
      · exact hc
      · exact h2 x hx⟩
theorem tx_lc (cells : List Int) (k : Int) (r : Int) (h0 : 0 ≤ r) (h9 : r < 9) (a b c : Int) : ∃ (x : Str) (a' b' c' : Int), kLc (.nm 2) mYes txE [2] (rngD 0 r.toNat, [some (dk cells a b c), some (.int k), none]) = .ok (.lst true (x.cps.toList.map fun c => .str (one c)), [some (dk cells a' b' c'), some (.int k), none]) ∧ joinD "" (.lst false (x.cps.toList.map fun c => .str (one c))) = some (.str x) ∧ okV (.str x) := by
  obtain ⟨l, s', y, h1, h2, h3⟩ := loopL_st (k := 2) (elt := txE) (S := Int × Int × Int) (fun s x => [some (dk cells s.1 s.2.1 s.2.2), some (.int k), x]) (fun _ _ _ => rfl) txP (tx_one cells k) (rngD 0 r.toNat) [] (a, b, c) none
  obtain ⟨cs, rfl, h4⟩ := chars_of l h3
  have hl : cs.length ≤ 8 := by rw [List.length_map] at h2; rw [h2]; simp [rngD]; omega
  have ec : (txt cs).cps.toList = cs := txt_cps cs
  refine ⟨txt cs, s'.1, s'.2.1, s'.2.2, ?_, ?_, ?_⟩
  · have hz : fzL (rngD 0 r.toNat) = true := fzL_map _ (fun _ => by simp) _
    rw [kLc_ok hz (by simp [rngD]; omega)]
    have h1' := h1
    dsimp only at h1'
    rw [h1', ec]
    simp [restE, restV]
  · rw [ec]; exact joinD_ones false cs (by omega)
  · refine okV_str ?_ (strOk_repr h4)
    have := StrLaws.reprText_len (txt cs) (by rw [ec]; exact fun c hc => ab_lt c (h4 c hc))
    rw [txt_len] at this
    rw [szl]; omega
theorem s_law_value (cells : List Int) (a b c : Int) : ∃ d a' b' c', g__law_value [dk cells a b c] = .ok (d, [some (dk cells a' b' c')]) ∧ okV (frzQ d) := by
  obtain ⟨k, a1, b1, c1, h1, h2, h3⟩ := s_law_pick cells a b c (m := 6) (by decide) (by decide)
  by_cases e0 : k = 0
  · subst e0
    obtain ⟨r, a2, b2, c2, k1, k2, k3⟩ := s_law_pick cells a1 b1 c1 (m := 9) (by decide) (by decide)
    refine ⟨.int (r - 4), a2, b2, c2, ?_, ?_⟩
    · simp (implicitDefEqProofs := false) [g__law_value, m__law_value, runD, ownOk, outsD, List.range, List.range.loop, ownVars, putBack, h1, k1]
    · rw [frzQ_int]
      refine okV_int ?_
      have hn : (r - 4).natAbs < 2 ^ 1920 := Nat.lt_of_lt_of_le (show (r - 4).natAbs < 100 by omega) (by decide +kernel)
      by_cases z : (r - 4).natAbs = 0
      · rw [z]; decide
      · exact (Nat.log2_lt z).mpr hn
  by_cases e1 : k = 1
  · subst e1
    obtain ⟨n, a2, b2, c2, k1, k2, k3⟩ := s_law_long cells a1 b1 c1
    obtain ⟨r, a3, b3, c3, l1, l2, l3⟩ := s_law_pick cells a2 b2 c2 (m := 2) (by decide) (by decide)
    have hm : mulD (.int 2) (.int r) = some (.int (2 * r)) := mulD_i (.inr (by decide))
    have hm2 : mulD (.int n) (.int (1 - 2 * r)) = some (.int (n * (1 - 2 * r))) := mulD_i (.inl (by omega))
    refine ⟨.int (n * (1 - 2 * r)), a3, b3, c3, ?_, ?_⟩
    · simp (implicitDefEqProofs := false) [g__law_value, m__law_value, runD, ownOk, outsD, List.range, List.range.loop, ownVars, putBack, h1, k1, l1, hm, hm2]
    · rw [frzQ_int]
      refine okV_int ?_
      have hn : (n * (1 - 2 * r)).natAbs ≤ 10000000000000000000000000000000000000000 := by
        have : r = 0 ∨ r = 1 := by omega
        rcases this with rfl | rfl <;> omega
      by_cases z : (n * (1 - 2 * r)).natAbs = 0
      · rw [z]; decide
      · exact (Nat.log2_lt z).mpr (Nat.lt_of_le_of_lt hn (by decide +kernel))
  by_cases e2 : k = 2
  · subst e2
    obtain ⟨r, a2, b2, c2, k1, k2, k3⟩ := s_law_pick cells a1 b1 c1 (m := 9) (by decide) (by decide)
    obtain ⟨x, a3, b3, c3, t1, t2, t3⟩ := tx_lc cells 2 r k2 k3 a2 b2 c2
    have hr : rng1 [.int r] = some (rngD 0 r.toNat) := by
      show (if _ then _ else _) = _
      rw [if_pos (by omega)]
    refine ⟨.str x, a3, b3, c3, ?_, by simpa using t3⟩
    have hfz : fzL (x.cps.toList.map fun c => D.str (one c)) = true := fzL_map _ (fun _ => by simp) _
    simp only [txE] at t1
    generalize rngD 0 r.toNat = rg at *
    generalize (x.cps.toList.map fun c => D.str (one c)) = cl at *
    simp (implicitDefEqProofs := false) [g__law_value, m__law_value, runD, ownOk, outsD, List.range, List.range.loop, ownVars, putBack, h1, k1, rV_ok hr, t1, frz_lstt hfz, t2]
  by_cases e3 : k = 3
  · subst e3
    obtain ⟨r, a2, b2, c2, k1, k2, k3⟩ := s_law_pick cells a1 b1 c1 (m := 5) (by decide) (by decide)
    obtain ⟨q, a3, b3, c3, l1, l2, l3⟩ := s_law_pick cells a2 b2 c2 (m := 3) (by decide) (by decide)
    refine ⟨.tup [.int r, .str "a", .int q], a3, b3, c3, ?_, ?_⟩
    · simp (implicitDefEqProofs := false) [g__law_value, m__law_value, runD, ownOk, outsD, List.range, List.range.loop, ownVars, putBack, h1, k1, l1]
    · rw [frzQ_fz (by simp)]; exact okV_tup k2 k3 l2 l3
  by_cases e4 : k = 4
  · subst e4
    obtain ⟨r, a2, b2, c2, k1, k2, k3⟩ := s_law_pick cells a1 b1 c1 (m := 5) (by decide) (by decide)
    refine ⟨.lst true [.int r], a2, b2, c2, ?_, ?_⟩
    · simp (implicitDefEqProofs := false) [g__law_value, m__law_value, runD, ownOk, outsD, List.range, List.range.loop, ownVars, putBack, h1, k1]
    · rw [frz_lstt (by simp)]; exact okV_lst k2 k3
  · refine ⟨.non, a1, b1, c1, ?_, ?_⟩
    · simp (implicitDefEqProofs := false) [g__law_value, m__law_value, runD, ownOk, outsD, List.range, List.range.loop, ownVars, putBack, h1, e0, e1, e2, e3, e4]
    · exact okV_of (by simp [frzQ]) (t := "None") (by simp [frzQ, reprD]) (by decide +kernel)
end Mi
namespace Mi
open PySem PySem.Spec PyProof.Rows L2
def ord : List Str := ["NoWorld", "NoNumber", "NoDemand", "NoFolk", "NoInstance", "NoClock", "NoPlace", "NoRule", "NoGrade", "NotServed", "NoClaim", "NoRow", "NotRight", "NoName", "NothingDone", "NoLine", "OtherBook", "NoLabels", "NoNames", "NoNumbers", "NoFractions", "NoWeights", "NoWish", "BadBook", "BadParty", "BadClerk", "TooLarge", "TooMany", "BadText", "NotKept"]
theorem eqB_self {d : D} (h : okP 64 d = true) : eqB d d = true := PySem.SeqAt.eqv_refl _ (okP_shape _ _ h).1
theorem eq_same {l m : List D} {a b : Bool} (e : l = m) (h : okPL 63 m = true) : eqD (.lst a l) (.lst b m) = some (.bl true) := by
  subst e
  have h1 : okP 64 (.lst a l) = true := by simpa only [okP] using h
  have h2 : okP 64 (.lst b l) = true := by simpa only [okP] using h
  have h3 : eqB (.lst a l) (.lst b l) = true := eqB_self (d := .lst a l) h1
  show (eqQ (.lst a l) (.lst b l)).map _ = _
  unfold eqQ
  show ((if okP 64 (.lst a l) && okP 64 (.lst b l) then some (eqB (.lst a l) (.lst b l)) else none) : Option Bool).map _ = _
  rw [h1, h2, h3]
  rfl
theorem okPL_bl : ∀ (l : List Bool) (n : Nat), okPL n (l.map .bl) = true
  | [], _ => by simp [okPL]
  | b :: l, n => by rw [List.map_cons, okPL, okPL_bl l n]; cases n <;> rfl
theorem s_law_kinds {c : Str} {ns : List Str} {ws : List D} (h : c ∈ exl) (z : fzL ws = true) : g__law_kinds [.exn c ns ws] = .ok (.lst true (ord.map fun q => .bl (c == q)), [some (.exn c ns ws)]) := by
  have hi : ∀ q, isX exl false q (.exn c ns ws) = some (.bl (c == q)) := fun q => by rw [isX_in h]; rfl
  have hz : fz (.exn c ns ws) = true := by rw [fz_exn]; exact z
  have l1 : 23 ≤ sizeLine := by rw [szl]; decide
  have l2 : 30 ≤ sizeLine := by rw [szl]; decide
  generalize D.exn c ns ws = x at *
  simp (implicitDefEqProofs := false) [g__law_kinds, m__law_kinds, runD, ownOk, outsD, List.range, List.range.loop, ownVars, putBack, hi, hz, ord, addD, l1, l2, frzQ, fz, fzL, frz, frzL]

--def aloneB (c : Str) (at_ : Int) : Bool := (rngD 0 30).map (fun d => match d with | .int i => D.bl (decide (i = at_)) | _ => .non) == ord.map fun q => D.bl (c == q)
theorem rng_ord : ∀ k : Fin 30, (List.range 30).map (fun (i : Nat) => decide ((i : Int) = (k.val : Int))) = ord.map fun q => ord[k.val]! == q := by decide +kernel
theorem ord_exl : ∀ k : Fin 30, ord[k.val]! ∈ exl := by decide +kernel
theorem s_law_is_alone {k : Nat} (hk : k < 30) {ns : List Str} {ws : List D} (z : fzL ws = true) : g__law_is_alone [.exn ord[k]! ns ws, .int k] = .ok (.bl true, [some (.exn ord[k]! ns ws), some (.int k)]) := by
  have hin : ord[k]! ∈ exl := ord_exl ⟨k, hk⟩
  have hro : (List.range 30).map (fun (i : Nat) => decide ((i : Int) = (k : Int))) = ord.map fun q => ord[k]! == q := rng_ord ⟨k, hk⟩
  have hkn := s_law_kinds (ns := ns) hin z
  generalize ord[k]! = c at *
  have hz : fz (.exn c ns ws) = true := by rw [fz_exn]; exact z
  have h1 : isX exl true "ElderError" (.exn c ns ws) = some (.bl true) := by rw [isX_in hin]; rfl
  have h2 : isX exl true "ValueError" (.exn c ns ws) = some (.bl true) := by rw [isX_in hin]; rfl
  have hr : rng1 [.int 30] = some (rngD 0 30) := by simp [rng1]
  have hrz : fzL (rngD 0 30) = true := fzL_map _ (fun _ => by simp) _
  generalize D.exn c ns ws = x at *
  have hlc := lc_pure (k := 2) (elt := mBin eqD (mVarA 2) (mVarA 1)) (fun d => match d with | .int i => D.bl (decide (i = (k : Int))) | _ => .non) (e := [some x, some (.int k), none]) (ds := rngD 0 30) hrz (by simp [rngD]) (fun d hd => by
    obtain ⟨i, _, rfl⟩ := List.mem_map.mp hd
    simp)
  have hm : (rngD 0 30).map (fun d => frzQ (match d with | .int i => D.bl (decide (i = (k : Int))) | _ => .non)) = ord.map fun q => D.bl (c == q) := by
    have e1 : (rngD 0 30).map (fun d => frzQ (match d with | .int i => D.bl (decide (i = (k : Int))) | _ => .non)) = ((List.range 30).map (fun (i : Nat) => decide ((i : Int) = (k : Int)))).map D.bl := by
      simp [rngD, List.map_map, Function.comp_def]
    rw [e1, hro, List.map_map]; rfl
  rw [hm] at hlc
  have hok : okPL 63 (ord.map fun q => D.bl (c == q)) = true := by
    have := okPL_bl (ord.map fun q => c == q) 63
    rwa [List.map_map] at this
  have hfz : fzL (ord.map fun q => D.bl (c == q)) = true := fzL_map _ (fun _ => by simp) _
  have he := eq_same (a := false) (b := false) (l := ord.map fun q => D.bl (c == q)) rfl hok
  generalize (ord.map fun q => D.bl (c == q)) = os at *
  generalize rngD 0 30 = rg at *
  have hki : ∀ n : Int, n = k → True := fun _ _ => trivial
  generalize (k : Int) = n at *
  have em : m__law_is_alone [some x, some (.int n), none] = .ok (.ret (.bl true), [some x, some (.int n), none]) := by
    simp (implicitDefEqProofs := false) [m__law_is_alone, h1, h2, ownVars, putBack, hz, hkn, rV_ok hr, hlc, frz_lstt hfz, he, restV]
  simp (implicitDefEqProofs := false) [g__law_is_alone, runD, ownOk, outsD, List.range, List.range.loop, hz, em]
end Mi
namespace Mi
open PySem PySem.Spec PyProof.Rows L2
theorem s_law_plain : g__law_plain [] = .ok (.lst true ((ord.take 23).map fun c => .exn c [] []), []) := by
  simp (implicitDefEqProofs := false) [g__law_plain, m__law_plain, runD, ownOk, outsD, List.range, List.range.loop, ord, frzQ, fzL]
def wth (v0 v1 v2 v3 v4 v5 v6 : D) : List D := [.exn "BadBook" ["part"] [v0], .exn "BadParty" ["part"] [v1], .exn "BadClerk" ["part"] [v2], .exn "TooLarge" ["most"] [v3], .exn "TooMany" ["most"] [v4], .exn "BadText" ["line"] [v5], .exn "NotKept" ["label"] [v6]]
section
variable {v0 v1 v2 v3 v4 v5 v6 : D} (h0 : fz v0 = true) (h1 : fz v1 = true) (h2 : fz v2 = true) (h3 : fz v3 = true) (h4 : fz v4 = true) (h5 : fz v5 = true) (h6 : fz v6 = true)
include h0 h1 h2 h3 h4 h5 h6
theorem s_law_with (b : Bool) : g__law_with [.lst b [v0, v1, v2, v3, v4, v5, v6]] = .ok (.lst true (wth v0 v1 v2 v3 v4 v5 v6), [some (.lst b [v0, v1, v2, v3, v4, v5, v6])]) := by
  simp (implicitDefEqProofs := false) [g__law_with, m__law_with, runD, ownOk, outsD, List.range, List.range.loop, ixD, atI, ixN, pick, h0, h1, h2, h3, h4, h5, h6, frzQ_fz, wth, fzL]
theorem s_law_fields (b : Bool) : g__law_fields [.lst b (wth v0 v1 v2 v3 v4 v5 v6)] = .ok (.lst true [v0, v1, v2, v3, v4, v5, v6], [some (.lst b (wth v0 v1 v2 v3 v4 v5 v6))]) := by
  have l1 : 7 ≤ sizeLine := by rw [szl]; decide
  simp (implicitDefEqProofs := false) [g__law_fields, m__law_fields, runD, ownOk, outsD, List.range, List.range.loop, ixD, atI, ixN, pick, h0, h1, h2, h3, h4, h5, h6, frzQ, frz, frzL_fz, wth, fzL, fz, xfD, xs_part, xs_most, xs_line, xs_label, addD, l1]
end
theorem s_law_raised {v : D} (h : fz v = true) : g__law_raised [v] = .ok (.lst true [v], [some v]) := by
  have hm : mvList (mvPart "BadBook" "part") ⟨"BadBook", ["part"], [v]⟩ = some (.lst true [v]) := by simp [mvList, mvPart, h]
  have hk := kTryAs_exc (i := 2) (j := 1) (yes := yes_BadBook) (no := no_BadBook) (e := [some v, some (.lst true []), none]) (z := ⟨"BadBook", ["part"], [v]⟩) (by simp [yes_BadBook]) hm (by simp)
  simp (implicitDefEqProofs := false) [g__law_raised, m__law_raised, runD, ownOk, outsD, List.range, List.range.loop, h, frzQ_fz, hk, fzL, vM_mv]
theorem s_law_is_caught : g__law_is_caught [] = .ok (.bl true, []) := by
  simp (implicitDefEqProofs := false) [g__law_is_caught, m__law_is_caught, runD, ownOk, outsD, List.range, List.range.loop, yes_ElderError]
/-! ### the law -/
theorem vals_one (cells : List Int) (p : Option D) (x2 : Option D) (s : Int × Int × Int) (x : D) (r : List (Option D)) : ∃ d s' y, mCall g__law_value (mArgs [mVarA 1]) (p :: some (dk cells s.1 s.2.1 s.2.2) :: x2 :: some x :: r) = .ok (d, p :: some (dk cells (s' : Int × Int × Int).1 s'.2.1 s'.2.2) :: x2 :: y :: r) ∧ okV (frzQ d) := by
  obtain ⟨a, b, c⟩ := s
  obtain ⟨d, a1, b1, c1, h1, h2⟩ := s_law_value cells a b c
  refine ⟨d, (a1, b1, c1), some x, ?_, h2⟩
  simp (implicitDefEqProofs := false) [ownVars, putBack, h1]
theorem vals_lc (cells : List Int) (p : Option D) (x2 : Option D) (r : List (Option D)) (a b c : Int) : ∃ (v0 v1 v2 v3 v4 v5 v6 : D) (a' b' c' : Int), kLc (.nm 3) mYes (mCall g__law_value (mArgs [mVarA 1])) [3] (rngD 0 7, p :: some (dk cells a b c) :: x2 :: none :: r) = .ok (.lst true [v0, v1, v2, v3, v4, v5, v6], p :: some (dk cells a' b' c') :: x2 :: none :: r) ∧ ∀ d ∈ [v0, v1, v2, v3, v4, v5, v6], okV d := by
  obtain ⟨l, s', y, h1, h2, h3⟩ := loopL_st (k := 3) (elt := mCall g__law_value (mArgs [mVarA 1])) (S := Int × Int × Int) (fun s x => p :: some (dk cells s.1 s.2.1 s.2.2) :: x2 :: x :: r) (fun _ _ _ => rfl) okV (fun s x => vals_one cells p x2 s x r) (rngD 0 7) [] (a, b, c) none
  have hl : l.length = 7 := by rw [h2]; simp [rngD]
  obtain ⟨v0, v1, v2, v3, v4, v5, v6, rfl⟩ : ∃ v0 v1 v2 v3 v4 v5 v6, l = [v0, v1, v2, v3, v4, v5, v6] := by
    match l, hl with
    | [v0, v1, v2, v3, v4, v5, v6], _ => exact ⟨_, _, _, _, _, _, _, rfl⟩
  refine ⟨v0, v1, v2, v3, v4, v5, v6, s'.1, s'.2.1, s'.2.2, ?_, h3⟩
  have hz : fzL (rngD 0 7) = true := fzL_map _ (fun _ => by simp) _
  rw [kLc_ok hz (by simp [rngD])]
  have h1' := h1
  dsimp only at h1'
  rw [h1']
  simp [restE, restV]
theorem rep_lc (l : List D) (h : ∀ d ∈ l, okV d) (hl : l.length ≤ 1000) (e : EnvD) (h6 : 6 < e.length) : kLc (.nm 6) mYes (mCB reprL (mArgs [mVarA 6])) [6] (l, e) = .ok (.lst true (l.map fun d => .str (rv d)), e.set 6 (restV e 6)) := by
  have hz : fzL l = true := by
    clear hl
    induction l with
    | nil => rfl
    | cons d l ih => rw [fzL, (h d (by simp)).1, ih fun x hx => h x (List.mem_cons_of_mem _ hx)]; rfl
  have := lc_pure (k := 6) (elt := mCB reprL (mArgs [mVarA 6])) (fun d => .str (rv d)) (e := e) (ds := l) hz hl (fun d hd => by
    simp (implicitDefEqProofs := false) [reprL, (h d hd).2.1, h6])
  rw [this]
  simp
theorem okPL_strs : ∀ (l : List D) (n : Nat), (∀ d ∈ l, okV d) → okPL n (l.map fun d => .str (rv d)) = true
  | [], _, _ => by simp [okPL]
  | d :: l, n, h => by
    rw [List.map_cons, okPL, okPL_strs l n fun x hx => h x (List.mem_cons_of_mem _ hx)]
    have := (h d (by simp)).2.2
    cases n <;> simp [okP, this]
theorem ne_same {l : List D} {a b : Bool} (h : okPL 63 l = true) : neD (.lst a l) (.lst b l) = some (.bl false) := by
  have e := eq_same (a := a) (b := b) (l := l) rfl h
  unfold neD
  unfold eqD at e
  cases hq : eqQ (.lst a l) (.lst b l) with
  | none => rw [hq] at e; cases e
  | some v => rw [hq] at e; cases e; rfl
end Mi
namespace Mi
open PySem PySem.Spec PyProof.Rows L2
theorem vE_own (i : Nat) (env : EnvD) {l : List D} (z : fzL l = true) : vE i env (some (some (.lst true l))) = .ok (.lst false l, env.set i (some (.lst false l))) := by
  unfold vE
  simp [z, frz, frzL_fz]
theorem fzL_okV : ∀ {l : List D}, (∀ d ∈ l, okV d) → fzL l = true
  | [], _ => rfl
  | d :: l, h => by rw [fzL, (h d (by simp)).1, fzL_okV fun x hx => h x (List.mem_cons_of_mem _ hx)]; rfl
theorem ixD_get {b : Bool} {l : List D} {k : Nat} {d : D} (h : l[k]? = some d) (z : fz d = true) : ixD (.lst b l) (.int k) = some d := by
  have hk : k < l.length := (List.getElem?_eq_some_iff.mp h).1
  have e := (List.getElem?_eq_some_iff.mp h).2
  simp [ixD, atI, ixN, pick, hk, e, z]
def prts (v0 v1 v2 v3 v4 v5 v6 : D) : List (List Str × List D) := List.replicate 23 (([] : List Str), ([] : List D)) ++ ([(["part"], [v0]), (["part"], [v1]), (["part"], [v2]), (["most"], [v3]), (["most"], [v4]), (["line"], [v5]), (["label"], [v6])] : List (List Str × List D))
def errs (v0 v1 v2 v3 v4 v5 v6 : D) : List D := List.zipWith (fun c p => .exn c p.1 p.2) ord (prts v0 v1 v2 v3 v4 v5 v6)
section
variable {v0 v1 v2 v3 v4 v5 v6 : D}
theorem errs_eq : (ord.take 23).map (fun c => D.exn c [] []) ++ wth v0 v1 v2 v3 v4 v5 v6 = errs v0 v1 v2 v3 v4 v5 v6 := by
  rfl
theorem errs_at (h : fzL [v0, v1, v2, v3, v4, v5, v6] = true) {k : Nat} (hk : k < 30) : ∃ ns ws, (errs v0 v1 v2 v3 v4 v5 v6)[k]? = some (.exn ord[k]! ns ws) ∧ fzL ws = true := by
  have h1 : ord.length = 30 := by decide
  have h2 : (prts v0 v1 v2 v3 v4 v5 v6).length = 30 := by simp [prts]
  have ho : ord[k]? = some ord[k]! := by
    have : k < ord.length := by omega
    rw [List.getElem?_eq_getElem this, List.getElem!_eq_getElem?_getD, List.getElem?_eq_getElem this]; rfl
  obtain ⟨p, hp⟩ : ∃ p, (prts v0 v1 v2 v3 v4 v5 v6)[k]? = some p := ⟨_, List.getElem?_eq_getElem (by omega)⟩
  refine ⟨p.1, p.2, ?_, ?_⟩
  · unfold errs
    rw [List.getElem?_zipWith, ho, hp]
  · have hm := List.mem_of_getElem? hp
    simp [fzL] at h
    simp only [prts, List.mem_append, List.mem_replicate, List.mem_cons, List.not_mem_nil, or_false] at hm
    rcases hm with ⟨_, rfl⟩ | rfl | rfl | rfl | rfl | rfl | rfl | rfl <;> simp [fzL, h]
theorem wth_at (h : fzL [v0, v1, v2, v3, v4, v5, v6] = true) {k : Nat} (hk : k < 7) : ∃ ns ws, (wth v0 v1 v2 v3 v4 v5 v6)[k]? = some (.exn ord[23 + k]! ns ws) ∧ fzL ws = true := by
  obtain ⟨ns, ws, h1, h2⟩ := errs_at h (k := 23 + k) (by omega)
  refine ⟨ns, ws, ?_, h2⟩
  rw [← errs_eq, List.getElem?_append_right (by simp [ord])] at h1
  simpa [ord] using h1
end
theorem al_one {e : EnvD} {k : Nat} {l : List D} {b : Bool} {c : Str} {ns : List Str} {ws : List D} (h8 : e[8]? = some (some (.lst b l))) (h10 : e[10]? = some (some (.int k))) (hk : k < 30) (hl : l[k]? = some (.exn ord[k]! ns ws)) (z : fzL ws = true) :
    mCall g__law_is_alone (mArgs [mFrz (mBin ixD (mVarA 8) (mVarA 10)), mVarA 10]) e = .ok (.bl true, e) := by
  have hf : fz (.exn ord[k]! ns ws) = true := by rw [fz_exn]; exact z
  have hx := ixD_get (b := b) hl hf
  have ha := s_law_is_alone hk (ns := ns) z
  generalize D.exn ord[k]! ns ws = x at *
  have es : e.set 10 (some (.int k)) = e := by
    apply List.ext_getElem?
    intro i
    by_cases hi : i = 10
    · subst hi
      rw [h10, List.getElem?_set_self (List.getElem?_eq_some_iff.mp h10).1]
    · rw [List.getElem?_set_ne (Ne.symm hi)]
  generalize (k : Int) = n at *
  simp (implicitDefEqProofs := false) [h8, h10, hx, frzQ_fz hf, ownVars, putBack, ha, hf, es]
end Mi
namespace Mi
open PySem PySem.Spec PyProof.Rows L2
theorem al_two {e : EnvD} {k : Nat} {l : List D} {b : Bool} {ns : List Str} {ws : List D} (h8 : e[9]? = some (some (.lst b l))) (h10 : e[10]? = some (some (.int k))) (hk : k < 7) (hl : l[k]? = some (.exn ord[23 + k]! ns ws)) (z : fzL ws = true) :
    mCall g__law_is_alone (mArgs [mFrz (mBin ixD (mVarA 9) (mVarA 10)), mFrz (mBin addD (mFrz (mC (.int 23))) (mVarA 10))]) e = .ok (.bl true, e) := by
  have hf : fz (.exn ord[23 + k]! ns ws) = true := by rw [fz_exn]; exact z
  have hx := ixD_get (b := b) hl hf
  have ha := s_law_is_alone (k := 23 + k) (by omega) (ns := ns) z
  generalize D.exn ord[23 + k]! ns ws = x at *
  have ec : ((23 + k : Nat) : Int) = 23 + (k : Int) := by omega
  rw [ec] at ha
  generalize (k : Int) = n at *
  simp (implicitDefEqProofs := false) [h8, h10, hx, frzQ_fz hf, ownVars, putBack, ha, hf]
theorem all_lc {elt : EM D} {e : EnvD} (n : Nat) (hn : n ≤ 1000) (h : ∀ k, k < n → elt (e.set 10 (some (.int k))) = .ok (.bl true, e.set 10 (some (.int k)))) : kLc (.nm 10) mYes elt [10] (rngD 0 n, e) = .ok (.lst true ((rngD 0 n).map fun _ => .bl true), e.set 10 (restV e 10)) := by
  have := lc_pure (k := 10) (elt := elt) (fun _ => .bl true) (e := e) (ds := rngD 0 n) (fzL_map _ (fun _ => by simp) _) (by simp [rngD]; omega) (fun d hd => by
    obtain ⟨k, hk, rfl⟩ := List.mem_map.mp hd
    simpa using h k (List.mem_range.mp hk))
  rw [this]
  simp
theorem all_true (n : Nat) : allD [.lst false ((rngD 0 n).map fun _ => .bl true)] = some (.bl true) := allD_true fun d hd => by
  obtain ⟨_, _, rfl⟩ := List.mem_map.mp hd; rfl
theorem law_true (ns : List Int) (hl : ns.length ≤ 63) (hb : ∀ z ∈ ns, PySem.Builtin.Int.intBits z ≤ 1048576) : ∃ outs, g_law [.scr ns] = .ok (.bl true, outs) := by
  obtain ⟨cells, hd⟩ := s_law_deck hl
  obtain ⟨v0, v1, v2, v3, v4, v5, v6, a1, b1, c1, q1, o1⟩ := vals_lc cells (some (.scr ns)) none [none, none, none, none, none, none, none] 0 0 0
  obtain ⟨w0, w1, w2, w3, w4, w5, w6, a2, b2, c2, q2, o2⟩ := vals_lc cells (some (.scr ns)) (some (.lst true [v0, v1, v2, v3, v4, v5, v6])) [none, none, none, none, none, none, none] a1 b1 c1
  have zv := fzL_okV o1
  have zw := fzL_okV o2
  have ov0 : fz v0 = true := (o1 v0 (by simp)).1
  have ov1 : fz v1 = true := (o1 v1 (by simp)).1
  have ov2 : fz v2 = true := (o1 v2 (by simp)).1
  have ov3 : fz v3 = true := (o1 v3 (by simp)).1
  have ov4 : fz v4 = true := (o1 v4 (by simp)).1
  have ov5 : fz v5 = true := (o1 v5 (by simp)).1
  have ov6 : fz v6 = true := (o1 v6 (by simp)).1
  have ow0 : fz w0 = true := (o2 w0 (by simp)).1
  have ow1 : fz w1 = true := (o2 w1 (by simp)).1
  have ow2 : fz w2 = true := (o2 w2 (by simp)).1
  have ow3 : fz w3 = true := (o2 w3 (by simp)).1
  have ow4 : fz w4 = true := (o2 w4 (by simp)).1
  have ow5 : fz w5 = true := (o2 w5 (by simp)).1
  have ow6 : fz w6 = true := (o2 w6 (by simp)).1
  have hw1 := s_law_with ov0 ov1 ov2 ov3 ov4 ov5 ov6 false
  have hw2 := s_law_with ow0 ow1 ow2 ow3 ow4 ow5 ow6 false
  have hf1 := s_law_fields ov0 ov1 ov2 ov3 ov4 ov5 ov6 false
  have hf2 := s_law_fields ow0 ow1 ow2 ow3 ow4 ow5 ow6 true
  have hra := s_law_raised ow0
  have hcu := s_law_is_caught
  have hpl := s_law_plain
  have hea := fun k hk => errs_at (v0 := v0) (v1 := v1) (v2 := v2) (v3 := v3) (v4 := v4) (v5 := v5) (v6 := v6) zv (k := k) hk
  have hwa := fun k hk => wth_at (v0 := w0) (v1 := w1) (v2 := w2) (v3 := w3) (v4 := w4) (v5 := w5) (v6 := w6) zw (k := k) hk
  have hee := errs_eq (v0 := v0) (v1 := v1) (v2 := v2) (v3 := v3) (v4 := v4) (v5 := v5) (v6 := v6)
  have zP : fzL ((ord.take 23).map fun c => D.exn c [] []) = true := fzL_map _ (fun _ => by simp [fz, fzL]) _
  have zW1 : fzL (wth v0 v1 v2 v3 v4 v5 v6) = true := by simp [wth, fzL, ov0, ov1, ov2, ov3, ov4, ov5, ov6]
  have zW2 : fzL (wth w0 w1 w2 w3 w4 w5 w6) = true := by simp [wth, fzL, ow0, ow1, ow2, ow3, ow4, ow5, ow6]
  have lP : ((ord.take 23).map fun c => D.exn c [] []).length = 23 := by simp [ord]
  have lW : (wth v0 v1 v2 v3 v4 v5 v6).length = 7 := rfl
  have hadd : addD (.lst false ((ord.take 23).map fun c => D.exn c [] [])) (.lst false (wth v0 v1 v2 v3 v4 v5 v6)) = some (.lst true (errs v0 v1 v2 v3 v4 v5 v6)) := by
    simp only [addD, zP, zW1, lP, lW, hee]
    rw [if_pos (by rw [szl]; decide)]
  have zE : fzL (errs v0 v1 v2 v3 v4 v5 v6) = true := by
    rw [← hee]
    rw [fzL_append, zP, zW1]; rfl
  have hcut : slD (.lst true (errs v0 v1 v2 v3 v4 v5 v6)) (some 23) none = some (.lst true (wth v0 v1 v2 v3 v4 v5 v6)) := by
    simp only [slD, zE, if_true]
    rfl
  have rx : ∀ (E : EnvD), 6 < E.length → kLc (.nm 6) mYes (mCB reprL (mArgs [mVarA 6])) [6] ([w0], E) = .ok (.lst true [.str (rv w0)], E.set 6 (restV E 6)) := fun E hE => rep_lc [w0] (fun d hd => o2 d (by simp at hd; simp [hd])) (by simp) E hE
  have rV : ∀ (E : EnvD), 6 < E.length → kLc (.nm 6) mYes (mCB reprL (mArgs [mVarA 6])) [6] ([v0, v1, v2, v3, v4, v5, v6], E) = .ok (.lst true ([v0, v1, v2, v3, v4, v5, v6].map fun d => .str (rv d)), E.set 6 (restV E 6)) := fun E hE => rep_lc _ o1 (by simp) E hE
  have rW : ∀ (E : EnvD), 6 < E.length → kLc (.nm 6) mYes (mCB reprL (mArgs [mVarA 6])) [6] ([w0, w1, w2, w3, w4, w5, w6], E) = .ok (.lst true ([w0, w1, w2, w3, w4, w5, w6].map fun d => .str (rv d)), E.set 6 (restV E 6)) := fun E hE => rep_lc _ o2 (by simp) E hE
  have n1 := fun a b => ne_same (a := a) (b := b) (okPL_strs _ 63 o1)
  have n2 := fun a b => ne_same (a := a) (b := b) (okPL_strs _ 63 o2)
  have n3 : ∀ a b, neD (.lst a [.str (rv w0)]) (.lst b [.str (rv w0)]) = some (.bl false) := fun a b => ne_same (a := a) (b := b) (okPL_strs [w0] 63 (fun d hd => o2 d (by simp at hd; simp [hd])))
  have c3 : slD (.lst true ([w0, w1, w2, w3, w4, w5, w6].map fun d => .str (rv d))) none (some 1) = some (.lst true [.str (rv w0)]) := by
    have z : fzL ([w0, w1, w2, w3, w4, w5, w6].map fun d => D.str (rv d)) = true := fzL_map _ (fun _ => by simp) _
    simp only [slD, z, if_true]
    rfl
  have iw : ixD (.lst false [w0, w1, w2, w3, w4, w5, w6]) (.int 0) = some w0 := by simp [ixD, atI, ixN, pick, ow0]
  have zd1 : fzL ([v0, v1, v2, v3, v4, v5, v6].map fun d => D.str (rv d)) = true := fzL_map _ (fun _ => by simp) _
  have zd2 : fzL ([w0, w1, w2, w3, w4, w5, w6].map fun d => D.str (rv d)) = true := fzL_map _ (fun _ => by simp) _
  have sv : seqI [.lst false [v0, v1, v2, v3, v4, v5, v6]] = some [v0, v1, v2, v3, v4, v5, v6] := by simp only [seqI, zv, if_true]
  have sw : seqI [.lst false [w0, w1, w2, w3, w4, w5, w6]] = some [w0, w1, w2, w3, w4, w5, w6] := by simp only [seqI, zw, if_true]
  have s1 : seqI [.lst false [w0]] = some [w0] := by simp [seqI, fzL, ow0]
  have z1 : fzL [w0] = true := by simp [fzL, ow0]
  have zs1 : fzL [D.str (rv w0)] = true := by simp [fzL]
  have hr7 : rng1 [.int 7] = some (rngD 0 7) := by simp [rng1]
  have hr30 : rng1 [.int 30] = some (rngD 0 30) := by simp [rng1]
  have g1 := fun (E : EnvD) (h8 : E[8]? = some (some (.lst true (errs v0 v1 v2 v3 v4 v5 v6)))) (h10 : 10 < E.length) => all_lc (elt := mCall g__law_is_alone (mArgs [mFrz (mBin ixD (mVarA 8) (mVarA 10)), mVarA 10])) (e := E) 30 (by decide) (fun k hk => by
    obtain ⟨ns', ws', e1, e2⟩ := hea k hk
    exact al_one (c := "") (b := true) (by rw [List.getElem?_set_ne (show (10 : Nat) ≠ 8 by decide)]; exact h8) (by rw [List.getElem?_set_self h10]) hk e1 e2)
  have g2 := fun (E : EnvD) (h8 : E[9]? = some (some (.lst true (wth w0 w1 w2 w3 w4 w5 w6)))) (h10 : 10 < E.length) => all_lc (elt := mCall g__law_is_alone (mArgs [mFrz (mBin ixD (mVarA 9) (mVarA 10)), mFrz (mBin addD (mFrz (mC (.int 23))) (mVarA 10))])) (e := E) 7 (by decide) (fun k hk => by
    obtain ⟨ns', ws', e1, e2⟩ := hwa k hk
    exact al_two (b := true) (by rw [List.getElem?_set_ne (show (10 : Nat) ≠ 9 by decide)]; exact h8) (by rw [List.getElem?_set_self h10]) hk e1 e2)
  have za : ∀ n, fzL ((rngD 0 n).map fun _ => D.bl true) = true := fun n => fzL_map _ (fun _ => by simp) _
  have za7 := za 7
  have za30 := za 30
  have ta7 := all_true 7
  have ta30 := all_true 30
  clear za
  clear hea hwa hee lP lW o1 o2 hb
  generalize ((ord.take 23).map fun c => D.exn c [] []) = P at *
  generalize ([v0, v1, v2, v3, v4, v5, v6].map fun d => D.str (rv d)) = R1 at *
  generalize ([w0, w1, w2, w3, w4, w5, w6].map fun d => D.str (rv d)) = R2 at *
  generalize errs v0 v1 v2 v3 v4 v5 v6 = er at *
  generalize wth v0 v1 v2 v3 v4 v5 v6 = W1 at *
  generalize wth w0 w1 w2 w3 w4 w5 w6 = W2 at *
  generalize [v0, v1, v2, v3, v4, v5, v6] = L1 at *
  generalize [w0, w1, w2, w3, w4, w5, w6] = L2 at *
  generalize rngD 0 7 = r7 at *
  generalize rngD 0 30 = r30 at *
  have hv1 : ∀ env, vE 2 env (some (some (.lst true L1))) = .ok (.lst false L1, env.set 2 (some (.lst false L1))) := fun env => vE_own 2 env zv
  have hv2 : ∀ env, vE 4 env (some (some (.lst true L2))) = .ok (.lst false L2, env.set 4 (some (.lst false L2))) := fun env => vE_own 4 env zw
  have em : m_law [some (.scr ns), none, none, none, none, none, none, none, none, none, none] = .ok (.ret (.bl true), [some (.scr ns), some (dk cells a2 b2 c2), some (.lst false L1), none, some (.lst false L2), some (.lst true R1), none, some (.lst true R2), some (.lst true er), some (.lst true W2), none]) := by
    simp (implicitDefEqProofs := false) [m_law, hd, rV_ok hr7, rV_ok hr30, q1, q2, hv1, hv2, sqV_ok sv, sqV_ok sw, sqV_ok s1, rx, rV, rW, restV, ownVars, putBack, hpl, hw1, hw2, hadd, frz_lstt, g1, g2, za7, za30, ta7, ta30, hcut, zW1, zW2, hf1, hf2, n1, n2, n3, zd1, zd2, hra, hcu, c3, iw, ow0, frzQ_fz, zs1, z1, zv, zw, zP]
  refine ⟨[some (.scr ns)], ?_⟩
  simp (implicitDefEqProofs := false) [g_law, runD, ownOk, outsD, List.range, List.range.loop, em]
end Mi
namespace Mi
open PySem PySem.Spec PyProof.Rows L2
def top (i : Nat) : Stmt := PySem.Challenge.pw_elderalike_k00_errors_and_their_fields.main.body.getD i (.Pass ⟨0, 0, 0, 0⟩)
structure Txt (C : KM) (xBadBook xBadClerk xBadParty xBadText xElderError xNoClaim xNoClock xNoDemand xNoFolk xNoFractions xNoGrade xNoInstance xNoLabels xNoLine xNoName xNoNames xNoNumber xNoNumbers xNoPlace xNoRow xNoRule xNoWeights xNoWish xNoWorld xNotKept xNotRight xNotServed xNothingDone xOtherBook xTooLarge xTooMany : Addr) : Prop where
  n_ValueError : C.mg "ValueError" = none
  n_all : C.mg "all" = none
  n_int : C.mg "int" = none
  n_isinstance : C.mg "isinstance" = none
  n_len : C.mg "len" = none
  n_range : C.mg "range" = none
  n_repr : C.mg "repr" = none
  g_BadBook : C.mg "BadBook" = some (.ref xBadBook)
  g_BadClerk : C.mg "BadClerk" = some (.ref xBadClerk)
  g_BadParty : C.mg "BadParty" = some (.ref xBadParty)
  g_BadText : C.mg "BadText" = some (.ref xBadText)
  g_ElderError : C.mg "ElderError" = some (.ref xElderError)
  e_NoClaim : ExcC C "NoClaim"
  g_NoClaim : C.mg "NoClaim" = some (.ref xNoClaim)
  e_NoClock : ExcC C "NoClock"
  g_NoClock : C.mg "NoClock" = some (.ref xNoClock)
  e_NoDemand : ExcC C "NoDemand"
  g_NoDemand : C.mg "NoDemand" = some (.ref xNoDemand)
  e_NoFolk : ExcC C "NoFolk"
  g_NoFolk : C.mg "NoFolk" = some (.ref xNoFolk)
  e_NoFractions : ExcC C "NoFractions"
  g_NoFractions : C.mg "NoFractions" = some (.ref xNoFractions)
  e_NoGrade : ExcC C "NoGrade"
  g_NoGrade : C.mg "NoGrade" = some (.ref xNoGrade)
  e_NoInstance : ExcC C "NoInstance"
  g_NoInstance : C.mg "NoInstance" = some (.ref xNoInstance)
  e_NoLabels : ExcC C "NoLabels"
  g_NoLabels : C.mg "NoLabels" = some (.ref xNoLabels)
  e_NoLine : ExcC C "NoLine"
  g_NoLine : C.mg "NoLine" = some (.ref xNoLine)
  e_NoName : ExcC C "NoName"
  g_NoName : C.mg "NoName" = some (.ref xNoName)
  e_NoNames : ExcC C "NoNames"
  g_NoNames : C.mg "NoNames" = some (.ref xNoNames)
  e_NoNumber : ExcC C "NoNumber"
  g_NoNumber : C.mg "NoNumber" = some (.ref xNoNumber)
  e_NoNumbers : ExcC C "NoNumbers"
  g_NoNumbers : C.mg "NoNumbers" = some (.ref xNoNumbers)
  e_NoPlace : ExcC C "NoPlace"
  g_NoPlace : C.mg "NoPlace" = some (.ref xNoPlace)
  e_NoRow : ExcC C "NoRow"
  g_NoRow : C.mg "NoRow" = some (.ref xNoRow)
  e_NoRule : ExcC C "NoRule"
  g_NoRule : C.mg "NoRule" = some (.ref xNoRule)
  e_NoWeights : ExcC C "NoWeights"
  g_NoWeights : C.mg "NoWeights" = some (.ref xNoWeights)
  e_NoWish : ExcC C "NoWish"
  g_NoWish : C.mg "NoWish" = some (.ref xNoWish)
  e_NoWorld : ExcC C "NoWorld"
  g_NoWorld : C.mg "NoWorld" = some (.ref xNoWorld)
  g_NotKept : C.mg "NotKept" = some (.ref xNotKept)
  e_NotRight : ExcC C "NotRight"
  g_NotRight : C.mg "NotRight" = some (.ref xNotRight)
  e_NotServed : ExcC C "NotServed"
  g_NotServed : C.mg "NotServed" = some (.ref xNotServed)
  e_NothingDone : ExcC C "NothingDone"
  g_NothingDone : C.mg "NothingDone" = some (.ref xNothingDone)
  e_OtherBook : ExcC C "OtherBook"
  g_OtherBook : C.mg "OtherBook" = some (.ref xOtherBook)
  g_TooLarge : C.mg "TooLarge" = some (.ref xTooLarge)
  g_TooMany : C.mg "TooMany" = some (.ref xTooMany)
  y_BadBook : ∀ n ∈ yes_BadBook, ∀ u, C.mg n = some u → PySem.W.exmOne C.K u (.ref xBadBook) = some true
  o_BadBook : ∀ n ∈ no_BadBook, ∀ u, C.mg n = some u → PySem.W.exmOne C.K u (.ref xBadBook) = some false
  y_ElderError : ∀ n ∈ yes_ElderError, ∀ u, C.mg n = some u → PySem.W.exmOne C.K u (.ref xElderError) = some true
  o_ElderError : ∀ n ∈ no_ElderError, ∀ u, C.mg n = some u → PySem.W.exmOne C.K u (.ref xElderError) = some false
  u_BadBook : Sup1 C 1 "BadBook" "part"
  u_BadClerk : Sup1 C 1 "BadClerk" "part"
  u_BadParty : Sup1 C 1 "BadParty" "part"
  u_BadText : Sup1 C 1 "BadText" "line"
  u_NotKept : Sup1 C 1 "NotKept" "label"
  u_TooLarge : Sup1 C 1 "TooLarge" "most"
  u_TooMany : Sup1 C 1 "TooMany" "most"
  x_BadBook : IsX C exl false "BadBook" (.ref xBadBook)
  x_BadClerk : IsX C exl false "BadClerk" (.ref xBadClerk)
  x_BadParty : IsX C exl false "BadParty" (.ref xBadParty)
  x_BadText : IsX C exl false "BadText" (.ref xBadText)
  x_ElderError : IsX C exl true "ElderError" (.ref xElderError)
  x_NoClaim : IsX C exl false "NoClaim" (.ref xNoClaim)
  x_NoClock : IsX C exl false "NoClock" (.ref xNoClock)
  x_NoDemand : IsX C exl false "NoDemand" (.ref xNoDemand)
  x_NoFolk : IsX C exl false "NoFolk" (.ref xNoFolk)
  x_NoFractions : IsX C exl false "NoFractions" (.ref xNoFractions)
  x_NoGrade : IsX C exl false "NoGrade" (.ref xNoGrade)
  x_NoInstance : IsX C exl false "NoInstance" (.ref xNoInstance)
  x_NoLabels : IsX C exl false "NoLabels" (.ref xNoLabels)
  x_NoLine : IsX C exl false "NoLine" (.ref xNoLine)
  x_NoName : IsX C exl false "NoName" (.ref xNoName)
  x_NoNames : IsX C exl false "NoNames" (.ref xNoNames)
  x_NoNumber : IsX C exl false "NoNumber" (.ref xNoNumber)
  x_NoNumbers : IsX C exl false "NoNumbers" (.ref xNoNumbers)
  x_NoPlace : IsX C exl false "NoPlace" (.ref xNoPlace)
  x_NoRow : IsX C exl false "NoRow" (.ref xNoRow)
  x_NoRule : IsX C exl false "NoRule" (.ref xNoRule)
  x_NoWeights : IsX C exl false "NoWeights" (.ref xNoWeights)
  x_NoWish : IsX C exl false "NoWish" (.ref xNoWish)
  x_NoWorld : IsX C exl false "NoWorld" (.ref xNoWorld)
  x_NotKept : IsX C exl false "NotKept" (.ref xNotKept)
  x_NotRight : IsX C exl false "NotRight" (.ref xNotRight)
  x_NotServed : IsX C exl false "NotServed" (.ref xNotServed)
  x_NothingDone : IsX C exl false "NothingDone" (.ref xNothingDone)
  x_OtherBook : IsX C exl false "OtherBook" (.ref xOtherBook)
  x_TooLarge : IsX C exl false "TooLarge" (.ref xTooLarge)
  x_TooMany : IsX C exl false "TooMany" (.ref xTooMany)
  x_ValueError : IsX C exl true "ValueError" (.type "ValueError")
  p_label : ∀ c ∈ xs_label, XfOk C c "label"
  p_line : ∀ c ∈ xs_line, XfOk C c "line"
  p_most : ∀ c ∈ xs_most, XfOk C c "most"
  p_part : ∀ c ∈ xs_part, XfOk C c "part"
theorem sc__law_deck : FnScope ["_law_script", "_law_cell"] ["_law_script"] (defScope (top 33)) := ⟨rfl, rfl, rfl, by decide +kernel, rfl, by decide +kernel, by decide +kernel⟩
theorem b__law_deck {C : KM} {xBadBook xBadClerk xBadParty xBadText xElderError xNoClaim xNoClock xNoDemand xNoFolk xNoFractions xNoGrade xNoInstance xNoLabels xNoLine xNoName xNoNames xNoNumber xNoNumbers xNoPlace xNoRow xNoRule xNoWeights xNoWish xNoWorld xNotKept xNotRight xNotServed xNothingDone xOtherBook xTooLarge xTooMany : Addr} (T : Txt C xBadBook xBadClerk xBadParty xBadText xElderError xNoClaim xNoClock xNoDemand xNoFolk xNoFractions xNoGrade xNoInstance xNoLabels xNoLine xNoName xNoNames xNoNumber xNoNumbers xNoPlace xNoRow xNoRule xNoWeights xNoWish xNoWorld xNotKept xNotRight xNotServed xNothingDone xOtherBook xTooLarge xTooMany)  (base : Heap) (f : Addr) (cdv : Value) (A : Around) (outer : List Env) (s : Shared) (H : Hp) (E : XK) (vs : List V) (W : WX) (g : Go (CxD C base ["_law_script", "_law_cell"] "_law_deck" (defScope (top 33)) f cdv A outer s H E) ⟨C, vs, [0]⟩ W 0) : PSs (CxD C base ["_law_script", "_law_cell"] "_law_deck" (defScope (top 33)) f cdv A outer s H E) (defBody (top 33)) (tS ⟨C, vs, [0]⟩ W m__law_deck) :=
  (rs_one (rs_ret (r_lst (r_cons (r_frz (r_lc g [("_law_cell", 1)] (.nm 1) (show (1 : Nat) ∉ [0] by decide) (show ∀ i ∈ [0], i ∉ [1] by decide) (show (1 : Nat) ∈ [1] by decide) (ri_val g.toSt0 (r_frz (r_sl g.toSt0 (r_varA 0 rfl (by first | exact .inl rfl | exact .inr (.inl rfl) | exact .inr (.inr rfl))) r_noP (r_part r_int)))) (blkOk_by (N := ["_law_script", "_law_cell"]) (sc := defScope (top 33)) (by decide +kernel)) (fun _ _ _ _ _ => (rg_nm (g.blk ..).toSt0 1 rfl (by first | exact .inl rfl | exact .inr rfl))) (fun _ _ _ _ _ g => rts_nil) (fun _ _ _ _ _ g => (r_cty g.toSt0 (call_intD) T.n_int (by rfl) rfl (r_cons (r_varA 1 rfl (by first | exact .inl rfl | exact .inr (.inl rfl) | exact .inr (.inr rfl))) r_nil))))) (r_cons (r_frz r_int) (r_cons (r_frz r_int) (r_cons (r_frz r_int) r_nil)))))))
theorem sc__law_with : FnScope ["_law_values"] ["_law_values"] (defScope (top 38)) := ⟨rfl, rfl, rfl, by decide +kernel, rfl, by decide +kernel, by decide +kernel⟩
theorem b__law_with {C : KM} {xBadBook xBadClerk xBadParty xBadText xElderError xNoClaim xNoClock xNoDemand xNoFolk xNoFractions xNoGrade xNoInstance xNoLabels xNoLine xNoName xNoNames xNoNumber xNoNumbers xNoPlace xNoRow xNoRule xNoWeights xNoWish xNoWorld xNotKept xNotRight xNotServed xNothingDone xOtherBook xTooLarge xTooMany : Addr} (T : Txt C xBadBook xBadClerk xBadParty xBadText xElderError xNoClaim xNoClock xNoDemand xNoFolk xNoFractions xNoGrade xNoInstance xNoLabels xNoLine xNoName xNoNames xNoNumber xNoNumbers xNoPlace xNoRow xNoRule xNoWeights xNoWish xNoWorld xNotKept xNotRight xNotServed xNothingDone xOtherBook xTooLarge xTooMany)  (base : Heap) (f : Addr) (cdv : Value) (A : Around) (outer : List Env) (s : Shared) (H : Hp) (E : XK) (vs : List V) (W : WX) (g : Go (CxD C base ["_law_values"] "_law_with" (defScope (top 38)) f cdv A outer s H E) ⟨C, vs, [0]⟩ W 2) : PSs (CxD C base ["_law_values"] "_law_with" (defScope (top 38)) f cdv A outer s H E) (defBody (top 38)) (tS ⟨C, vs, [0]⟩ W m__law_with) :=
  (rs_one (rs_ret (r_lst (r_cons (r_frz (r_exn1 g T.u_BadBook (by decide) rfl (r_frz (r_ix g.toSt0 (r_varA 0 rfl (by first | exact .inl rfl | exact .inr (.inl rfl) | exact .inr (.inr rfl))) (r_frz r_int))))) (r_cons (r_frz (r_exn1 g T.u_BadParty (by decide) rfl (r_frz (r_ix g.toSt0 (r_varA 0 rfl (by first | exact .inl rfl | exact .inr (.inl rfl) | exact .inr (.inr rfl))) (r_frz r_int))))) (r_cons (r_frz (r_exn1 g T.u_BadClerk (by decide) rfl (r_frz (r_ix g.toSt0 (r_varA 0 rfl (by first | exact .inl rfl | exact .inr (.inl rfl) | exact .inr (.inr rfl))) (r_frz r_int))))) (r_cons (r_frz (r_exn1 g T.u_TooLarge (by decide) rfl (r_frz (r_ix g.toSt0 (r_varA 0 rfl (by first | exact .inl rfl | exact .inr (.inl rfl) | exact .inr (.inr rfl))) (r_frz r_int))))) (r_cons (r_frz (r_exn1 g T.u_TooMany (by decide) rfl (r_frz (r_ix g.toSt0 (r_varA 0 rfl (by first | exact .inl rfl | exact .inr (.inl rfl) | exact .inr (.inr rfl))) (r_frz r_int))))) (r_cons (r_frz (r_exn1 g T.u_BadText (by decide) rfl (r_frz (r_ix g.toSt0 (r_varA 0 rfl (by first | exact .inl rfl | exact .inr (.inl rfl) | exact .inr (.inr rfl))) (r_frz r_int))))) (r_cons (r_frz (r_exn1 g T.u_NotKept (by decide) rfl (r_frz (r_ix g.toSt0 (r_varA 0 rfl (by first | exact .inl rfl | exact .inr (.inl rfl) | exact .inr (.inr rfl))) (r_frz r_int))))) r_nil))))))))))
theorem sc__law_is_caught : FnScope ["_law_is_met"] ([] : List Str) (defScope (top 43)) := ⟨rfl, rfl, rfl, by decide +kernel, rfl, by decide +kernel, by decide +kernel⟩
theorem b__law_is_caught {C : KM} {xBadBook xBadClerk xBadParty xBadText xElderError xNoClaim xNoClock xNoDemand xNoFolk xNoFractions xNoGrade xNoInstance xNoLabels xNoLine xNoName xNoNames xNoNumber xNoNumbers xNoPlace xNoRow xNoRule xNoWeights xNoWish xNoWorld xNotKept xNotRight xNotServed xNothingDone xOtherBook xTooLarge xTooMany : Addr} (T : Txt C xBadBook xBadClerk xBadParty xBadText xElderError xNoClaim xNoClock xNoDemand xNoFolk xNoFractions xNoGrade xNoInstance xNoLabels xNoLine xNoName xNoNames xNoNumber xNoNumbers xNoPlace xNoRow xNoRule xNoWeights xNoWish xNoWorld xNotKept xNotRight xNotServed xNothingDone xOtherBook xTooLarge xTooMany)  (base : Heap) (f : Addr) (cdv : Value) (A : Around) (outer : List Env) (s : Shared) (H : Hp) (E : XK) (vs : List V) (W : WX) (g : Go (CxD C base ["_law_is_met"] "_law_is_caught" (defScope (top 43)) f cdv A outer s H E) ⟨C, vs, ([] : List Nat)⟩ W 0) : PSs (CxD C base ["_law_is_met"] "_law_is_caught" (defScope (top 43)) f cdv A outer s H E) (defBody (top 43)) (tS ⟨C, vs, ([] : List Nat)⟩ W m__law_is_caught) :=
  (rs_cons (rs_set g.toSt0 0 (show (0 : Nat) ∉ ([] : List Nat) by decide) rfl (by first | exact .inl rfl | exact .inr rfl) r_bl)
  (rs_cons (rs_try (x := "ElderError") (c := .ref xElderError) g rfl rfl ⟨rfl, by decide, .inl T.g_ElderError⟩ yes_ElderError no_ElderError T.y_ElderError T.o_ElderError (fun _ _ _ g => (rs_one (rs_raise0 g T.e_NoFolk rfl))) (fun _ _ q => (rs_one (rs_set q 0 (show (0 : Nat) ∉ ([] : List Nat) by decide) rfl (by first | exact .inl rfl | exact .inr rfl) r_bl))))
  (rs_one (rs_ret (r_varM 0 0 rfl (by first | exact .inl rfl | exact .inr (.inl rfl) | exact .inr (.inr rfl)))))))
theorem sc__law_pick : FnScope ["_law_deck_here", "_law_many", "_law_found", "_law_cells", "_law_cell", "_law_number"] ["_law_deck_here", "_law_many"] (defScope (top 34)) := ⟨rfl, rfl, rfl, by decide +kernel, rfl, by decide +kernel, by decide +kernel⟩
theorem b__law_pick {C : KM} {xBadBook xBadClerk xBadParty xBadText xElderError xNoClaim xNoClock xNoDemand xNoFolk xNoFractions xNoGrade xNoInstance xNoLabels xNoLine xNoName xNoNames xNoNumber xNoNumbers xNoPlace xNoRow xNoRule xNoWeights xNoWish xNoWorld xNotKept xNotRight xNotServed xNothingDone xOtherBook xTooLarge xTooMany : Addr} (T : Txt C xBadBook xBadClerk xBadParty xBadText xElderError xNoClaim xNoClock xNoDemand xNoFolk xNoFractions xNoGrade xNoInstance xNoLabels xNoLine xNoName xNoNames xNoNumber xNoNumbers xNoPlace xNoRow xNoRule xNoWeights xNoWish xNoWorld xNotKept xNotRight xNotServed xNothingDone xOtherBook xTooLarge xTooMany)  (base : Heap) (f : Addr) (cdv : Value) (A : Around) (outer : List Env) (s : Shared) (H : Hp) (E : XK) (vs : List V) (W : WX) (g : Go (CxD C base ["_law_deck_here", "_law_many", "_law_found", "_law_cells", "_law_cell", "_law_number"] "_law_pick" (defScope (top 34)) f cdv A outer s H E) ⟨C, vs, [0, 1]⟩ W 0) : PSs (CxD C base ["_law_deck_here", "_law_many", "_law_found", "_law_cells", "_law_cell", "_law_number"] "_law_pick" (defScope (top 34)) f cdv A outer s H E) (defBody (top 34)) (tS ⟨C, vs, [0, 1]⟩ W m__law_pick) :=
  (rs_cons (rs_putX g.toSt0 0 rfl (by first | exact .inl rfl | exact .inr (.inl rfl) | exact .inr (.inr rfl)) r_int (r_bin g.toSt0 rfl (r_frz (r_ix g.toSt0 (r_varA 0 rfl (by first | exact .inl rfl | exact .inr (.inl rfl) | exact .inr (.inr rfl))) (r_frz r_int))) (r_frz r_int)))
  (rs_cons (rs_if (rt_cmp g.toSt0 rfl (r_frz (r_ix g.toSt0 (r_varA 0 rfl (by first | exact .inl rfl | exact .inr (.inl rfl) | exact .inr (.inr rfl))) (r_frz r_int))) (r_frz r_int)) (rs_cons (rs_set g.toSt0 2 (show (2 : Nat) ∉ [0, 1] by decide) rfl (by first | exact .inl rfl | exact .inr rfl) (r_bin g.toSt0 rfl (r_frz (r_cty g.toSt0 (call_intD) T.n_int (by rfl) rfl (r_cons (r_frz (r_ix g.toSt0 (r_varA 0 rfl (by first | exact .inl rfl | exact .inr (.inl rfl) | exact .inr (.inr rfl))) (r_frz r_int))) r_nil))) (r_varA 1 rfl (by first | exact .inl rfl | exact .inr (.inl rfl) | exact .inr (.inr rfl)))))
  (rs_cons (rs_putX g.toSt0 0 rfl (by first | exact .inl rfl | exact .inr (.inl rfl) | exact .inr (.inr rfl)) r_int (r_bin g.toSt0 rfl (r_frz (r_cty g.toSt0 (call_intD) T.n_int (by rfl) rfl (r_cons (r_frz (r_ix g.toSt0 (r_varA 0 rfl (by first | exact .inl rfl | exact .inr (.inl rfl) | exact .inr (.inr rfl))) (r_frz r_int))) r_nil))) (r_varA 1 rfl (by first | exact .inl rfl | exact .inr (.inl rfl) | exact .inr (.inr rfl)))))
  (rs_one (rs_ret (r_varM 2 2 rfl (by first | exact .inl rfl | exact .inr (.inl rfl) | exact .inr (.inr rfl))))))) rs_nil)
  (rs_cons (rs_set g.toSt0 3 (show (3 : Nat) ∉ [0, 1] by decide) rfl (by first | exact .inl rfl | exact .inr rfl) (r_ix g.toSt0 (r_varA 0 rfl (by first | exact .inl rfl | exact .inr (.inl rfl) | exact .inr (.inr rfl))) (r_frz r_int)))
  (rs_cons (rs_set g.toSt0 4 (show (4 : Nat) ∉ [0, 1] by decide) rfl (by first | exact .inl rfl | exact .inr rfl) r_int)
  (rs_cons (rs_if (rt_cmp g.toSt0 rfl (r_frz (r_cb g.toSt0 (call_lenDD g.k.symm) T.n_len (by rfl) rfl (r_cons (r_varA 3 rfl (by first | exact .inl rfl | exact .inr (.inl rfl) | exact .inr (.inr rfl))) r_nil))) (r_frz r_int)) (rs_one (rs_set g.toSt0 4 (show (4 : Nat) ∉ [0, 1] by decide) rfl (by first | exact .inl rfl | exact .inr rfl) (r_ix g.toSt0 (r_varA 3 rfl (by first | exact .inl rfl | exact .inr (.inl rfl) | exact .inr (.inr rfl))) (r_frz (r_bin g.toSt0 rfl (r_frz (r_cty g.toSt0 (call_intD) T.n_int (by rfl) rfl (r_cons (r_frz (r_ix g.toSt0 (r_varA 0 rfl (by first | exact .inl rfl | exact .inr (.inl rfl) | exact .inr (.inr rfl))) (r_frz r_int))) r_nil))) (r_frz (r_cb g.toSt0 (call_lenDD g.k.symm) T.n_len (by rfl) rfl (r_cons (r_varA 3 rfl (by first | exact .inl rfl | exact .inr (.inl rfl) | exact .inr (.inr rfl))) r_nil)))))))) rs_nil)
  (rs_cons (rs_putX g.toSt0 0 rfl (by first | exact .inl rfl | exact .inr (.inl rfl) | exact .inr (.inr rfl)) r_int (r_bin g.toSt0 rfl (r_frz (r_ix g.toSt0 (r_varA 0 rfl (by first | exact .inl rfl | exact .inr (.inl rfl) | exact .inr (.inr rfl))) (r_frz r_int))) (r_frz r_int)))
  (rs_cons (rs_if (PW.pt (rt_and (rt_cmp g.toSt0 rfl (r_varA 4 rfl (by first | exact .inl rfl | exact .inr (.inl rfl) | exact .inr (.inr rfl))) (r_frz (r_bin g.toSt0 rfl (r_frz r_int) (r_frz r_int)))) (rt_and1 (rt_cmp g.toSt0 rfl (r_frz (r_ix g.toSt0 (r_varA 0 rfl (by first | exact .inl rfl | exact .inr (.inl rfl) | exact .inr (.inr rfl))) (r_frz r_int))) (r_frz (r_cb g.toSt0 (call_lenDD g.k.symm) T.n_len (by rfl) rfl (r_cons (r_varA 3 rfl (by first | exact .inl rfl | exact .inr (.inl rfl) | exact .inr (.inr rfl))) r_nil))))))) (rs_cons (rs_putX g.toSt0 0 rfl (by first | exact .inl rfl | exact .inr (.inl rfl) | exact .inr (.inr rfl)) r_int (r_bin g.toSt0 rfl (r_frz (r_cty g.toSt0 (call_intD) T.n_int (by rfl) rfl (r_cons (r_varA 4 rfl (by first | exact .inl rfl | exact .inr (.inl rfl) | exact .inr (.inr rfl))) r_nil))) (r_varA 1 rfl (by first | exact .inl rfl | exact .inr (.inl rfl) | exact .inr (.inr rfl)))))
  (rs_one (rs_ret (r_bin g.toSt0 rfl (r_frz (r_cty g.toSt0 (call_intD) T.n_int (by rfl) rfl (r_cons (r_varA 4 rfl (by first | exact .inl rfl | exact .inr (.inl rfl) | exact .inr (.inr rfl))) r_nil))) (r_varA 1 rfl (by first | exact .inl rfl | exact .inr (.inl rfl) | exact .inr (.inr rfl))))))) rs_nil)
  (rs_cons (rs_set g.toSt0 5 (show (5 : Nat) ∉ [0, 1] by decide) rfl (by first | exact .inl rfl | exact .inr rfl) (r_bin g.toSt0 rfl (r_frz (r_bin g.toSt0 rfl (r_frz (r_cty g.toSt0 (call_intD) T.n_int (by rfl) rfl (r_cons (r_frz (r_bin g.toSt0 rfl (r_frz (r_bin g.toSt0 rfl (r_varA 4 rfl (by first | exact .inl rfl | exact .inr (.inl rfl) | exact .inr (.inr rfl))) (r_frz (r_bin g.toSt0 rfl (r_frz r_int) (r_frz (r_ix g.toSt0 (r_varA 0 rfl (by first | exact .inl rfl | exact .inr (.inl rfl) | exact .inr (.inr rfl))) (r_frz r_int))))))) (r_frz r_int))) r_nil))) (r_frz r_int))) (r_frz r_int)))
  (rs_cons (rs_set g.toSt0 5 (show (5 : Nat) ∉ [0, 1] by decide) rfl (by first | exact .inl rfl | exact .inr rfl) (r_bin g.toSt0 rfl (r_frz (r_bin g.toSt0 rfl (r_varA 5 rfl (by first | exact .inl rfl | exact .inr (.inl rfl) | exact .inr (.inr rfl))) (r_frz (r_bin g.toSt0 rfl (r_frz (r_bin g.toSt0 rfl (r_varA 5 rfl (by first | exact .inl rfl | exact .inr (.inl rfl) | exact .inr (.inr rfl))) (r_frz r_int))) (r_frz r_int))))) (r_frz r_int)))
  (rs_cons (rs_set g.toSt0 5 (show (5 : Nat) ∉ [0, 1] by decide) rfl (by first | exact .inl rfl | exact .inr rfl) (r_bin g.toSt0 rfl (r_frz (r_bin g.toSt0 rfl (r_varA 5 rfl (by first | exact .inl rfl | exact .inr (.inl rfl) | exact .inr (.inr rfl))) (r_frz (r_bin g.toSt0 rfl (r_frz (r_bin g.toSt0 rfl (r_varA 5 rfl (by first | exact .inl rfl | exact .inr (.inl rfl) | exact .inr (.inr rfl))) (r_frz r_int))) (r_frz r_int))))) (r_frz r_int)))
  (rs_one (rs_ret (r_bin g.toSt0 rfl (r_varA 5 rfl (by first | exact .inl rfl | exact .inr (.inl rfl) | exact .inr (.inr rfl))) (r_varA 1 rfl (by first | exact .inl rfl | exact .inr (.inl rfl) | exact .inr (.inr rfl))))))))))))))))
theorem sc__law_long : FnScope ["_law_deck_here", "_law_number", "_law_part"] ["_law_deck_here"] (defScope (top 35)) := ⟨rfl, rfl, rfl, by decide +kernel, rfl, by decide +kernel, by decide +kernel⟩
theorem b__law_long {C : KM} {xBadBook xBadClerk xBadParty xBadText xElderError xNoClaim xNoClock xNoDemand xNoFolk xNoFractions xNoGrade xNoInstance xNoLabels xNoLine xNoName xNoNames xNoNumber xNoNumbers xNoPlace xNoRow xNoRule xNoWeights xNoWish xNoWorld xNotKept xNotRight xNotServed xNothingDone xOtherBook xTooLarge xTooMany : Addr} (T : Txt C xBadBook xBadClerk xBadParty xBadText xElderError xNoClaim xNoClock xNoDemand xNoFolk xNoFractions xNoGrade xNoInstance xNoLabels xNoLine xNoName xNoNames xNoNumber xNoNumbers xNoPlace xNoRow xNoRule xNoWeights xNoWish xNoWorld xNotKept xNotRight xNotServed xNothingDone xOtherBook xTooLarge xTooMany) (F__law_pick : Fn C 1 "_law_pick" g__law_pick) (base : Heap) (f : Addr) (cdv : Value) (A : Around) (outer : List Env) (s : Shared) (H : Hp) (E : XK) (vs : List V) (W : WX) (g : Go (CxD C base ["_law_deck_here", "_law_number", "_law_part"] "_law_long" (defScope (top 35)) f cdv A outer s H E) ⟨C, vs, [0]⟩ W 1) : PSs (CxD C base ["_law_deck_here", "_law_number", "_law_part"] "_law_long" (defScope (top 35)) f cdv A outer s H E) (defBody (top 35)) (tS ⟨C, vs, [0]⟩ W m__law_long) :=
  (rs_cons (rs_set g.toSt0 1 (show (1 : Nat) ∉ [0] by decide) rfl (by first | exact .inl rfl | exact .inr rfl) r_int)
  (rs_cons (rs_for g (.nm 2) (show (2 : Nat) ∉ [0] by decide) (ri_rng1 g.toSt0 T.n_range rfl (r_cons (r_frz r_int) r_nil)) (rg_nm g.toSt0 2 rfl (by first | exact .inl rfl | exact .inr rfl)) (rs_one (rs_set g.toSt0 1 (show (1 : Nat) ∉ [0] by decide) rfl (by first | exact .inl rfl | exact .inr rfl) (r_bin g.toSt0 rfl (r_frz (r_bin g.toSt0 rfl (r_varA 1 rfl (by first | exact .inl rfl | exact .inr (.inl rfl) | exact .inr (.inr rfl))) (r_frz (r_bin g.toSt0 rfl (r_frz r_int) (r_frz r_int))))) (r_frz (r_call g F__law_pick (by decide) rfl (r_cons (r_varA 0 rfl (by first | exact .inl rfl | exact .inr (.inl rfl) | exact .inr (.inr rfl))) (r_cons (r_frz (r_bin g.toSt0 rfl (r_frz r_int) (r_frz r_int))) r_nil))))))))
  (rs_one (rs_ret (r_varM 1 1 rfl (by first | exact .inl rfl | exact .inr (.inl rfl) | exact .inr (.inr rfl)))))))
theorem sc__law_value : FnScope ["_law_deck_here", "_law_sort", "_law_turn"] ["_law_deck_here"] (defScope (top 36)) := ⟨rfl, rfl, rfl, by decide +kernel, rfl, by decide +kernel, by decide +kernel⟩
theorem b__law_value {C : KM} {xBadBook xBadClerk xBadParty xBadText xElderError xNoClaim xNoClock xNoDemand xNoFolk xNoFractions xNoGrade xNoInstance xNoLabels xNoLine xNoName xNoNames xNoNumber xNoNumbers xNoPlace xNoRow xNoRule xNoWeights xNoWish xNoWorld xNotKept xNotRight xNotServed xNothingDone xOtherBook xTooLarge xTooMany : Addr} (T : Txt C xBadBook xBadClerk xBadParty xBadText xElderError xNoClaim xNoClock xNoDemand xNoFolk xNoFractions xNoGrade xNoInstance xNoLabels xNoLine xNoName xNoNames xNoNumber xNoNumbers xNoPlace xNoRow xNoRule xNoWeights xNoWish xNoWorld xNotKept xNotRight xNotServed xNothingDone xOtherBook xTooLarge xTooMany) (F__law_pick : Fn C 1 "_law_pick" g__law_pick) (F__law_long : Fn C 2 "_law_long" g__law_long) (base : Heap) (f : Addr) (cdv : Value) (A : Around) (outer : List Env) (s : Shared) (H : Hp) (E : XK) (vs : List V) (W : WX) (g : Go (CxD C base ["_law_deck_here", "_law_sort", "_law_turn"] "_law_value" (defScope (top 36)) f cdv A outer s H E) ⟨C, vs, [0]⟩ W 2) : PSs (CxD C base ["_law_deck_here", "_law_sort", "_law_turn"] "_law_value" (defScope (top 36)) f cdv A outer s H E) (defBody (top 36)) (tS ⟨C, vs, [0]⟩ W m__law_value) :=
  (rs_cons (rs_set g.toSt0 1 (show (1 : Nat) ∉ [0] by decide) rfl (by first | exact .inl rfl | exact .inr rfl) (r_call g F__law_pick (by decide) rfl (r_cons (r_varA 0 rfl (by first | exact .inl rfl | exact .inr (.inl rfl) | exact .inr (.inr rfl))) (r_cons (r_frz r_int) r_nil))))
  (rs_cons (rs_if (rt_cmp g.toSt0 rfl (r_varA 1 rfl (by first | exact .inl rfl | exact .inr (.inl rfl) | exact .inr (.inr rfl))) (r_frz r_int)) (rs_one (rs_ret (r_bin g.toSt0 rfl (r_frz (r_call g F__law_pick (by decide) rfl (r_cons (r_varA 0 rfl (by first | exact .inl rfl | exact .inr (.inl rfl) | exact .inr (.inr rfl))) (r_cons (r_frz r_int) r_nil)))) (r_frz r_int)))) rs_nil)
  (rs_cons (rs_if (rt_cmp g.toSt0 rfl (r_varA 1 rfl (by first | exact .inl rfl | exact .inr (.inl rfl) | exact .inr (.inr rfl))) (r_frz r_int)) (rs_one (rs_ret (r_bin g.toSt0 rfl (r_frz (r_call g F__law_long (by decide) rfl (r_cons (r_varA 0 rfl (by first | exact .inl rfl | exact .inr (.inl rfl) | exact .inr (.inr rfl))) r_nil))) (r_frz (r_bin g.toSt0 rfl (r_frz r_int) (r_frz (r_bin g.toSt0 rfl (r_frz r_int) (r_frz (r_call g F__law_pick (by decide) rfl (r_cons (r_varA 0 rfl (by first | exact .inl rfl | exact .inr (.inl rfl) | exact .inr (.inr rfl))) (r_cons (r_frz r_int) r_nil))))))))))) rs_nil)
  (rs_cons (rs_if (rt_cmp g.toSt0 rfl (r_varA 1 rfl (by first | exact .inl rfl | exact .inr (.inl rfl) | exact .inr (.inr rfl))) (r_frz r_int)) (rs_one (rs_ret (r_join g.toSt0 (r_frz (r_lc g [("_law_turn", 2)] (.nm 2) (show (2 : Nat) ∉ [0] by decide) (show ∀ i ∈ [0], i ∉ [2] by decide) (show (2 : Nat) ∈ [2] by decide) (ri_rng1 g.toSt0 T.n_range rfl (r_cons (r_frz (r_call g F__law_pick (by decide) rfl (r_cons (r_varA 0 rfl (by first | exact .inl rfl | exact .inr (.inl rfl) | exact .inr (.inr rfl))) (r_cons (r_frz r_int) r_nil)))) r_nil)) (blkOk_by (N := ["_law_deck_here", "_law_sort", "_law_turn"]) (sc := defScope (top 36)) (by decide +kernel)) (fun _ _ _ _ _ => (rg_nm (g.blk ..).toSt0 2 rfl (by first | exact .inl rfl | exact .inr rfl))) (fun _ _ _ _ _ g => rts_nil) (fun _ _ _ _ _ g => (r_ix g.toSt0 (r_frz r_str) (r_frz (r_call g F__law_pick (by decide) rfl (r_cons (r_varA 0 rfl (by first | exact .inl rfl | exact .inr (.inl rfl) | exact .inr (.inr rfl))) (r_cons (r_frz r_int) r_nil))))))))))) rs_nil)
  (rs_cons (rs_if (rt_cmp g.toSt0 rfl (r_varA 1 rfl (by first | exact .inl rfl | exact .inr (.inl rfl) | exact .inr (.inr rfl))) (r_frz r_int)) (rs_one (rs_ret (r_tup (r_cons (r_frz (r_call g F__law_pick (by decide) rfl (r_cons (r_varA 0 rfl (by first | exact .inl rfl | exact .inr (.inl rfl) | exact .inr (.inr rfl))) (r_cons (r_frz r_int) r_nil)))) (r_cons (r_frz r_str) (r_cons (r_frz (r_call g F__law_pick (by decide) rfl (r_cons (r_varA 0 rfl (by first | exact .inl rfl | exact .inr (.inl rfl) | exact .inr (.inr rfl))) (r_cons (r_frz r_int) r_nil)))) r_nil)))))) rs_nil)
  (rs_cons (rs_if (rt_cmp g.toSt0 rfl (r_varA 1 rfl (by first | exact .inl rfl | exact .inr (.inl rfl) | exact .inr (.inr rfl))) (r_frz r_int)) (rs_one (rs_ret (r_lst (r_cons (r_frz (r_call g F__law_pick (by decide) rfl (r_cons (r_varA 0 rfl (by first | exact .inl rfl | exact .inr (.inl rfl) | exact .inr (.inr rfl))) (r_cons (r_frz r_int) r_nil)))) r_nil)))) rs_nil)
  (rs_one (rs_ret r_non))))))))
theorem sc__law_plain : FnScope ([] : List Str) ([] : List Str) (defScope (top 37)) := ⟨rfl, rfl, rfl, by decide +kernel, rfl, by decide +kernel, by decide +kernel⟩
theorem b__law_plain {C : KM} {xBadBook xBadClerk xBadParty xBadText xElderError xNoClaim xNoClock xNoDemand xNoFolk xNoFractions xNoGrade xNoInstance xNoLabels xNoLine xNoName xNoNames xNoNumber xNoNumbers xNoPlace xNoRow xNoRule xNoWeights xNoWish xNoWorld xNotKept xNotRight xNotServed xNothingDone xOtherBook xTooLarge xTooMany : Addr} (T : Txt C xBadBook xBadClerk xBadParty xBadText xElderError xNoClaim xNoClock xNoDemand xNoFolk xNoFractions xNoGrade xNoInstance xNoLabels xNoLine xNoName xNoNames xNoNumber xNoNumbers xNoPlace xNoRow xNoRule xNoWeights xNoWish xNoWorld xNotKept xNotRight xNotServed xNothingDone xOtherBook xTooLarge xTooMany)  (base : Heap) (f : Addr) (cdv : Value) (A : Around) (outer : List Env) (s : Shared) (H : Hp) (E : XK) (vs : List V) (W : WX) (g : Go (CxD C base ([] : List Str) "_law_plain" (defScope (top 37)) f cdv A outer s H E) ⟨C, vs, ([] : List Nat)⟩ W 0) : PSs (CxD C base ([] : List Str) "_law_plain" (defScope (top 37)) f cdv A outer s H E) (defBody (top 37)) (tS ⟨C, vs, ([] : List Nat)⟩ W m__law_plain) :=
  (rs_one (rs_ret (r_lst (r_cons (r_frz (r_exn0 g.toSt0 T.e_NoWorld rfl)) (r_cons (r_frz (r_exn0 g.toSt0 T.e_NoNumber rfl)) (r_cons (r_frz (r_exn0 g.toSt0 T.e_NoDemand rfl)) (r_cons (r_frz (r_exn0 g.toSt0 T.e_NoFolk rfl)) (r_cons (r_frz (r_exn0 g.toSt0 T.e_NoInstance rfl)) (r_cons (r_frz (r_exn0 g.toSt0 T.e_NoClock rfl)) (r_cons (r_frz (r_exn0 g.toSt0 T.e_NoPlace rfl)) (r_cons (r_frz (r_exn0 g.toSt0 T.e_NoRule rfl)) (r_cons (r_frz (r_exn0 g.toSt0 T.e_NoGrade rfl)) (r_cons (r_frz (r_exn0 g.toSt0 T.e_NotServed rfl)) (r_cons (r_frz (r_exn0 g.toSt0 T.e_NoClaim rfl)) (r_cons (r_frz (r_exn0 g.toSt0 T.e_NoRow rfl)) (r_cons (r_frz (r_exn0 g.toSt0 T.e_NotRight rfl)) (r_cons (r_frz (r_exn0 g.toSt0 T.e_NoName rfl)) (r_cons (r_frz (r_exn0 g.toSt0 T.e_NothingDone rfl)) (r_cons (r_frz (r_exn0 g.toSt0 T.e_NoLine rfl)) (r_cons (r_frz (r_exn0 g.toSt0 T.e_OtherBook rfl)) (r_cons (r_frz (r_exn0 g.toSt0 T.e_NoLabels rfl)) (r_cons (r_frz (r_exn0 g.toSt0 T.e_NoNames rfl)) (r_cons (r_frz (r_exn0 g.toSt0 T.e_NoNumbers rfl)) (r_cons (r_frz (r_exn0 g.toSt0 T.e_NoFractions rfl)) (r_cons (r_frz (r_exn0 g.toSt0 T.e_NoWeights rfl)) (r_cons (r_frz (r_exn0 g.toSt0 T.e_NoWish rfl)) r_nil))))))))))))))))))))))))))
theorem sc__law_kinds : FnScope ["_law_error", "_law_first", "_law_more"] ["_law_error"] (defScope (top 39)) := ⟨rfl, rfl, rfl, by decide +kernel, rfl, by decide +kernel, by decide +kernel⟩
theorem b__law_kinds {C : KM} {xBadBook xBadClerk xBadParty xBadText xElderError xNoClaim xNoClock xNoDemand xNoFolk xNoFractions xNoGrade xNoInstance xNoLabels xNoLine xNoName xNoNames xNoNumber xNoNumbers xNoPlace xNoRow xNoRule xNoWeights xNoWish xNoWorld xNotKept xNotRight xNotServed xNothingDone xOtherBook xTooLarge xTooMany : Addr} (T : Txt C xBadBook xBadClerk xBadParty xBadText xElderError xNoClaim xNoClock xNoDemand xNoFolk xNoFractions xNoGrade xNoInstance xNoLabels xNoLine xNoName xNoNames xNoNumber xNoNumbers xNoPlace xNoRow xNoRule xNoWeights xNoWish xNoWorld xNotKept xNotRight xNotServed xNothingDone xOtherBook xTooLarge xTooMany)  (base : Heap) (f : Addr) (cdv : Value) (A : Around) (outer : List Env) (s : Shared) (H : Hp) (E : XK) (vs : List V) (W : WX) (g : Go (CxD C base ["_law_error", "_law_first", "_law_more"] "_law_kinds" (defScope (top 39)) f cdv A outer s H E) ⟨C, vs, [0]⟩ W 0) : PSs (CxD C base ["_law_error", "_law_first", "_law_more"] "_law_kinds" (defScope (top 39)) f cdv A outer s H E) (defBody (top 39)) (tS ⟨C, vs, [0]⟩ W m__law_kinds) :=
  (rs_cons (rs_set g.toSt0 1 (show (1 : Nat) ∉ [0] by decide) rfl (by first | exact .inl rfl | exact .inr rfl) (r_lst (r_cons (r_frz (r_isX g.toSt0 exl false T.x_NoWorld isX_hcv (r_varA 0 rfl (by first | exact .inl rfl | exact .inr (.inl rfl) | exact .inr (.inr rfl))) (pe_glob rfl (by rw [g.m]; exact T.g_NoWorld) rfl) T.n_isinstance rfl (by rfl))) (r_cons (r_frz (r_isX g.toSt0 exl false T.x_NoNumber isX_hcv (r_varA 0 rfl (by first | exact .inl rfl | exact .inr (.inl rfl) | exact .inr (.inr rfl))) (pe_glob rfl (by rw [g.m]; exact T.g_NoNumber) rfl) T.n_isinstance rfl (by rfl))) (r_cons (r_frz (r_isX g.toSt0 exl false T.x_NoDemand isX_hcv (r_varA 0 rfl (by first | exact .inl rfl | exact .inr (.inl rfl) | exact .inr (.inr rfl))) (pe_glob rfl (by rw [g.m]; exact T.g_NoDemand) rfl) T.n_isinstance rfl (by rfl))) (r_cons (r_frz (r_isX g.toSt0 exl false T.x_NoFolk isX_hcv (r_varA 0 rfl (by first | exact .inl rfl | exact .inr (.inl rfl) | exact .inr (.inr rfl))) (pe_glob rfl (by rw [g.m]; exact T.g_NoFolk) rfl) T.n_isinstance rfl (by rfl))) (r_cons (r_frz (r_isX g.toSt0 exl false T.x_NoInstance isX_hcv (r_varA 0 rfl (by first | exact .inl rfl | exact .inr (.inl rfl) | exact .inr (.inr rfl))) (pe_glob rfl (by rw [g.m]; exact T.g_NoInstance) rfl) T.n_isinstance rfl (by rfl))) (r_cons (r_frz (r_isX g.toSt0 exl false T.x_NoClock isX_hcv (r_varA 0 rfl (by first | exact .inl rfl | exact .inr (.inl rfl) | exact .inr (.inr rfl))) (pe_glob rfl (by rw [g.m]; exact T.g_NoClock) rfl) T.n_isinstance rfl (by rfl))) (r_cons (r_frz (r_isX g.toSt0 exl false T.x_NoPlace isX_hcv (r_varA 0 rfl (by first | exact .inl rfl | exact .inr (.inl rfl) | exact .inr (.inr rfl))) (pe_glob rfl (by rw [g.m]; exact T.g_NoPlace) rfl) T.n_isinstance rfl (by rfl))) (r_cons (r_frz (r_isX g.toSt0 exl false T.x_NoRule isX_hcv (r_varA 0 rfl (by first | exact .inl rfl | exact .inr (.inl rfl) | exact .inr (.inr rfl))) (pe_glob rfl (by rw [g.m]; exact T.g_NoRule) rfl) T.n_isinstance rfl (by rfl))) (r_cons (r_frz (r_isX g.toSt0 exl false T.x_NoGrade isX_hcv (r_varA 0 rfl (by first | exact .inl rfl | exact .inr (.inl rfl) | exact .inr (.inr rfl))) (pe_glob rfl (by rw [g.m]; exact T.g_NoGrade) rfl) T.n_isinstance rfl (by rfl))) (r_cons (r_frz (r_isX g.toSt0 exl false T.x_NotServed isX_hcv (r_varA 0 rfl (by first | exact .inl rfl | exact .inr (.inl rfl) | exact .inr (.inr rfl))) (pe_glob rfl (by rw [g.m]; exact T.g_NotServed) rfl) T.n_isinstance rfl (by rfl))) (r_cons (r_frz (r_isX g.toSt0 exl false T.x_NoClaim isX_hcv (r_varA 0 rfl (by first | exact .inl rfl | exact .inr (.inl rfl) | exact .inr (.inr rfl))) (pe_glob rfl (by rw [g.m]; exact T.g_NoClaim) rfl) T.n_isinstance rfl (by rfl))) (r_cons (r_frz (r_isX g.toSt0 exl false T.x_NoRow isX_hcv (r_varA 0 rfl (by first | exact .inl rfl | exact .inr (.inl rfl) | exact .inr (.inr rfl))) (pe_glob rfl (by rw [g.m]; exact T.g_NoRow) rfl) T.n_isinstance rfl (by rfl))) r_nil))))))))))))))
  (rs_cons (rs_set g.toSt0 2 (show (2 : Nat) ∉ [0] by decide) rfl (by first | exact .inl rfl | exact .inr rfl) (r_lst (r_cons (r_frz (r_isX g.toSt0 exl false T.x_NotRight isX_hcv (r_varA 0 rfl (by first | exact .inl rfl | exact .inr (.inl rfl) | exact .inr (.inr rfl))) (pe_glob rfl (by rw [g.m]; exact T.g_NotRight) rfl) T.n_isinstance rfl (by rfl))) (r_cons (r_frz (r_isX g.toSt0 exl false T.x_NoName isX_hcv (r_varA 0 rfl (by first | exact .inl rfl | exact .inr (.inl rfl) | exact .inr (.inr rfl))) (pe_glob rfl (by rw [g.m]; exact T.g_NoName) rfl) T.n_isinstance rfl (by rfl))) (r_cons (r_frz (r_isX g.toSt0 exl false T.x_NothingDone isX_hcv (r_varA 0 rfl (by first | exact .inl rfl | exact .inr (.inl rfl) | exact .inr (.inr rfl))) (pe_glob rfl (by rw [g.m]; exact T.g_NothingDone) rfl) T.n_isinstance rfl (by rfl))) (r_cons (r_frz (r_isX g.toSt0 exl false T.x_NoLine isX_hcv (r_varA 0 rfl (by first | exact .inl rfl | exact .inr (.inl rfl) | exact .inr (.inr rfl))) (pe_glob rfl (by rw [g.m]; exact T.g_NoLine) rfl) T.n_isinstance rfl (by rfl))) (r_cons (r_frz (r_isX g.toSt0 exl false T.x_OtherBook isX_hcv (r_varA 0 rfl (by first | exact .inl rfl | exact .inr (.inl rfl) | exact .inr (.inr rfl))) (pe_glob rfl (by rw [g.m]; exact T.g_OtherBook) rfl) T.n_isinstance rfl (by rfl))) (r_cons (r_frz (r_isX g.toSt0 exl false T.x_NoLabels isX_hcv (r_varA 0 rfl (by first | exact .inl rfl | exact .inr (.inl rfl) | exact .inr (.inr rfl))) (pe_glob rfl (by rw [g.m]; exact T.g_NoLabels) rfl) T.n_isinstance rfl (by rfl))) (r_cons (r_frz (r_isX g.toSt0 exl false T.x_NoNames isX_hcv (r_varA 0 rfl (by first | exact .inl rfl | exact .inr (.inl rfl) | exact .inr (.inr rfl))) (pe_glob rfl (by rw [g.m]; exact T.g_NoNames) rfl) T.n_isinstance rfl (by rfl))) (r_cons (r_frz (r_isX g.toSt0 exl false T.x_NoNumbers isX_hcv (r_varA 0 rfl (by first | exact .inl rfl | exact .inr (.inl rfl) | exact .inr (.inr rfl))) (pe_glob rfl (by rw [g.m]; exact T.g_NoNumbers) rfl) T.n_isinstance rfl (by rfl))) (r_cons (r_frz (r_isX g.toSt0 exl false T.x_NoFractions isX_hcv (r_varA 0 rfl (by first | exact .inl rfl | exact .inr (.inl rfl) | exact .inr (.inr rfl))) (pe_glob rfl (by rw [g.m]; exact T.g_NoFractions) rfl) T.n_isinstance rfl (by rfl))) (r_cons (r_frz (r_isX g.toSt0 exl false T.x_NoWeights isX_hcv (r_varA 0 rfl (by first | exact .inl rfl | exact .inr (.inl rfl) | exact .inr (.inr rfl))) (pe_glob rfl (by rw [g.m]; exact T.g_NoWeights) rfl) T.n_isinstance rfl (by rfl))) (r_cons (r_frz (r_isX g.toSt0 exl false T.x_NoWish isX_hcv (r_varA 0 rfl (by first | exact .inl rfl | exact .inr (.inl rfl) | exact .inr (.inr rfl))) (pe_glob rfl (by rw [g.m]; exact T.g_NoWish) rfl) T.n_isinstance rfl (by rfl))) r_nil)))))))))))))
  (rs_one (rs_ret (r_bin g.toSt0 rfl (r_frz (r_bin g.toSt0 rfl (r_varA 1 rfl (by first | exact .inl rfl | exact .inr (.inl rfl) | exact .inr (.inr rfl))) (r_varA 2 rfl (by first | exact .inl rfl | exact .inr (.inl rfl) | exact .inr (.inr rfl))))) (r_frz (r_lst (r_cons (r_frz (r_isX g.toSt0 exl false T.x_BadBook isX_hcv (r_varA 0 rfl (by first | exact .inl rfl | exact .inr (.inl rfl) | exact .inr (.inr rfl))) (pe_glob rfl (by rw [g.m]; exact T.g_BadBook) rfl) T.n_isinstance rfl (by rfl))) (r_cons (r_frz (r_isX g.toSt0 exl false T.x_BadParty isX_hcv (r_varA 0 rfl (by first | exact .inl rfl | exact .inr (.inl rfl) | exact .inr (.inr rfl))) (pe_glob rfl (by rw [g.m]; exact T.g_BadParty) rfl) T.n_isinstance rfl (by rfl))) (r_cons (r_frz (r_isX g.toSt0 exl false T.x_BadClerk isX_hcv (r_varA 0 rfl (by first | exact .inl rfl | exact .inr (.inl rfl) | exact .inr (.inr rfl))) (pe_glob rfl (by rw [g.m]; exact T.g_BadClerk) rfl) T.n_isinstance rfl (by rfl))) (r_cons (r_frz (r_isX g.toSt0 exl false T.x_TooLarge isX_hcv (r_varA 0 rfl (by first | exact .inl rfl | exact .inr (.inl rfl) | exact .inr (.inr rfl))) (pe_glob rfl (by rw [g.m]; exact T.g_TooLarge) rfl) T.n_isinstance rfl (by rfl))) (r_cons (r_frz (r_isX g.toSt0 exl false T.x_TooMany isX_hcv (r_varA 0 rfl (by first | exact .inl rfl | exact .inr (.inl rfl) | exact .inr (.inr rfl))) (pe_glob rfl (by rw [g.m]; exact T.g_TooMany) rfl) T.n_isinstance rfl (by rfl))) (r_cons (r_frz (r_isX g.toSt0 exl false T.x_BadText isX_hcv (r_varA 0 rfl (by first | exact .inl rfl | exact .inr (.inl rfl) | exact .inr (.inr rfl))) (pe_glob rfl (by rw [g.m]; exact T.g_BadText) rfl) T.n_isinstance rfl (by rfl))) (r_cons (r_frz (r_isX g.toSt0 exl false T.x_NotKept isX_hcv (r_varA 0 rfl (by first | exact .inl rfl | exact .inr (.inl rfl) | exact .inr (.inr rfl))) (pe_glob rfl (by rw [g.m]; exact T.g_NotKept) rfl) T.n_isinstance rfl (by rfl))) r_nil))))))))))))))
theorem sc__law_is_alone : FnScope ["_law_error", "_law_at", "_law_index"] ["_law_error", "_law_at"] (defScope (top 40)) := ⟨rfl, rfl, rfl, by decide +kernel, rfl, by decide +kernel, by decide +kernel⟩
theorem b__law_is_alone {C : KM} {xBadBook xBadClerk xBadParty xBadText xElderError xNoClaim xNoClock xNoDemand xNoFolk xNoFractions xNoGrade xNoInstance xNoLabels xNoLine xNoName xNoNames xNoNumber xNoNumbers xNoPlace xNoRow xNoRule xNoWeights xNoWish xNoWorld xNotKept xNotRight xNotServed xNothingDone xOtherBook xTooLarge xTooMany : Addr} (T : Txt C xBadBook xBadClerk xBadParty xBadText xElderError xNoClaim xNoClock xNoDemand xNoFolk xNoFractions xNoGrade xNoInstance xNoLabels xNoLine xNoName xNoNames xNoNumber xNoNumbers xNoPlace xNoRow xNoRule xNoWeights xNoWish xNoWorld xNotKept xNotRight xNotServed xNothingDone xOtherBook xTooLarge xTooMany) (F__law_kinds : Fn C 1 "_law_kinds" g__law_kinds) (base : Heap) (f : Addr) (cdv : Value) (A : Around) (outer : List Env) (s : Shared) (H : Hp) (E : XK) (vs : List V) (W : WX) (g : Go (CxD C base ["_law_error", "_law_at", "_law_index"] "_law_is_alone" (defScope (top 40)) f cdv A outer s H E) ⟨C, vs, [0, 1]⟩ W 1) : PSs (CxD C base ["_law_error", "_law_at", "_law_index"] "_law_is_alone" (defScope (top 40)) f cdv A outer s H E) (defBody (top 40)) (tS ⟨C, vs, [0, 1]⟩ W m__law_is_alone) :=
  (rs_cons (rs_if (PW.pt (rt_or (rt_not (rt_bl (r_isX g.toSt0 exl true T.x_ElderError isX_hcv (r_varA 0 rfl (by first | exact .inl rfl | exact .inr (.inl rfl) | exact .inr (.inr rfl))) (pe_glob rfl (by rw [g.m]; exact T.g_ElderError) rfl) T.n_isinstance rfl (by rfl)))) (rt_or1 (rt_not (rt_bl (r_isX g.toSt0 exl true T.x_ValueError isX_hct (r_varA 0 rfl (by first | exact .inl rfl | exact .inr (.inl rfl) | exact .inr (.inr rfl))) (pe_bltn rfl (by rw [g.m]; exact T.n_ValueError) (by rfl) rfl) T.n_isinstance rfl (by rfl))))))) (rs_one (rs_ret r_bl)) rs_nil)
  (rs_one (rs_ret (r_cmp g.toSt0 rfl (r_frz (r_call g F__law_kinds (by decide) rfl (r_cons (r_varA 0 rfl (by first | exact .inl rfl | exact .inr (.inl rfl) | exact .inr (.inr rfl))) r_nil))) (r_frz (r_lc g [("_law_index", 2)] (.nm 2) (show (2 : Nat) ∉ [0, 1] by decide) (show ∀ i ∈ [0, 1], i ∉ [2] by decide) (show (2 : Nat) ∈ [2] by decide) (ri_rng1 g.toSt0 T.n_range rfl (r_cons (r_frz r_int) r_nil)) (blkOk_by (N := ["_law_error", "_law_at", "_law_index"]) (sc := defScope (top 40)) (by decide +kernel)) (fun _ _ _ _ _ => (rg_nm (g.blk ..).toSt0 2 rfl (by first | exact .inl rfl | exact .inr rfl))) (fun _ _ _ _ _ g => rts_nil) (fun _ _ _ _ _ g => (r_cmp g.toSt0 rfl (r_varA 2 rfl (by first | exact .inl rfl | exact .inr (.inl rfl) | exact .inr (.inr rfl))) (r_varA 1 rfl (by first | exact .inl rfl | exact .inr (.inl rfl) | exact .inr (.inr rfl)))))))))))
theorem sc__law_fields : FnScope ["_law_errors", "_law_first"] ["_law_errors"] (defScope (top 41)) := ⟨rfl, rfl, rfl, by decide +kernel, rfl, by decide +kernel, by decide +kernel⟩
theorem b__law_fields {C : KM} {xBadBook xBadClerk xBadParty xBadText xElderError xNoClaim xNoClock xNoDemand xNoFolk xNoFractions xNoGrade xNoInstance xNoLabels xNoLine xNoName xNoNames xNoNumber xNoNumbers xNoPlace xNoRow xNoRule xNoWeights xNoWish xNoWorld xNotKept xNotRight xNotServed xNothingDone xOtherBook xTooLarge xTooMany : Addr} (T : Txt C xBadBook xBadClerk xBadParty xBadText xElderError xNoClaim xNoClock xNoDemand xNoFolk xNoFractions xNoGrade xNoInstance xNoLabels xNoLine xNoName xNoNames xNoNumber xNoNumbers xNoPlace xNoRow xNoRule xNoWeights xNoWish xNoWorld xNotKept xNotRight xNotServed xNothingDone xOtherBook xTooLarge xTooMany)  (base : Heap) (f : Addr) (cdv : Value) (A : Around) (outer : List Env) (s : Shared) (H : Hp) (E : XK) (vs : List V) (W : WX) (g : Go (CxD C base ["_law_errors", "_law_first"] "_law_fields" (defScope (top 41)) f cdv A outer s H E) ⟨C, vs, [0]⟩ W 0) : PSs (CxD C base ["_law_errors", "_law_first"] "_law_fields" (defScope (top 41)) f cdv A outer s H E) (defBody (top 41)) (tS ⟨C, vs, [0]⟩ W m__law_fields) :=
  (rs_cons (rs_set g.toSt0 1 (show (1 : Nat) ∉ [0] by decide) rfl (by first | exact .inl rfl | exact .inr rfl) (r_lst (r_cons (r_frz (r_xf g.toSt0 xs_part T.p_part (r_frz (r_ix g.toSt0 (r_varA 0 rfl (by first | exact .inl rfl | exact .inr (.inl rfl) | exact .inr (.inr rfl))) (r_frz r_int))))) (r_cons (r_frz (r_xf g.toSt0 xs_part T.p_part (r_frz (r_ix g.toSt0 (r_varA 0 rfl (by first | exact .inl rfl | exact .inr (.inl rfl) | exact .inr (.inr rfl))) (r_frz r_int))))) (r_cons (r_frz (r_xf g.toSt0 xs_part T.p_part (r_frz (r_ix g.toSt0 (r_varA 0 rfl (by first | exact .inl rfl | exact .inr (.inl rfl) | exact .inr (.inr rfl))) (r_frz r_int))))) (r_cons (r_frz (r_xf g.toSt0 xs_most T.p_most (r_frz (r_ix g.toSt0 (r_varA 0 rfl (by first | exact .inl rfl | exact .inr (.inl rfl) | exact .inr (.inr rfl))) (r_frz r_int))))) r_nil))))))
  (rs_one (rs_ret (r_bin g.toSt0 rfl (r_varA 1 rfl (by first | exact .inl rfl | exact .inr (.inl rfl) | exact .inr (.inr rfl))) (r_frz (r_lst (r_cons (r_frz (r_xf g.toSt0 xs_most T.p_most (r_frz (r_ix g.toSt0 (r_varA 0 rfl (by first | exact .inl rfl | exact .inr (.inl rfl) | exact .inr (.inr rfl))) (r_frz r_int))))) (r_cons (r_frz (r_xf g.toSt0 xs_line T.p_line (r_frz (r_ix g.toSt0 (r_varA 0 rfl (by first | exact .inl rfl | exact .inr (.inl rfl) | exact .inr (.inr rfl))) (r_frz r_int))))) (r_cons (r_frz (r_xf g.toSt0 xs_label T.p_label (r_frz (r_ix g.toSt0 (r_varA 0 rfl (by first | exact .inl rfl | exact .inr (.inl rfl) | exact .inr (.inr rfl))) (r_frz r_int))))) r_nil)))))))))
theorem sc__law_raised : FnScope ["_law_value_here", "_law_found", "e"] ["_law_value_here"] (defScope (top 42)) := ⟨rfl, rfl, rfl, by decide +kernel, rfl, by decide +kernel, by decide +kernel⟩
theorem b__law_raised {C : KM} {xBadBook xBadClerk xBadParty xBadText xElderError xNoClaim xNoClock xNoDemand xNoFolk xNoFractions xNoGrade xNoInstance xNoLabels xNoLine xNoName xNoNames xNoNumber xNoNumbers xNoPlace xNoRow xNoRule xNoWeights xNoWish xNoWorld xNotKept xNotRight xNotServed xNothingDone xOtherBook xTooLarge xTooMany : Addr} (T : Txt C xBadBook xBadClerk xBadParty xBadText xElderError xNoClaim xNoClock xNoDemand xNoFolk xNoFractions xNoGrade xNoInstance xNoLabels xNoLine xNoName xNoNames xNoNumber xNoNumbers xNoPlace xNoRow xNoRule xNoWeights xNoWish xNoWorld xNotKept xNotRight xNotServed xNothingDone xOtherBook xTooLarge xTooMany)  (base : Heap) (f : Addr) (cdv : Value) (A : Around) (outer : List Env) (s : Shared) (H : Hp) (E : XK) (vs : List V) (W : WX) (g : Go (CxD C base ["_law_value_here", "_law_found", "e"] "_law_raised" (defScope (top 42)) f cdv A outer s H E) ⟨C, vs, [0]⟩ W 2) : PSs (CxD C base ["_law_value_here", "_law_found", "e"] "_law_raised" (defScope (top 42)) f cdv A outer s H E) (defBody (top 42)) (tS ⟨C, vs, [0]⟩ W m__law_raised) :=
  (rs_cons (rs_set g.toSt0 1 (show (1 : Nat) ∉ [0] by decide) rfl (by first | exact .inl rfl | exact .inr rfl) (r_lst r_nil))
  (rs_cons (rs_tryAs (x := "BadBook") (c := .ref xBadBook) g rfl rfl ⟨rfl, by decide, .inl T.g_BadBook⟩ 2 1 yes_BadBook no_BadBook (show (2 : Nat) ∉ [0] by decide) (show (1 : Nat) ∉ [0] by decide) (by decide) rfl rfl rfl rfl T.y_BadBook T.o_BadBook (fun _ _ _ g => (rs_one (rs_raise1 g T.u_BadBook (by decide) rfl (r_frz (r_varE 0 rfl (by first | exact .inl rfl | exact .inr (.inl rfl) | exact .inr (.inr rfl))))))) (fun a oe cls d pn hz hf => (re_list (re_part g.toSt0 (T.p_part "BadBook" (by decide)) hz hf rfl (by first | exact .inl rfl | exact .inr (.inl rfl) | exact .inr (.inr rfl))))))
  (rs_one (rs_ret (r_varM 1 1 rfl (by first | exact .inl rfl | exact .inr (.inl rfl) | exact .inr (.inr rfl)))))))
theorem sc_law : FnScope ["_law_script", "_law_deck_here", "_law_values", "_law_turn", "_law_others", "_law_due", "_law_value_here", "_law_due_others", "_law_errors", "_law_more", "_law_at"] ["_law_script"] (defScope (top 44)) := ⟨rfl, rfl, rfl, by decide +kernel, rfl, by decide +kernel, by decide +kernel⟩
theorem b_law {C : KM} {xBadBook xBadClerk xBadParty xBadText xElderError xNoClaim xNoClock xNoDemand xNoFolk xNoFractions xNoGrade xNoInstance xNoLabels xNoLine xNoName xNoNames xNoNumber xNoNumbers xNoPlace xNoRow xNoRule xNoWeights xNoWish xNoWorld xNotKept xNotRight xNotServed xNothingDone xOtherBook xTooLarge xTooMany : Addr} (T : Txt C xBadBook xBadClerk xBadParty xBadText xElderError xNoClaim xNoClock xNoDemand xNoFolk xNoFractions xNoGrade xNoInstance xNoLabels xNoLine xNoName xNoNames xNoNumber xNoNumbers xNoPlace xNoRow xNoRule xNoWeights xNoWish xNoWorld xNotKept xNotRight xNotServed xNothingDone xOtherBook xTooLarge xTooMany) (F__law_deck : Fn C 1 "_law_deck" g__law_deck) (F__law_value : Fn C 3 "_law_value" g__law_value) (F__law_plain : Fn C 1 "_law_plain" g__law_plain) (F__law_with : Fn C 3 "_law_with" g__law_with) (F__law_is_alone : Fn C 2 "_law_is_alone" g__law_is_alone) (F__law_fields : Fn C 1 "_law_fields" g__law_fields) (F__law_raised : Fn C 3 "_law_raised" g__law_raised) (F__law_is_caught : Fn C 1 "_law_is_caught" g__law_is_caught) (base : Heap) (f : Addr) (cdv : Value) (A : Around) (outer : List Env) (s : Shared) (H : Hp) (E : XK) (vs : List V) (W : WX) (hG : (CxD C base ["_law_script", "_law_deck_here", "_law_values", "_law_turn", "_law_others", "_law_due", "_law_value_here", "_law_due_others", "_law_errors", "_law_more", "_law_at"] "law" (defScope (top 44)) f cdv A outer s H E).A.guards = some []) (g : Go (CxD C base ["_law_script", "_law_deck_here", "_law_values", "_law_turn", "_law_others", "_law_due", "_law_value_here", "_law_due_others", "_law_errors", "_law_more", "_law_at"] "law" (defScope (top 44)) f cdv A outer s H E) ⟨C, vs, [0]⟩ W 3) : PSs (CxD C base ["_law_script", "_law_deck_here", "_law_values", "_law_turn", "_law_others", "_law_due", "_law_value_here", "_law_due_others", "_law_errors", "_law_more", "_law_at"] "law" (defScope (top 44)) f cdv A outer s H E) (defBody (top 44)) (tS ⟨C, vs, [0]⟩ W m_law) :=
  (rs_cons (rs_set g.toSt0 1 (show (1 : Nat) ∉ [0] by decide) rfl (by first | exact .inl rfl | exact .inr rfl) (r_call g F__law_deck (by decide) rfl (r_cons (r_varA 0 rfl (by first | exact .inl rfl | exact .inr (.inl rfl) | exact .inr (.inr rfl))) r_nil)))
  (rs_cons (rs_lc g 2 [("_law_turn", 3)] (.nm 3) (show (2 : Nat) ∉ [0] by decide) (show (3 : Nat) ∉ [0] by decide) (show ∀ i ∈ [0], i ∉ [3] by decide) (show (3 : Nat) ∈ [3] by decide) rfl rfl (sw_true rfl rfl rfl (by decide +kernel)) (ri_rng1 g.toSt0 T.n_range rfl (r_cons (r_frz r_int) r_nil)) (blkOk_by (N := ["_law_script", "_law_deck_here", "_law_values", "_law_turn", "_law_others", "_law_due", "_law_value_here", "_law_due_others", "_law_errors", "_law_more", "_law_at"]) (sc := defScope (top 44)) (by decide +kernel)) (fun _ _ _ _ _ => (rg_nm (g.blk ..).toSt0 3 rfl (by first | exact .inl rfl | exact .inr rfl))) (fun _ _ _ _ _ g => rts_nil) (fun _ _ _ _ _ g => (r_call g F__law_value (by decide) rfl (r_cons (r_varA 1 rfl (by first | exact .inl rfl | exact .inr (.inl rfl) | exact .inr (.inr rfl))) r_nil))))
  (rs_cons (rs_lc g 4 [("_law_turn", 3)] (.nm 3) (show (4 : Nat) ∉ [0] by decide) (show (3 : Nat) ∉ [0] by decide) (show ∀ i ∈ [0], i ∉ [3] by decide) (show (3 : Nat) ∈ [3] by decide) rfl rfl (sw_true rfl rfl rfl (by decide +kernel)) (ri_rng1 g.toSt0 T.n_range rfl (r_cons (r_frz r_int) r_nil)) (blkOk_by (N := ["_law_script", "_law_deck_here", "_law_values", "_law_turn", "_law_others", "_law_due", "_law_value_here", "_law_due_others", "_law_errors", "_law_more", "_law_at"]) (sc := defScope (top 44)) (by decide +kernel)) (fun _ _ _ _ _ => (rg_nm (g.blk ..).toSt0 3 rfl (by first | exact .inl rfl | exact .inr rfl))) (fun _ _ _ _ _ g => rts_nil) (fun _ _ _ _ _ g => (r_call g F__law_value (by decide) rfl (r_cons (r_varA 1 rfl (by first | exact .inl rfl | exact .inr (.inl rfl) | exact .inr (.inr rfl))) r_nil))))
  (rs_cons (rs_lc g 5 [("_law_value_here", 6)] (.nm 6) (show (5 : Nat) ∉ [0] by decide) (show (6 : Nat) ∉ [0] by decide) (show ∀ i ∈ [0], i ∉ [6] by decide) (show (6 : Nat) ∈ [6] by decide) rfl rfl (sw_true rfl rfl rfl (by decide +kernel)) (ri_val g.toSt0 (r_frz (r_varE 2 rfl (by first | exact .inl rfl | exact .inr (.inl rfl) | exact .inr (.inr rfl))))) (blkOk_by (N := ["_law_script", "_law_deck_here", "_law_values", "_law_turn", "_law_others", "_law_due", "_law_value_here", "_law_due_others", "_law_errors", "_law_more", "_law_at"]) (sc := defScope (top 44)) (by decide +kernel)) (fun _ _ _ _ _ => (rg_nm (g.blk ..).toSt0 6 rfl (by first | exact .inl rfl | exact .inr rfl))) (fun _ _ _ _ _ g => rts_nil) (fun _ _ _ _ _ g => (r_cb g.toSt0 (call_reprD g.k.symm g.u hG) T.n_repr (by rfl) rfl (r_cons (r_varA 6 rfl (by first | exact .inl rfl | exact .inr (.inl rfl) | exact .inr (.inr rfl))) r_nil))))
  (rs_cons (rs_lc g 7 [("_law_value_here", 6)] (.nm 6) (show (7 : Nat) ∉ [0] by decide) (show (6 : Nat) ∉ [0] by decide) (show ∀ i ∈ [0], i ∉ [6] by decide) (show (6 : Nat) ∈ [6] by decide) rfl rfl (sw_true rfl rfl rfl (by decide +kernel)) (ri_val g.toSt0 (r_frz (r_varE 4 rfl (by first | exact .inl rfl | exact .inr (.inl rfl) | exact .inr (.inr rfl))))) (blkOk_by (N := ["_law_script", "_law_deck_here", "_law_values", "_law_turn", "_law_others", "_law_due", "_law_value_here", "_law_due_others", "_law_errors", "_law_more", "_law_at"]) (sc := defScope (top 44)) (by decide +kernel)) (fun _ _ _ _ _ => (rg_nm (g.blk ..).toSt0 6 rfl (by first | exact .inl rfl | exact .inr rfl))) (fun _ _ _ _ _ g => rts_nil) (fun _ _ _ _ _ g => (r_cb g.toSt0 (call_reprD g.k.symm g.u hG) T.n_repr (by rfl) rfl (r_cons (r_varA 6 rfl (by first | exact .inl rfl | exact .inr (.inl rfl) | exact .inr (.inr rfl))) r_nil))))
  (rs_cons (rs_set g.toSt0 8 (show (8 : Nat) ∉ [0] by decide) rfl (by first | exact .inl rfl | exact .inr rfl) (r_bin g.toSt0 rfl (r_frz (r_call0 g F__law_plain (by decide) rfl)) (r_frz (r_call g F__law_with (by decide) rfl (r_cons (r_varA 2 rfl (by first | exact .inl rfl | exact .inr (.inl rfl) | exact .inr (.inr rfl))) r_nil)))))
  (rs_cons (rs_set g.toSt0 9 (show (9 : Nat) ∉ [0] by decide) rfl (by first | exact .inl rfl | exact .inr rfl) (r_call g F__law_with (by decide) rfl (r_cons (r_varA 4 rfl (by first | exact .inl rfl | exact .inr (.inl rfl) | exact .inr (.inr rfl))) r_nil)))
  (rs_cons (rs_if (rt_not (rt_bl (r_cb g.toSt0 (call_allD g.cm) T.n_all (by rfl) rfl (r_cons (r_frz (r_lc g [("_law_at", 10)] (.nm 10) (show (10 : Nat) ∉ [0] by decide) (show ∀ i ∈ [0], i ∉ [10] by decide) (show (10 : Nat) ∈ [10] by decide) (ri_rng1 g.toSt0 T.n_range rfl (r_cons (r_frz r_int) r_nil)) (blkOk_by (N := ["_law_script", "_law_deck_here", "_law_values", "_law_turn", "_law_others", "_law_due", "_law_value_here", "_law_due_others", "_law_errors", "_law_more", "_law_at"]) (sc := defScope (top 44)) (by decide +kernel)) (fun _ _ _ _ _ => (rg_nm (g.blk ..).toSt0 10 rfl (by first | exact .inl rfl | exact .inr rfl))) (fun _ _ _ _ _ g => rts_nil) (fun _ _ _ _ _ g => (r_call g F__law_is_alone (by decide) rfl (r_cons (r_frz (r_ix g.toSt0 (r_varA 8 rfl (by first | exact .inl rfl | exact .inr (.inl rfl) | exact .inr (.inr rfl))) (r_varA 10 rfl (by first | exact .inl rfl | exact .inr (.inl rfl) | exact .inr (.inr rfl))))) (r_cons (r_varA 10 rfl (by first | exact .inl rfl | exact .inr (.inl rfl) | exact .inr (.inr rfl))) r_nil)))))) r_nil)))) (rs_one (rs_ret r_bl)) rs_nil)
  (rs_cons (rs_if (rt_not (rt_bl (r_cb g.toSt0 (call_allD g.cm) T.n_all (by rfl) rfl (r_cons (r_frz (r_lc g [("_law_at", 10)] (.nm 10) (show (10 : Nat) ∉ [0] by decide) (show ∀ i ∈ [0], i ∉ [10] by decide) (show (10 : Nat) ∈ [10] by decide) (ri_rng1 g.toSt0 T.n_range rfl (r_cons (r_frz r_int) r_nil)) (blkOk_by (N := ["_law_script", "_law_deck_here", "_law_values", "_law_turn", "_law_others", "_law_due", "_law_value_here", "_law_due_others", "_law_errors", "_law_more", "_law_at"]) (sc := defScope (top 44)) (by decide +kernel)) (fun _ _ _ _ _ => (rg_nm (g.blk ..).toSt0 10 rfl (by first | exact .inl rfl | exact .inr rfl))) (fun _ _ _ _ _ g => rts_nil) (fun _ _ _ _ _ g => (r_call g F__law_is_alone (by decide) rfl (r_cons (r_frz (r_ix g.toSt0 (r_varA 9 rfl (by first | exact .inl rfl | exact .inr (.inl rfl) | exact .inr (.inr rfl))) (r_varA 10 rfl (by first | exact .inl rfl | exact .inr (.inl rfl) | exact .inr (.inr rfl))))) (r_cons (r_frz (r_bin g.toSt0 rfl (r_frz r_int) (r_varA 10 rfl (by first | exact .inl rfl | exact .inr (.inl rfl) | exact .inr (.inr rfl))))) r_nil)))))) r_nil)))) (rs_one (rs_ret r_bl)) rs_nil)
  (rs_cons (rs_if (rt_cmp g.toSt0 rfl (r_frz (r_lc g [("_law_value_here", 6)] (.nm 6) (show (6 : Nat) ∉ [0] by decide) (show ∀ i ∈ [0], i ∉ [6] by decide) (show (6 : Nat) ∈ [6] by decide) (ri_val g.toSt0 (r_frz (r_call g F__law_fields (by decide) rfl (r_cons (r_frz (r_sl g.toSt0 (r_varA 8 rfl (by first | exact .inl rfl | exact .inr (.inl rfl) | exact .inr (.inr rfl))) (r_part r_int) r_noP)) r_nil)))) (blkOk_by (N := ["_law_script", "_law_deck_here", "_law_values", "_law_turn", "_law_others", "_law_due", "_law_value_here", "_law_due_others", "_law_errors", "_law_more", "_law_at"]) (sc := defScope (top 44)) (by decide +kernel)) (fun _ _ _ _ _ => (rg_nm (g.blk ..).toSt0 6 rfl (by first | exact .inl rfl | exact .inr rfl))) (fun _ _ _ _ _ g => rts_nil) (fun _ _ _ _ _ g => (r_cb g.toSt0 (call_reprD g.k.symm g.u hG) T.n_repr (by rfl) rfl (r_cons (r_varA 6 rfl (by first | exact .inl rfl | exact .inr (.inl rfl) | exact .inr (.inr rfl))) r_nil))))) (r_varA 5 rfl (by first | exact .inl rfl | exact .inr (.inl rfl) | exact .inr (.inr rfl)))) (rs_one (rs_ret r_bl)) rs_nil)
  (rs_cons (rs_if (rt_cmp g.toSt0 rfl (r_frz (r_lc g [("_law_value_here", 6)] (.nm 6) (show (6 : Nat) ∉ [0] by decide) (show ∀ i ∈ [0], i ∉ [6] by decide) (show (6 : Nat) ∈ [6] by decide) (ri_val g.toSt0 (r_frz (r_call g F__law_fields (by decide) rfl (r_cons (r_varA 9 rfl (by first | exact .inl rfl | exact .inr (.inl rfl) | exact .inr (.inr rfl))) r_nil)))) (blkOk_by (N := ["_law_script", "_law_deck_here", "_law_values", "_law_turn", "_law_others", "_law_due", "_law_value_here", "_law_due_others", "_law_errors", "_law_more", "_law_at"]) (sc := defScope (top 44)) (by decide +kernel)) (fun _ _ _ _ _ => (rg_nm (g.blk ..).toSt0 6 rfl (by first | exact .inl rfl | exact .inr rfl))) (fun _ _ _ _ _ g => rts_nil) (fun _ _ _ _ _ g => (r_cb g.toSt0 (call_reprD g.k.symm g.u hG) T.n_repr (by rfl) rfl (r_cons (r_varA 6 rfl (by first | exact .inl rfl | exact .inr (.inl rfl) | exact .inr (.inr rfl))) r_nil))))) (r_varA 7 rfl (by first | exact .inl rfl | exact .inr (.inl rfl) | exact .inr (.inr rfl)))) (rs_one (rs_ret r_bl)) rs_nil)
  (rs_cons (rs_if (rt_cmp g.toSt0 rfl (r_frz (r_lc g [("_law_value_here", 6)] (.nm 6) (show (6 : Nat) ∉ [0] by decide) (show ∀ i ∈ [0], i ∉ [6] by decide) (show (6 : Nat) ∈ [6] by decide) (ri_val g.toSt0 (r_frz (r_call g F__law_raised (by decide) rfl (r_cons (r_frz (r_ix g.toSt0 (r_varA 4 rfl (by first | exact .inl rfl | exact .inr (.inl rfl) | exact .inr (.inr rfl))) (r_frz r_int))) r_nil)))) (blkOk_by (N := ["_law_script", "_law_deck_here", "_law_values", "_law_turn", "_law_others", "_law_due", "_law_value_here", "_law_due_others", "_law_errors", "_law_more", "_law_at"]) (sc := defScope (top 44)) (by decide +kernel)) (fun _ _ _ _ _ => (rg_nm (g.blk ..).toSt0 6 rfl (by first | exact .inl rfl | exact .inr rfl))) (fun _ _ _ _ _ g => rts_nil) (fun _ _ _ _ _ g => (r_cb g.toSt0 (call_reprD g.k.symm g.u hG) T.n_repr (by rfl) rfl (r_cons (r_varA 6 rfl (by first | exact .inl rfl | exact .inr (.inl rfl) | exact .inr (.inr rfl))) r_nil))))) (r_frz (r_sl g.toSt0 (r_varA 7 rfl (by first | exact .inl rfl | exact .inr (.inl rfl) | exact .inr (.inr rfl))) r_noP (r_part r_int)))) (rs_one (rs_ret r_bl)) rs_nil)
  (rs_one (rs_ret (r_call0 g F__law_is_caught (by decide) rfl)))))))))))))))
def usl (xBadBook xBadClerk xBadParty xBadText xNoClaim xNoClock xNoDemand xNoFolk xNoFractions xNoGrade xNoInstance xNoLabels xNoLine xNoName xNoNames xNoNumber xNoNumbers xNoPlace xNoRow xNoRule xNoWeights xNoWish xNoWorld xNotKept xNotRight xNotServed xNothingDone xOtherBook xTooLarge xTooMany : Addr) : List (Str × Addr) := [("BadBook", xBadBook), ("BadClerk", xBadClerk), ("BadParty", xBadParty), ("BadText", xBadText), ("NoClaim", xNoClaim), ("NoClock", xNoClock), ("NoDemand", xNoDemand), ("NoFolk", xNoFolk), ("NoFractions", xNoFractions), ("NoGrade", xNoGrade), ("NoInstance", xNoInstance), ("NoLabels", xNoLabels), ("NoLine", xNoLine), ("NoName", xNoName), ("NoNames", xNoNames), ("NoNumber", xNoNumber), ("NoNumbers", xNoNumbers), ("NoPlace", xNoPlace), ("NoRow", xNoRow), ("NoRule", xNoRule), ("NoWeights", xNoWeights), ("NoWish", xNoWish), ("NoWorld", xNoWorld), ("NotKept", xNotKept), ("NotRight", xNotRight), ("NotServed", xNotServed), ("NothingDone", xNothingDone), ("OtherBook", xOtherBook), ("TooLarge", xTooLarge), ("TooMany", xTooMany)]
theorem all_mk {P : Program} {w : World} {K : PySem.W.Frag} {h : Heap} {mg : Str → Option Value} {fa : Addr} (X : K.In h) (G : h.Ns mainGlobals mg) (hfa : mg "law" = some (.ref fa))
    {xBadBook : Addr} {xBadClerk : Addr} {xBadParty : Addr} {xBadText : Addr} {xElderError : Addr} {xNoClaim : Addr} {xNoClock : Addr} {xNoDemand : Addr} {xNoFolk : Addr} {xNoFractions : Addr} {xNoGrade : Addr} {xNoInstance : Addr} {xNoLabels : Addr} {xNoLine : Addr} {xNoName : Addr} {xNoNames : Addr} {xNoNumber : Addr} {xNoNumbers : Addr} {xNoPlace : Addr} {xNoRow : Addr} {xNoRule : Addr} {xNoWeights : Addr} {xNoWish : Addr} {xNoWorld : Addr} {xNotKept : Addr} {xNotRight : Addr} {xNotServed : Addr} {xNothingDone : Addr} {xOtherBook : Addr} {xTooLarge : Addr} {xTooMany : Addr} {faBadBook cdaBadBook ccBadBook NBadBook : Addr} {nmBadBook qBadBook_ : Str} {bsBadBook bmBadBook subBadBook : List Value} {snBadBook : List Str} {abBadBook : Bool} {colBadBook : Option Bool} {ddBadBook : Option Addr} {kaBadBook kbBadBook kdBadBook keBadBook kfBadBook : Option Value} {ocaBadBook kVBadBook dcBadBook pmBadBook ctBadBook cclBadBook clBadBook : Value} {anBadBook odaBadBook cddBadBook cldBadBook : Option Addr} {slaBadBook ccsBadBook cslBadBook : Array (Option Value)} {vsBadBook : Array Value} {fiBadBook : Str} {tfBadBook : Tok} {faBadClerk cdaBadClerk ccBadClerk NBadClerk : Addr} {nmBadClerk qBadClerk_ : Str} {bsBadClerk bmBadClerk subBadClerk : List Value} {snBadClerk : List Str} {abBadClerk : Bool} {colBadClerk : Option Bool} {ddBadClerk : Option Addr} {kaBadClerk kbBadClerk kdBadClerk keBadClerk kfBadClerk : Option Value} {ocaBadClerk kVBadClerk dcBadClerk pmBadClerk ctBadClerk cclBadClerk clBadClerk : Value} {anBadClerk odaBadClerk cddBadClerk cldBadClerk : Option Addr} {slaBadClerk ccsBadClerk cslBadClerk : Array (Option Value)} {vsBadClerk : Array Value} {fiBadClerk : Str} {tfBadClerk : Tok} {faBadParty cdaBadParty ccBadParty NBadParty : Addr} {nmBadParty qBadParty_ : Str} {bsBadParty bmBadParty subBadParty : List Value} {snBadParty : List Str} {abBadParty : Bool} {colBadParty : Option Bool} {ddBadParty : Option Addr} {kaBadParty kbBadParty kdBadParty keBadParty kfBadParty : Option Value} {ocaBadParty kVBadParty dcBadParty pmBadParty ctBadParty cclBadParty clBadParty : Value} {anBadParty odaBadParty cddBadParty cldBadParty : Option Addr} {slaBadParty ccsBadParty cslBadParty : Array (Option Value)} {vsBadParty : Array Value} {fiBadParty : Str} {tfBadParty : Tok} {faBadText cdaBadText ccBadText NBadText : Addr} {nmBadText qBadText_ : Str} {bsBadText bmBadText subBadText : List Value} {snBadText : List Str} {abBadText : Bool} {colBadText : Option Bool} {ddBadText : Option Addr} {kaBadText kbBadText kdBadText keBadText kfBadText : Option Value} {ocaBadText kVBadText dcBadText pmBadText ctBadText cclBadText clBadText : Value} {anBadText odaBadText cddBadText cldBadText : Option Addr} {slaBadText ccsBadText cslBadText : Array (Option Value)} {vsBadText : Array Value} {fiBadText : Str} {tfBadText : Tok} {faNotKept cdaNotKept ccNotKept NNotKept : Addr} {nmNotKept qNotKept_ : Str} {bsNotKept bmNotKept subNotKept : List Value} {snNotKept : List Str} {abNotKept : Bool} {colNotKept : Option Bool} {ddNotKept : Option Addr} {kaNotKept kbNotKept kdNotKept keNotKept kfNotKept : Option Value} {ocaNotKept kVNotKept dcNotKept pmNotKept ctNotKept cclNotKept clNotKept : Value} {anNotKept odaNotKept cddNotKept cldNotKept : Option Addr} {slaNotKept ccsNotKept cslNotKept : Array (Option Value)} {vsNotKept : Array Value} {fiNotKept : Str} {tfNotKept : Tok} {faTooLarge cdaTooLarge ccTooLarge NTooLarge : Addr} {nmTooLarge qTooLarge_ : Str} {bsTooLarge bmTooLarge subTooLarge : List Value} {snTooLarge : List Str} {abTooLarge : Bool} {colTooLarge : Option Bool} {ddTooLarge : Option Addr} {kaTooLarge kbTooLarge kdTooLarge keTooLarge kfTooLarge : Option Value} {ocaTooLarge kVTooLarge dcTooLarge pmTooLarge ctTooLarge cclTooLarge clTooLarge : Value} {anTooLarge odaTooLarge cddTooLarge cldTooLarge : Option Addr} {slaTooLarge ccsTooLarge cslTooLarge : Array (Option Value)} {vsTooLarge : Array Value} {fiTooLarge : Str} {tfTooLarge : Tok} {faTooMany cdaTooMany ccTooMany NTooMany : Addr} {nmTooMany qTooMany_ : Str} {bsTooMany bmTooMany subTooMany : List Value} {snTooMany : List Str} {abTooMany : Bool} {colTooMany : Option Bool} {ddTooMany : Option Addr} {kaTooMany kbTooMany kdTooMany keTooMany kfTooMany : Option Value} {ocaTooMany kVTooMany dcTooMany pmTooMany ctTooMany cclTooMany clTooMany : Value} {anTooMany odaTooMany cddTooMany cldTooMany : Option Addr} {slaTooMany ccsTooMany cslTooMany : Array (Option Value)} {vsTooMany : Array Value} {fiTooMany : Str} {tfTooMany : Tok} {f0 : Addr} {od0 an0 : Option Addr} {sl0 : Array (Option Value)} {oc0 kV0 dc0 pm0 cd0 ct0 : Value} {f1 : Addr} {od1 an1 : Option Addr} {sl1 : Array (Option Value)} {oc1 kV1 dc1 pm1 cd1 ct1 : Value} {f2 : Addr} {od2 an2 : Option Addr} {sl2 : Array (Option Value)} {oc2 kV2 dc2 pm2 cd2 ct2 : Value} {f3 : Addr} {od3 an3 : Option Addr} {sl3 : Array (Option Value)} {oc3 kV3 dc3 pm3 cd3 ct3 : Value} {f4 : Addr} {od4 an4 : Option Addr} {sl4 : Array (Option Value)} {oc4 kV4 dc4 pm4 cd4 ct4 : Value} {f5 : Addr} {od5 an5 : Option Addr} {sl5 : Array (Option Value)} {oc5 kV5 dc5 pm5 cd5 ct5 : Value} {f6 : Addr} {od6 an6 : Option Addr} {sl6 : Array (Option Value)} {oc6 kV6 dc6 pm6 cd6 ct6 : Value} {f7 : Addr} {od7 an7 : Option Addr} {sl7 : Array (Option Value)} {oc7 kV7 dc7 pm7 cd7 ct7 : Value} {f8 : Addr} {od8 an8 : Option Addr} {sl8 : Array (Option Value)} {oc8 kV8 dc8 pm8 cd8 ct8 : Value} {f9 : Addr} {od9 an9 : Option Addr} {sl9 : Array (Option Value)} {oc9 kV9 dc9 pm9 cd9 ct9 : Value} {f10 : Addr} {od10 an10 : Option Addr} {sl10 : Array (Option Value)} {oc10 kV10 dc10 pm10 cd10 ct10 : Value} {f11 : Addr} {od11 an11 : Option Addr} {sl11 : Array (Option Value)} {oc11 kV11 dc11 pm11 cd11 ct11 : Value}
    (n_ValueError : PySem.W.nsIn K mainGlobals "ValueError" = some none)
    (n_all : PySem.W.nsIn K mainGlobals "all" = some none)
    (n_int : PySem.W.nsIn K mainGlobals "int" = some none)
    (n_isinstance : PySem.W.nsIn K mainGlobals "isinstance" = some none)
    (n_len : PySem.W.nsIn K mainGlobals "len" = some none)
    (n_range : PySem.W.nsIn K mainGlobals "range" = some none)
    (n_repr : PySem.W.nsIn K mainGlobals "repr" = some none)
    (gBadBook : PySem.W.nsIn K mainGlobals "BadBook" = some (some (.ref xBadBook)))
    (kBadBook : PySem.W.keepIn K (.ref xBadBook) = true)
    (bBadBook : PySem.W.subIn K (.ref xBadBook) (.type "BaseException") = some true)
    (tBadBook : PySem.W.typeIn K (.ref xBadBook) = some (.type "type"))
    (gBadClerk : PySem.W.nsIn K mainGlobals "BadClerk" = some (some (.ref xBadClerk)))
    (kBadClerk : PySem.W.keepIn K (.ref xBadClerk) = true)
    (bBadClerk : PySem.W.subIn K (.ref xBadClerk) (.type "BaseException") = some true)
    (tBadClerk : PySem.W.typeIn K (.ref xBadClerk) = some (.type "type"))
    (gBadParty : PySem.W.nsIn K mainGlobals "BadParty" = some (some (.ref xBadParty)))
    (kBadParty : PySem.W.keepIn K (.ref xBadParty) = true)
    (bBadParty : PySem.W.subIn K (.ref xBadParty) (.type "BaseException") = some true)
    (tBadParty : PySem.W.typeIn K (.ref xBadParty) = some (.type "type"))
    (gBadText : PySem.W.nsIn K mainGlobals "BadText" = some (some (.ref xBadText)))
    (kBadText : PySem.W.keepIn K (.ref xBadText) = true)
    (bBadText : PySem.W.subIn K (.ref xBadText) (.type "BaseException") = some true)
    (tBadText : PySem.W.typeIn K (.ref xBadText) = some (.type "type"))
    (gElderError : PySem.W.nsIn K mainGlobals "ElderError" = some (some (.ref xElderError)))
    (kElderError : PySem.W.keepIn K (.ref xElderError) = true)
    (bElderError : PySem.W.subIn K (.ref xElderError) (.type "BaseException") = some true)
    (tElderError : PySem.W.typeIn K (.ref xElderError) = some (.type "type"))
    (gNoClaim : PySem.W.nsIn K mainGlobals "NoClaim" = some (some (.ref xNoClaim)))
    (qNoClaim : PySem.W.excIn K xNoClaim [.type "ValueError", .type "Exception", .type "BaseException", .type "object"] "ValueError.__new__" = true)
    (kNoClaim : PySem.W.keepIn K (.ref xNoClaim) = true)
    (bNoClaim : PySem.W.subIn K (.ref xNoClaim) (.type "BaseException") = some true)
    (tNoClaim : PySem.W.typeIn K (.ref xNoClaim) = some (.type "type"))
    (gNoClock : PySem.W.nsIn K mainGlobals "NoClock" = some (some (.ref xNoClock)))
    (qNoClock : PySem.W.excIn K xNoClock [.type "ValueError", .type "Exception", .type "BaseException", .type "object"] "ValueError.__new__" = true)
    (kNoClock : PySem.W.keepIn K (.ref xNoClock) = true)
    (bNoClock : PySem.W.subIn K (.ref xNoClock) (.type "BaseException") = some true)
    (tNoClock : PySem.W.typeIn K (.ref xNoClock) = some (.type "type"))
    (gNoDemand : PySem.W.nsIn K mainGlobals "NoDemand" = some (some (.ref xNoDemand)))
    (qNoDemand : PySem.W.excIn K xNoDemand [.type "ValueError", .type "Exception", .type "BaseException", .type "object"] "ValueError.__new__" = true)
    (kNoDemand : PySem.W.keepIn K (.ref xNoDemand) = true)
    (bNoDemand : PySem.W.subIn K (.ref xNoDemand) (.type "BaseException") = some true)
    (tNoDemand : PySem.W.typeIn K (.ref xNoDemand) = some (.type "type"))
    (gNoFolk : PySem.W.nsIn K mainGlobals "NoFolk" = some (some (.ref xNoFolk)))
    (qNoFolk : PySem.W.excIn K xNoFolk [.type "ValueError", .type "Exception", .type "BaseException", .type "object"] "ValueError.__new__" = true)
    (kNoFolk : PySem.W.keepIn K (.ref xNoFolk) = true)
    (bNoFolk : PySem.W.subIn K (.ref xNoFolk) (.type "BaseException") = some true)
    (tNoFolk : PySem.W.typeIn K (.ref xNoFolk) = some (.type "type"))
    (gNoFractions : PySem.W.nsIn K mainGlobals "NoFractions" = some (some (.ref xNoFractions)))
    (qNoFractions : PySem.W.excIn K xNoFractions [.type "ValueError", .type "Exception", .type "BaseException", .type "object"] "ValueError.__new__" = true)
    (kNoFractions : PySem.W.keepIn K (.ref xNoFractions) = true)
    (bNoFractions : PySem.W.subIn K (.ref xNoFractions) (.type "BaseException") = some true)
    (tNoFractions : PySem.W.typeIn K (.ref xNoFractions) = some (.type "type"))
    (gNoGrade : PySem.W.nsIn K mainGlobals "NoGrade" = some (some (.ref xNoGrade)))
    (qNoGrade : PySem.W.excIn K xNoGrade [.type "ValueError", .type "Exception", .type "BaseException", .type "object"] "ValueError.__new__" = true)
    (kNoGrade : PySem.W.keepIn K (.ref xNoGrade) = true)
    (bNoGrade : PySem.W.subIn K (.ref xNoGrade) (.type "BaseException") = some true)
    (tNoGrade : PySem.W.typeIn K (.ref xNoGrade) = some (.type "type"))
    (gNoInstance : PySem.W.nsIn K mainGlobals "NoInstance" = some (some (.ref xNoInstance)))
    (qNoInstance : PySem.W.excIn K xNoInstance [.type "ValueError", .type "Exception", .type "BaseException", .type "object"] "ValueError.__new__" = true)
    (kNoInstance : PySem.W.keepIn K (.ref xNoInstance) = true)
    (bNoInstance : PySem.W.subIn K (.ref xNoInstance) (.type "BaseException") = some true)
    (tNoInstance : PySem.W.typeIn K (.ref xNoInstance) = some (.type "type"))
    (gNoLabels : PySem.W.nsIn K mainGlobals "NoLabels" = some (some (.ref xNoLabels)))
    (qNoLabels : PySem.W.excIn K xNoLabels [.type "ValueError", .type "Exception", .type "BaseException", .type "object"] "ValueError.__new__" = true)
    (kNoLabels : PySem.W.keepIn K (.ref xNoLabels) = true)
    (bNoLabels : PySem.W.subIn K (.ref xNoLabels) (.type "BaseException") = some true)
    (tNoLabels : PySem.W.typeIn K (.ref xNoLabels) = some (.type "type"))
    (gNoLine : PySem.W.nsIn K mainGlobals "NoLine" = some (some (.ref xNoLine)))
    (qNoLine : PySem.W.excIn K xNoLine [.type "ValueError", .type "Exception", .type "BaseException", .type "object"] "ValueError.__new__" = true)
    (kNoLine : PySem.W.keepIn K (.ref xNoLine) = true)
    (bNoLine : PySem.W.subIn K (.ref xNoLine) (.type "BaseException") = some true)
    (tNoLine : PySem.W.typeIn K (.ref xNoLine) = some (.type "type"))
    (gNoName : PySem.W.nsIn K mainGlobals "NoName" = some (some (.ref xNoName)))
    (qNoName : PySem.W.excIn K xNoName [.type "ValueError", .type "Exception", .type "BaseException", .type "object"] "ValueError.__new__" = true)
    (kNoName : PySem.W.keepIn K (.ref xNoName) = true)
    (bNoName : PySem.W.subIn K (.ref xNoName) (.type "BaseException") = some true)
    (tNoName : PySem.W.typeIn K (.ref xNoName) = some (.type "type"))
    (gNoNames : PySem.W.nsIn K mainGlobals "NoNames" = some (some (.ref xNoNames)))
    (qNoNames : PySem.W.excIn K xNoNames [.type "ValueError", .type "Exception", .type "BaseException", .type "object"] "ValueError.__new__" = true)
    (kNoNames : PySem.W.keepIn K (.ref xNoNames) = true)
    (bNoNames : PySem.W.subIn K (.ref xNoNames) (.type "BaseException") = some true)
    (tNoNames : PySem.W.typeIn K (.ref xNoNames) = some (.type "type"))
    (gNoNumber : PySem.W.nsIn K mainGlobals "NoNumber" = some (some (.ref xNoNumber)))
    (qNoNumber : PySem.W.excIn K xNoNumber [.type "ValueError", .type "Exception", .type "BaseException", .type "object"] "ValueError.__new__" = true)
    (kNoNumber : PySem.W.keepIn K (.ref xNoNumber) = true)
    (bNoNumber : PySem.W.subIn K (.ref xNoNumber) (.type "BaseException") = some true)
    (tNoNumber : PySem.W.typeIn K (.ref xNoNumber) = some (.type "type"))
    (gNoNumbers : PySem.W.nsIn K mainGlobals "NoNumbers" = some (some (.ref xNoNumbers)))
    (qNoNumbers : PySem.W.excIn K xNoNumbers [.type "ValueError", .type "Exception", .type "BaseException", .type "object"] "ValueError.__new__" = true)
    (kNoNumbers : PySem.W.keepIn K (.ref xNoNumbers) = true)
    (bNoNumbers : PySem.W.subIn K (.ref xNoNumbers) (.type "BaseException") = some true)
    (tNoNumbers : PySem.W.typeIn K (.ref xNoNumbers) = some (.type "type"))
    (gNoPlace : PySem.W.nsIn K mainGlobals "NoPlace" = some (some (.ref xNoPlace)))
    (qNoPlace : PySem.W.excIn K xNoPlace [.type "ValueError", .type "Exception", .type "BaseException", .type "object"] "ValueError.__new__" = true)
    (kNoPlace : PySem.W.keepIn K (.ref xNoPlace) = true)
    (bNoPlace : PySem.W.subIn K (.ref xNoPlace) (.type "BaseException") = some true)
    (tNoPlace : PySem.W.typeIn K (.ref xNoPlace) = some (.type "type"))
    (gNoRow : PySem.W.nsIn K mainGlobals "NoRow" = some (some (.ref xNoRow)))
    (qNoRow : PySem.W.excIn K xNoRow [.type "ValueError", .type "Exception", .type "BaseException", .type "object"] "ValueError.__new__" = true)
    (kNoRow : PySem.W.keepIn K (.ref xNoRow) = true)
    (bNoRow : PySem.W.subIn K (.ref xNoRow) (.type "BaseException") = some true)
    (tNoRow : PySem.W.typeIn K (.ref xNoRow) = some (.type "type"))
    (gNoRule : PySem.W.nsIn K mainGlobals "NoRule" = some (some (.ref xNoRule)))
    (qNoRule : PySem.W.excIn K xNoRule [.type "ValueError", .type "Exception", .type "BaseException", .type "object"] "ValueError.__new__" = true)
    (kNoRule : PySem.W.keepIn K (.ref xNoRule) = true)
    (bNoRule : PySem.W.subIn K (.ref xNoRule) (.type "BaseException") = some true)
    (tNoRule : PySem.W.typeIn K (.ref xNoRule) = some (.type "type"))
    (gNoWeights : PySem.W.nsIn K mainGlobals "NoWeights" = some (some (.ref xNoWeights)))
    (qNoWeights : PySem.W.excIn K xNoWeights [.type "ValueError", .type "Exception", .type "BaseException", .type "object"] "ValueError.__new__" = true)
    (kNoWeights : PySem.W.keepIn K (.ref xNoWeights) = true)
    (bNoWeights : PySem.W.subIn K (.ref xNoWeights) (.type "BaseException") = some true)
    (tNoWeights : PySem.W.typeIn K (.ref xNoWeights) = some (.type "type"))
    (gNoWish : PySem.W.nsIn K mainGlobals "NoWish" = some (some (.ref xNoWish)))
    (qNoWish : PySem.W.excIn K xNoWish [.type "ValueError", .type "Exception", .type "BaseException", .type "object"] "ValueError.__new__" = true)
    (kNoWish : PySem.W.keepIn K (.ref xNoWish) = true)
    (bNoWish : PySem.W.subIn K (.ref xNoWish) (.type "BaseException") = some true)
    (tNoWish : PySem.W.typeIn K (.ref xNoWish) = some (.type "type"))
    (gNoWorld : PySem.W.nsIn K mainGlobals "NoWorld" = some (some (.ref xNoWorld)))
    (qNoWorld : PySem.W.excIn K xNoWorld [.type "ValueError", .type "Exception", .type "BaseException", .type "object"] "ValueError.__new__" = true)
    (kNoWorld : PySem.W.keepIn K (.ref xNoWorld) = true)
    (bNoWorld : PySem.W.subIn K (.ref xNoWorld) (.type "BaseException") = some true)
    (tNoWorld : PySem.W.typeIn K (.ref xNoWorld) = some (.type "type"))
    (gNotKept : PySem.W.nsIn K mainGlobals "NotKept" = some (some (.ref xNotKept)))
    (kNotKept : PySem.W.keepIn K (.ref xNotKept) = true)
    (bNotKept : PySem.W.subIn K (.ref xNotKept) (.type "BaseException") = some true)
    (tNotKept : PySem.W.typeIn K (.ref xNotKept) = some (.type "type"))
    (gNotRight : PySem.W.nsIn K mainGlobals "NotRight" = some (some (.ref xNotRight)))
    (qNotRight : PySem.W.excIn K xNotRight [.type "ValueError", .type "Exception", .type "BaseException", .type "object"] "ValueError.__new__" = true)
    (kNotRight : PySem.W.keepIn K (.ref xNotRight) = true)
    (bNotRight : PySem.W.subIn K (.ref xNotRight) (.type "BaseException") = some true)
    (tNotRight : PySem.W.typeIn K (.ref xNotRight) = some (.type "type"))
    (gNotServed : PySem.W.nsIn K mainGlobals "NotServed" = some (some (.ref xNotServed)))
    (qNotServed : PySem.W.excIn K xNotServed [.type "ValueError", .type "Exception", .type "BaseException", .type "object"] "ValueError.__new__" = true)
    (kNotServed : PySem.W.keepIn K (.ref xNotServed) = true)
    (bNotServed : PySem.W.subIn K (.ref xNotServed) (.type "BaseException") = some true)
    (tNotServed : PySem.W.typeIn K (.ref xNotServed) = some (.type "type"))
    (gNothingDone : PySem.W.nsIn K mainGlobals "NothingDone" = some (some (.ref xNothingDone)))
    (qNothingDone : PySem.W.excIn K xNothingDone [.type "ValueError", .type "Exception", .type "BaseException", .type "object"] "ValueError.__new__" = true)
    (kNothingDone : PySem.W.keepIn K (.ref xNothingDone) = true)
    (bNothingDone : PySem.W.subIn K (.ref xNothingDone) (.type "BaseException") = some true)
    (tNothingDone : PySem.W.typeIn K (.ref xNothingDone) = some (.type "type"))
    (gOtherBook : PySem.W.nsIn K mainGlobals "OtherBook" = some (some (.ref xOtherBook)))
    (qOtherBook : PySem.W.excIn K xOtherBook [.type "ValueError", .type "Exception", .type "BaseException", .type "object"] "ValueError.__new__" = true)
    (kOtherBook : PySem.W.keepIn K (.ref xOtherBook) = true)
    (bOtherBook : PySem.W.subIn K (.ref xOtherBook) (.type "BaseException") = some true)
    (tOtherBook : PySem.W.typeIn K (.ref xOtherBook) = some (.type "type"))
    (gTooLarge : PySem.W.nsIn K mainGlobals "TooLarge" = some (some (.ref xTooLarge)))
    (kTooLarge : PySem.W.keepIn K (.ref xTooLarge) = true)
    (bTooLarge : PySem.W.subIn K (.ref xTooLarge) (.type "BaseException") = some true)
    (tTooLarge : PySem.W.typeIn K (.ref xTooLarge) = some (.type "type"))
    (gTooMany : PySem.W.nsIn K mainGlobals "TooMany" = some (some (.ref xTooMany)))
    (kTooMany : PySem.W.keepIn K (.ref xTooMany) = true)
    (bTooMany : PySem.W.subIn K (.ref xTooMany) (.type "BaseException") = some true)
    (tTooMany : PySem.W.typeIn K (.ref xTooMany) = some (.type "type"))
    (iBadBook : PySem.W.isClsIn K xBadBook = true)
    (sBadBook_BadBook : PySem.W.subIn K (.ref xBadBook) (.ref xBadBook) = some true)
    (sBadClerk_BadBook : PySem.W.subIn K (.ref xBadClerk) (.ref xBadBook) = some false)
    (sBadParty_BadBook : PySem.W.subIn K (.ref xBadParty) (.ref xBadBook) = some false)
    (sBadText_BadBook : PySem.W.subIn K (.ref xBadText) (.ref xBadBook) = some false)
    (sElderError_BadBook : PySem.W.subIn K (.ref xElderError) (.ref xBadBook) = some false)
    (sNoClaim_BadBook : PySem.W.subIn K (.ref xNoClaim) (.ref xBadBook) = some false)
    (sNoClock_BadBook : PySem.W.subIn K (.ref xNoClock) (.ref xBadBook) = some false)
    (sNoDemand_BadBook : PySem.W.subIn K (.ref xNoDemand) (.ref xBadBook) = some false)
    (sNoFolk_BadBook : PySem.W.subIn K (.ref xNoFolk) (.ref xBadBook) = some false)
    (sNoFractions_BadBook : PySem.W.subIn K (.ref xNoFractions) (.ref xBadBook) = some false)
    (sNoGrade_BadBook : PySem.W.subIn K (.ref xNoGrade) (.ref xBadBook) = some false)
    (sNoInstance_BadBook : PySem.W.subIn K (.ref xNoInstance) (.ref xBadBook) = some false)
    (sNoLabels_BadBook : PySem.W.subIn K (.ref xNoLabels) (.ref xBadBook) = some false)
    (sNoLine_BadBook : PySem.W.subIn K (.ref xNoLine) (.ref xBadBook) = some false)
    (sNoName_BadBook : PySem.W.subIn K (.ref xNoName) (.ref xBadBook) = some false)
    (sNoNames_BadBook : PySem.W.subIn K (.ref xNoNames) (.ref xBadBook) = some false)
    (sNoNumber_BadBook : PySem.W.subIn K (.ref xNoNumber) (.ref xBadBook) = some false)
    (sNoNumbers_BadBook : PySem.W.subIn K (.ref xNoNumbers) (.ref xBadBook) = some false)
    (sNoPlace_BadBook : PySem.W.subIn K (.ref xNoPlace) (.ref xBadBook) = some false)
    (sNoRow_BadBook : PySem.W.subIn K (.ref xNoRow) (.ref xBadBook) = some false)
    (sNoRule_BadBook : PySem.W.subIn K (.ref xNoRule) (.ref xBadBook) = some false)
    (sNoWeights_BadBook : PySem.W.subIn K (.ref xNoWeights) (.ref xBadBook) = some false)
    (sNoWish_BadBook : PySem.W.subIn K (.ref xNoWish) (.ref xBadBook) = some false)
    (sNoWorld_BadBook : PySem.W.subIn K (.ref xNoWorld) (.ref xBadBook) = some false)
    (sNotKept_BadBook : PySem.W.subIn K (.ref xNotKept) (.ref xBadBook) = some false)
    (sNotRight_BadBook : PySem.W.subIn K (.ref xNotRight) (.ref xBadBook) = some false)
    (sNotServed_BadBook : PySem.W.subIn K (.ref xNotServed) (.ref xBadBook) = some false)
    (sNothingDone_BadBook : PySem.W.subIn K (.ref xNothingDone) (.ref xBadBook) = some false)
    (sOtherBook_BadBook : PySem.W.subIn K (.ref xOtherBook) (.ref xBadBook) = some false)
    (sTooLarge_BadBook : PySem.W.subIn K (.ref xTooLarge) (.ref xBadBook) = some false)
    (sTooMany_BadBook : PySem.W.subIn K (.ref xTooMany) (.ref xBadBook) = some false)
    (iElderError : PySem.W.isClsIn K xElderError = true)
    (sBadBook_ElderError : PySem.W.subIn K (.ref xBadBook) (.ref xElderError) = some true)
    (sBadClerk_ElderError : PySem.W.subIn K (.ref xBadClerk) (.ref xElderError) = some true)
    (sBadParty_ElderError : PySem.W.subIn K (.ref xBadParty) (.ref xElderError) = some true)
    (sBadText_ElderError : PySem.W.subIn K (.ref xBadText) (.ref xElderError) = some true)
    (sElderError_ElderError : PySem.W.subIn K (.ref xElderError) (.ref xElderError) = some true)
    (sNoClaim_ElderError : PySem.W.subIn K (.ref xNoClaim) (.ref xElderError) = some true)
    (sNoClock_ElderError : PySem.W.subIn K (.ref xNoClock) (.ref xElderError) = some true)
    (sNoDemand_ElderError : PySem.W.subIn K (.ref xNoDemand) (.ref xElderError) = some true)
    (sNoFolk_ElderError : PySem.W.subIn K (.ref xNoFolk) (.ref xElderError) = some true)
    (sNoFractions_ElderError : PySem.W.subIn K (.ref xNoFractions) (.ref xElderError) = some true)
    (sNoGrade_ElderError : PySem.W.subIn K (.ref xNoGrade) (.ref xElderError) = some true)
    (sNoInstance_ElderError : PySem.W.subIn K (.ref xNoInstance) (.ref xElderError) = some true)
    (sNoLabels_ElderError : PySem.W.subIn K (.ref xNoLabels) (.ref xElderError) = some true)
    (sNoLine_ElderError : PySem.W.subIn K (.ref xNoLine) (.ref xElderError) = some true)
    (sNoName_ElderError : PySem.W.subIn K (.ref xNoName) (.ref xElderError) = some true)
    (sNoNames_ElderError : PySem.W.subIn K (.ref xNoNames) (.ref xElderError) = some true)
    (sNoNumber_ElderError : PySem.W.subIn K (.ref xNoNumber) (.ref xElderError) = some true)
    (sNoNumbers_ElderError : PySem.W.subIn K (.ref xNoNumbers) (.ref xElderError) = some true)
    (sNoPlace_ElderError : PySem.W.subIn K (.ref xNoPlace) (.ref xElderError) = some true)
    (sNoRow_ElderError : PySem.W.subIn K (.ref xNoRow) (.ref xElderError) = some true)
    (sNoRule_ElderError : PySem.W.subIn K (.ref xNoRule) (.ref xElderError) = some true)
    (sNoWeights_ElderError : PySem.W.subIn K (.ref xNoWeights) (.ref xElderError) = some true)
    (sNoWish_ElderError : PySem.W.subIn K (.ref xNoWish) (.ref xElderError) = some true)
    (sNoWorld_ElderError : PySem.W.subIn K (.ref xNoWorld) (.ref xElderError) = some true)
    (sNotKept_ElderError : PySem.W.subIn K (.ref xNotKept) (.ref xElderError) = some true)
    (sNotRight_ElderError : PySem.W.subIn K (.ref xNotRight) (.ref xElderError) = some true)
    (sNotServed_ElderError : PySem.W.subIn K (.ref xNotServed) (.ref xElderError) = some true)
    (sNothingDone_ElderError : PySem.W.subIn K (.ref xNothingDone) (.ref xElderError) = some true)
    (sOtherBook_ElderError : PySem.W.subIn K (.ref xOtherBook) (.ref xElderError) = some true)
    (sTooLarge_ElderError : PySem.W.subIn K (.ref xTooLarge) (.ref xElderError) = some true)
    (sTooMany_ElderError : PySem.W.subIn K (.ref xTooMany) (.ref xElderError) = some true)
    (exb : exB K (usl xBadBook xBadClerk xBadParty xBadText xNoClaim xNoClock xNoDemand xNoFolk xNoFractions xNoGrade xNoInstance xNoLabels xNoLine xNoName xNoNames xNoNumber xNoNumbers xNoPlace xNoRow xNoRule xNoWeights xNoWish xNoWorld xNotKept xNotRight xNotServed xNothingDone xOtherBook xTooLarge xTooMany) = true)
    (sg : PySem.W.specialIn K (.builtin "object.__class__") "__get__" = some (some (.builtin "getset_descriptor.__get__")))
    (st : PySem.W.takesIn K (.builtin "object.__class__") = some true)
    (ixBadBook : ixB K (usl xBadBook xBadClerk xBadParty xBadText xNoClaim xNoClock xNoDemand xNoFolk xNoFractions xNoGrade xNoInstance xNoLabels xNoLine xNoName xNoNames xNoNumber xNoNumbers xNoPlace xNoRow xNoRule xNoWeights xNoWish xNoWorld xNotKept xNotRight xNotServed xNothingDone xOtherBook xTooLarge xTooMany) false "BadBook" (.ref xBadBook) = true)
    (ixBadClerk : ixB K (usl xBadBook xBadClerk xBadParty xBadText xNoClaim xNoClock xNoDemand xNoFolk xNoFractions xNoGrade xNoInstance xNoLabels xNoLine xNoName xNoNames xNoNumber xNoNumbers xNoPlace xNoRow xNoRule xNoWeights xNoWish xNoWorld xNotKept xNotRight xNotServed xNothingDone xOtherBook xTooLarge xTooMany) false "BadClerk" (.ref xBadClerk) = true)
    (ixBadParty : ixB K (usl xBadBook xBadClerk xBadParty xBadText xNoClaim xNoClock xNoDemand xNoFolk xNoFractions xNoGrade xNoInstance xNoLabels xNoLine xNoName xNoNames xNoNumber xNoNumbers xNoPlace xNoRow xNoRule xNoWeights xNoWish xNoWorld xNotKept xNotRight xNotServed xNothingDone xOtherBook xTooLarge xTooMany) false "BadParty" (.ref xBadParty) = true)
    (ixBadText : ixB K (usl xBadBook xBadClerk xBadParty xBadText xNoClaim xNoClock xNoDemand xNoFolk xNoFractions xNoGrade xNoInstance xNoLabels xNoLine xNoName xNoNames xNoNumber xNoNumbers xNoPlace xNoRow xNoRule xNoWeights xNoWish xNoWorld xNotKept xNotRight xNotServed xNothingDone xOtherBook xTooLarge xTooMany) false "BadText" (.ref xBadText) = true)
    (ixElderError : ixB K (usl xBadBook xBadClerk xBadParty xBadText xNoClaim xNoClock xNoDemand xNoFolk xNoFractions xNoGrade xNoInstance xNoLabels xNoLine xNoName xNoNames xNoNumber xNoNumbers xNoPlace xNoRow xNoRule xNoWeights xNoWish xNoWorld xNotKept xNotRight xNotServed xNothingDone xOtherBook xTooLarge xTooMany) true "ElderError" (.ref xElderError) = true)
    (ixNoClaim : ixB K (usl xBadBook xBadClerk xBadParty xBadText xNoClaim xNoClock xNoDemand xNoFolk xNoFractions xNoGrade xNoInstance xNoLabels xNoLine xNoName xNoNames xNoNumber xNoNumbers xNoPlace xNoRow xNoRule xNoWeights xNoWish xNoWorld xNotKept xNotRight xNotServed xNothingDone xOtherBook xTooLarge xTooMany) false "NoClaim" (.ref xNoClaim) = true)
    (ixNoClock : ixB K (usl xBadBook xBadClerk xBadParty xBadText xNoClaim xNoClock xNoDemand xNoFolk xNoFractions xNoGrade xNoInstance xNoLabels xNoLine xNoName xNoNames xNoNumber xNoNumbers xNoPlace xNoRow xNoRule xNoWeights xNoWish xNoWorld xNotKept xNotRight xNotServed xNothingDone xOtherBook xTooLarge xTooMany) false "NoClock" (.ref xNoClock) = true)
    (ixNoDemand : ixB K (usl xBadBook xBadClerk xBadParty xBadText xNoClaim xNoClock xNoDemand xNoFolk xNoFractions xNoGrade xNoInstance xNoLabels xNoLine xNoName xNoNames xNoNumber xNoNumbers xNoPlace xNoRow xNoRule xNoWeights xNoWish xNoWorld xNotKept xNotRight xNotServed xNothingDone xOtherBook xTooLarge xTooMany) false "NoDemand" (.ref xNoDemand) = true)
    (ixNoFolk : ixB K (usl xBadBook xBadClerk xBadParty xBadText xNoClaim xNoClock xNoDemand xNoFolk xNoFractions xNoGrade xNoInstance xNoLabels xNoLine xNoName xNoNames xNoNumber xNoNumbers xNoPlace xNoRow xNoRule xNoWeights xNoWish xNoWorld xNotKept xNotRight xNotServed xNothingDone xOtherBook xTooLarge xTooMany) false "NoFolk" (.ref xNoFolk) = true)
    (ixNoFractions : ixB K (usl xBadBook xBadClerk xBadParty xBadText xNoClaim xNoClock xNoDemand xNoFolk xNoFractions xNoGrade xNoInstance xNoLabels xNoLine xNoName xNoNames xNoNumber xNoNumbers xNoPlace xNoRow xNoRule xNoWeights xNoWish xNoWorld xNotKept xNotRight xNotServed xNothingDone xOtherBook xTooLarge xTooMany) false "NoFractions" (.ref xNoFractions) = true)
    (ixNoGrade : ixB K (usl xBadBook xBadClerk xBadParty xBadText xNoClaim xNoClock xNoDemand xNoFolk xNoFractions xNoGrade xNoInstance xNoLabels xNoLine xNoName xNoNames xNoNumber xNoNumbers xNoPlace xNoRow xNoRule xNoWeights xNoWish xNoWorld xNotKept xNotRight xNotServed xNothingDone xOtherBook xTooLarge xTooMany) false "NoGrade" (.ref xNoGrade) = true)
    (ixNoInstance : ixB K (usl xBadBook xBadClerk xBadParty xBadText xNoClaim xNoClock xNoDemand xNoFolk xNoFractions xNoGrade xNoInstance xNoLabels xNoLine xNoName xNoNames xNoNumber xNoNumbers xNoPlace xNoRow xNoRule xNoWeights xNoWish xNoWorld xNotKept xNotRight xNotServed xNothingDone xOtherBook xTooLarge xTooMany) false "NoInstance" (.ref xNoInstance) = true)
    (ixNoLabels : ixB K (usl xBadBook xBadClerk xBadParty xBadText xNoClaim xNoClock xNoDemand xNoFolk xNoFractions xNoGrade xNoInstance xNoLabels xNoLine xNoName xNoNames xNoNumber xNoNumbers xNoPlace xNoRow xNoRule xNoWeights xNoWish xNoWorld xNotKept xNotRight xNotServed xNothingDone xOtherBook xTooLarge xTooMany) false "NoLabels" (.ref xNoLabels) = true)
    (ixNoLine : ixB K (usl xBadBook xBadClerk xBadParty xBadText xNoClaim xNoClock xNoDemand xNoFolk xNoFractions xNoGrade xNoInstance xNoLabels xNoLine xNoName xNoNames xNoNumber xNoNumbers xNoPlace xNoRow xNoRule xNoWeights xNoWish xNoWorld xNotKept xNotRight xNotServed xNothingDone xOtherBook xTooLarge xTooMany) false "NoLine" (.ref xNoLine) = true)
    (ixNoName : ixB K (usl xBadBook xBadClerk xBadParty xBadText xNoClaim xNoClock xNoDemand xNoFolk xNoFractions xNoGrade xNoInstance xNoLabels xNoLine xNoName xNoNames xNoNumber xNoNumbers xNoPlace xNoRow xNoRule xNoWeights xNoWish xNoWorld xNotKept xNotRight xNotServed xNothingDone xOtherBook xTooLarge xTooMany) false "NoName" (.ref xNoName) = true)
    (ixNoNames : ixB K (usl xBadBook xBadClerk xBadParty xBadText xNoClaim xNoClock xNoDemand xNoFolk xNoFractions xNoGrade xNoInstance xNoLabels xNoLine xNoName xNoNames xNoNumber xNoNumbers xNoPlace xNoRow xNoRule xNoWeights xNoWish xNoWorld xNotKept xNotRight xNotServed xNothingDone xOtherBook xTooLarge xTooMany) false "NoNames" (.ref xNoNames) = true)
    (ixNoNumber : ixB K (usl xBadBook xBadClerk xBadParty xBadText xNoClaim xNoClock xNoDemand xNoFolk xNoFractions xNoGrade xNoInstance xNoLabels xNoLine xNoName xNoNames xNoNumber xNoNumbers xNoPlace xNoRow xNoRule xNoWeights xNoWish xNoWorld xNotKept xNotRight xNotServed xNothingDone xOtherBook xTooLarge xTooMany) false "NoNumber" (.ref xNoNumber) = true)
    (ixNoNumbers : ixB K (usl xBadBook xBadClerk xBadParty xBadText xNoClaim xNoClock xNoDemand xNoFolk xNoFractions xNoGrade xNoInstance xNoLabels xNoLine xNoName xNoNames xNoNumber xNoNumbers xNoPlace xNoRow xNoRule xNoWeights xNoWish xNoWorld xNotKept xNotRight xNotServed xNothingDone xOtherBook xTooLarge xTooMany) false "NoNumbers" (.ref xNoNumbers) = true)
    (ixNoPlace : ixB K (usl xBadBook xBadClerk xBadParty xBadText xNoClaim xNoClock xNoDemand xNoFolk xNoFractions xNoGrade xNoInstance xNoLabels xNoLine xNoName xNoNames xNoNumber xNoNumbers xNoPlace xNoRow xNoRule xNoWeights xNoWish xNoWorld xNotKept xNotRight xNotServed xNothingDone xOtherBook xTooLarge xTooMany) false "NoPlace" (.ref xNoPlace) = true)
    (ixNoRow : ixB K (usl xBadBook xBadClerk xBadParty xBadText xNoClaim xNoClock xNoDemand xNoFolk xNoFractions xNoGrade xNoInstance xNoLabels xNoLine xNoName xNoNames xNoNumber xNoNumbers xNoPlace xNoRow xNoRule xNoWeights xNoWish xNoWorld xNotKept xNotRight xNotServed xNothingDone xOtherBook xTooLarge xTooMany) false "NoRow" (.ref xNoRow) = true)
    (ixNoRule : ixB K (usl xBadBook xBadClerk xBadParty xBadText xNoClaim xNoClock xNoDemand xNoFolk xNoFractions xNoGrade xNoInstance xNoLabels xNoLine xNoName xNoNames xNoNumber xNoNumbers xNoPlace xNoRow xNoRule xNoWeights xNoWish xNoWorld xNotKept xNotRight xNotServed xNothingDone xOtherBook xTooLarge xTooMany) false "NoRule" (.ref xNoRule) = true)
    (ixNoWeights : ixB K (usl xBadBook xBadClerk xBadParty xBadText xNoClaim xNoClock xNoDemand xNoFolk xNoFractions xNoGrade xNoInstance xNoLabels xNoLine xNoName xNoNames xNoNumber xNoNumbers xNoPlace xNoRow xNoRule xNoWeights xNoWish xNoWorld xNotKept xNotRight xNotServed xNothingDone xOtherBook xTooLarge xTooMany) false "NoWeights" (.ref xNoWeights) = true)
    (ixNoWish : ixB K (usl xBadBook xBadClerk xBadParty xBadText xNoClaim xNoClock xNoDemand xNoFolk xNoFractions xNoGrade xNoInstance xNoLabels xNoLine xNoName xNoNames xNoNumber xNoNumbers xNoPlace xNoRow xNoRule xNoWeights xNoWish xNoWorld xNotKept xNotRight xNotServed xNothingDone xOtherBook xTooLarge xTooMany) false "NoWish" (.ref xNoWish) = true)
    (ixNoWorld : ixB K (usl xBadBook xBadClerk xBadParty xBadText xNoClaim xNoClock xNoDemand xNoFolk xNoFractions xNoGrade xNoInstance xNoLabels xNoLine xNoName xNoNames xNoNumber xNoNumbers xNoPlace xNoRow xNoRule xNoWeights xNoWish xNoWorld xNotKept xNotRight xNotServed xNothingDone xOtherBook xTooLarge xTooMany) false "NoWorld" (.ref xNoWorld) = true)
    (ixNotKept : ixB K (usl xBadBook xBadClerk xBadParty xBadText xNoClaim xNoClock xNoDemand xNoFolk xNoFractions xNoGrade xNoInstance xNoLabels xNoLine xNoName xNoNames xNoNumber xNoNumbers xNoPlace xNoRow xNoRule xNoWeights xNoWish xNoWorld xNotKept xNotRight xNotServed xNothingDone xOtherBook xTooLarge xTooMany) false "NotKept" (.ref xNotKept) = true)
    (ixNotRight : ixB K (usl xBadBook xBadClerk xBadParty xBadText xNoClaim xNoClock xNoDemand xNoFolk xNoFractions xNoGrade xNoInstance xNoLabels xNoLine xNoName xNoNames xNoNumber xNoNumbers xNoPlace xNoRow xNoRule xNoWeights xNoWish xNoWorld xNotKept xNotRight xNotServed xNothingDone xOtherBook xTooLarge xTooMany) false "NotRight" (.ref xNotRight) = true)
    (ixNotServed : ixB K (usl xBadBook xBadClerk xBadParty xBadText xNoClaim xNoClock xNoDemand xNoFolk xNoFractions xNoGrade xNoInstance xNoLabels xNoLine xNoName xNoNames xNoNumber xNoNumbers xNoPlace xNoRow xNoRule xNoWeights xNoWish xNoWorld xNotKept xNotRight xNotServed xNothingDone xOtherBook xTooLarge xTooMany) false "NotServed" (.ref xNotServed) = true)
    (ixNothingDone : ixB K (usl xBadBook xBadClerk xBadParty xBadText xNoClaim xNoClock xNoDemand xNoFolk xNoFractions xNoGrade xNoInstance xNoLabels xNoLine xNoName xNoNames xNoNumber xNoNumbers xNoPlace xNoRow xNoRule xNoWeights xNoWish xNoWorld xNotKept xNotRight xNotServed xNothingDone xOtherBook xTooLarge xTooMany) false "NothingDone" (.ref xNothingDone) = true)
    (ixOtherBook : ixB K (usl xBadBook xBadClerk xBadParty xBadText xNoClaim xNoClock xNoDemand xNoFolk xNoFractions xNoGrade xNoInstance xNoLabels xNoLine xNoName xNoNames xNoNumber xNoNumbers xNoPlace xNoRow xNoRule xNoWeights xNoWish xNoWorld xNotKept xNotRight xNotServed xNothingDone xOtherBook xTooLarge xTooMany) false "OtherBook" (.ref xOtherBook) = true)
    (ixTooLarge : ixB K (usl xBadBook xBadClerk xBadParty xBadText xNoClaim xNoClock xNoDemand xNoFolk xNoFractions xNoGrade xNoInstance xNoLabels xNoLine xNoName xNoNames xNoNumber xNoNumbers xNoPlace xNoRow xNoRule xNoWeights xNoWish xNoWorld xNotKept xNotRight xNotServed xNothingDone xOtherBook xTooLarge xTooMany) false "TooLarge" (.ref xTooLarge) = true)
    (ixTooMany : ixB K (usl xBadBook xBadClerk xBadParty xBadText xNoClaim xNoClock xNoDemand xNoFolk xNoFractions xNoGrade xNoInstance xNoLabels xNoLine xNoName xNoNames xNoNumber xNoNumbers xNoPlace xNoRow xNoRule xNoWeights xNoWish xNoWorld xNotKept xNotRight xNotServed xNothingDone xOtherBook xTooLarge xTooMany) false "TooMany" (.ref xTooMany) = true)
    (ixValueError : ixB K (usl xBadBook xBadClerk xBadParty xBadText xNoClaim xNoClock xNoDemand xNoFolk xNoFractions xNoGrade xNoInstance xNoLabels xNoLine xNoName xNoNames xNoNumber xNoNumbers xNoPlace xNoRow xNoRule xNoWeights xNoWish xNoWorld xNotKept xNotRight xNotServed xNothingDone xOtherBook xTooLarge xTooMany) true "ValueError" (.type "ValueError") = true)
    (xnNotKept_label : PySem.W.findIn K (.ref xNotKept) "label" = some none)
    (xnBadText_line : PySem.W.findIn K (.ref xBadText) "line" = some none)
    (xnTooLarge_most : PySem.W.findIn K (.ref xTooLarge) "most" = some none)
    (xnTooMany_most : PySem.W.findIn K (.ref xTooMany) "most" = some none)
    (xnBadBook_part : PySem.W.findIn K (.ref xBadBook) "part" = some none)
    (xnBadParty_part : PySem.W.findIn K (.ref xBadParty) "part" = some none)
    (xnBadClerk_part : PySem.W.findIn K (.ref xBadClerk) "part" = some none)
    (supop : PySem.W.nsIn K PySem.cStatics "thirdparty.any" = some none)
    (supng : PySem.W.nsIn K mainGlobals "super" = some none)
    (suptp : (P.main.scope.names.lookup ("super" : Str)).isSome = false)
    (uaBadBook : K.lookup xBadBook = some (excClassObj nmBadBook qBadBook_ xBadBook NBadBook bsBadBook bmBadBook true snBadBook subBadBook abBadBook colBadBook ddBadBook kaBadBook kbBadBook kdBadBook keBadBook kfBadBook "ValueError.__new__"))
    (ubBadBook : PySem.HandSPX.refsVE bmBadBook = true)
    (ucBadBook : PySem.W.findIn K (.ref xBadBook) "__setattr__" = some (some (.builtin "object.__setattr__")))
    (udBadBook : PySem.W.findIn K (.ref xBadBook) "part" = some none)
    (ueBadBook : PySem.W.subIn K (.ref xBadBook) (.type "ValueError") = some true)
    (ufBadBook : PySem.W.mroIn K xBadBook (.ref xBadBook) = some true)
    (ugBadBook : PySem.W.ks_superIn K xBadBook xBadBook "__init__" = some (some (.builtin "ValueError.__init__")))
    (uhBadBook : PySem.W.findIn K (.ref xBadBook) "__init__" = some (some (.ref faBadBook)))
    (uiBadBook : PySem.W.typeIn K (.ref faBadBook) = some (.type "function"))
    (ujBadBook : K.lookup faBadBook = some ⟨ocaBadBook, odaBadBook, .func (PySem.W.ksFn "__init__" "BadBook.__init__" (defArgs (inClass (top 18) 0)) (defBody (inClass (top 18) 0)) (defScope (inClass (top 18) 0)) .none kVBadBook dcBadBook pmBadBook anBadBook (.ref cdaBadBook) ctBadBook ccBadBook), slaBadBook⟩)
    (ukBadBook : PySem.W.codeIn K (.ref cdaBadBook) "BadBook.__init__" = true)
    (ulBadBook : K.lookup cdaBadBook = some ⟨cclBadBook, cddBadBook, .fields vsBadBook, ccsBadBook⟩)
    (umBadBook : vsBadBook[2]? = some (.str fiBadBook tfBadBook))
    (unBadBook : ((P.main.file : Str) == fiBadBook) = true)
    (uoBadBook : K.lookup ccBadBook = some ⟨clBadBook, cldBadBook, .cell (some (.ref xBadBook)), cslBadBook⟩)
    (uaBadClerk : K.lookup xBadClerk = some (excClassObj nmBadClerk qBadClerk_ xBadClerk NBadClerk bsBadClerk bmBadClerk true snBadClerk subBadClerk abBadClerk colBadClerk ddBadClerk kaBadClerk kbBadClerk kdBadClerk keBadClerk kfBadClerk "ValueError.__new__"))
    (ubBadClerk : PySem.HandSPX.refsVE bmBadClerk = true)
    (ucBadClerk : PySem.W.findIn K (.ref xBadClerk) "__setattr__" = some (some (.builtin "object.__setattr__")))
    (udBadClerk : PySem.W.findIn K (.ref xBadClerk) "part" = some none)
    (ueBadClerk : PySem.W.subIn K (.ref xBadClerk) (.type "ValueError") = some true)
    (ufBadClerk : PySem.W.mroIn K xBadClerk (.ref xBadClerk) = some true)
    (ugBadClerk : PySem.W.ks_superIn K xBadClerk xBadClerk "__init__" = some (some (.builtin "ValueError.__init__")))
    (uhBadClerk : PySem.W.findIn K (.ref xBadClerk) "__init__" = some (some (.ref faBadClerk)))
    (uiBadClerk : PySem.W.typeIn K (.ref faBadClerk) = some (.type "function"))
    (ujBadClerk : K.lookup faBadClerk = some ⟨ocaBadClerk, odaBadClerk, .func (PySem.W.ksFn "__init__" "BadClerk.__init__" (defArgs (inClass (top 20) 0)) (defBody (inClass (top 20) 0)) (defScope (inClass (top 20) 0)) .none kVBadClerk dcBadClerk pmBadClerk anBadClerk (.ref cdaBadClerk) ctBadClerk ccBadClerk), slaBadClerk⟩)
    (ukBadClerk : PySem.W.codeIn K (.ref cdaBadClerk) "BadClerk.__init__" = true)
    (ulBadClerk : K.lookup cdaBadClerk = some ⟨cclBadClerk, cddBadClerk, .fields vsBadClerk, ccsBadClerk⟩)
    (umBadClerk : vsBadClerk[2]? = some (.str fiBadClerk tfBadClerk))
    (unBadClerk : ((P.main.file : Str) == fiBadClerk) = true)
    (uoBadClerk : K.lookup ccBadClerk = some ⟨clBadClerk, cldBadClerk, .cell (some (.ref xBadClerk)), cslBadClerk⟩)
    (uaBadParty : K.lookup xBadParty = some (excClassObj nmBadParty qBadParty_ xBadParty NBadParty bsBadParty bmBadParty true snBadParty subBadParty abBadParty colBadParty ddBadParty kaBadParty kbBadParty kdBadParty keBadParty kfBadParty "ValueError.__new__"))
    (ubBadParty : PySem.HandSPX.refsVE bmBadParty = true)
    (ucBadParty : PySem.W.findIn K (.ref xBadParty) "__setattr__" = some (some (.builtin "object.__setattr__")))
    (udBadParty : PySem.W.findIn K (.ref xBadParty) "part" = some none)
    (ueBadParty : PySem.W.subIn K (.ref xBadParty) (.type "ValueError") = some true)
    (ufBadParty : PySem.W.mroIn K xBadParty (.ref xBadParty) = some true)
    (ugBadParty : PySem.W.ks_superIn K xBadParty xBadParty "__init__" = some (some (.builtin "ValueError.__init__")))
    (uhBadParty : PySem.W.findIn K (.ref xBadParty) "__init__" = some (some (.ref faBadParty)))
    (uiBadParty : PySem.W.typeIn K (.ref faBadParty) = some (.type "function"))
    (ujBadParty : K.lookup faBadParty = some ⟨ocaBadParty, odaBadParty, .func (PySem.W.ksFn "__init__" "BadParty.__init__" (defArgs (inClass (top 19) 0)) (defBody (inClass (top 19) 0)) (defScope (inClass (top 19) 0)) .none kVBadParty dcBadParty pmBadParty anBadParty (.ref cdaBadParty) ctBadParty ccBadParty), slaBadParty⟩)
    (ukBadParty : PySem.W.codeIn K (.ref cdaBadParty) "BadParty.__init__" = true)
    (ulBadParty : K.lookup cdaBadParty = some ⟨cclBadParty, cddBadParty, .fields vsBadParty, ccsBadParty⟩)
    (umBadParty : vsBadParty[2]? = some (.str fiBadParty tfBadParty))
    (unBadParty : ((P.main.file : Str) == fiBadParty) = true)
    (uoBadParty : K.lookup ccBadParty = some ⟨clBadParty, cldBadParty, .cell (some (.ref xBadParty)), cslBadParty⟩)
    (uaBadText : K.lookup xBadText = some (excClassObj nmBadText qBadText_ xBadText NBadText bsBadText bmBadText true snBadText subBadText abBadText colBadText ddBadText kaBadText kbBadText kdBadText keBadText kfBadText "ValueError.__new__"))
    (ubBadText : PySem.HandSPX.refsVE bmBadText = true)
    (ucBadText : PySem.W.findIn K (.ref xBadText) "__setattr__" = some (some (.builtin "object.__setattr__")))
    (udBadText : PySem.W.findIn K (.ref xBadText) "line" = some none)
    (ueBadText : PySem.W.subIn K (.ref xBadText) (.type "ValueError") = some true)
    (ufBadText : PySem.W.mroIn K xBadText (.ref xBadText) = some true)
    (ugBadText : PySem.W.ks_superIn K xBadText xBadText "__init__" = some (some (.builtin "ValueError.__init__")))
    (uhBadText : PySem.W.findIn K (.ref xBadText) "__init__" = some (some (.ref faBadText)))
    (uiBadText : PySem.W.typeIn K (.ref faBadText) = some (.type "function"))
    (ujBadText : K.lookup faBadText = some ⟨ocaBadText, odaBadText, .func (PySem.W.ksFn "__init__" "BadText.__init__" (defArgs (inClass (top 23) 0)) (defBody (inClass (top 23) 0)) (defScope (inClass (top 23) 0)) .none kVBadText dcBadText pmBadText anBadText (.ref cdaBadText) ctBadText ccBadText), slaBadText⟩)
    (ukBadText : PySem.W.codeIn K (.ref cdaBadText) "BadText.__init__" = true)
    (ulBadText : K.lookup cdaBadText = some ⟨cclBadText, cddBadText, .fields vsBadText, ccsBadText⟩)
    (umBadText : vsBadText[2]? = some (.str fiBadText tfBadText))
    (unBadText : ((P.main.file : Str) == fiBadText) = true)
    (uoBadText : K.lookup ccBadText = some ⟨clBadText, cldBadText, .cell (some (.ref xBadText)), cslBadText⟩)
    (uaNotKept : K.lookup xNotKept = some (excClassObj nmNotKept qNotKept_ xNotKept NNotKept bsNotKept bmNotKept true snNotKept subNotKept abNotKept colNotKept ddNotKept kaNotKept kbNotKept kdNotKept keNotKept kfNotKept "ValueError.__new__"))
    (ubNotKept : PySem.HandSPX.refsVE bmNotKept = true)
    (ucNotKept : PySem.W.findIn K (.ref xNotKept) "__setattr__" = some (some (.builtin "object.__setattr__")))
    (udNotKept : PySem.W.findIn K (.ref xNotKept) "label" = some none)
    (ueNotKept : PySem.W.subIn K (.ref xNotKept) (.type "ValueError") = some true)
    (ufNotKept : PySem.W.mroIn K xNotKept (.ref xNotKept) = some true)
    (ugNotKept : PySem.W.ks_superIn K xNotKept xNotKept "__init__" = some (some (.builtin "ValueError.__init__")))
    (uhNotKept : PySem.W.findIn K (.ref xNotKept) "__init__" = some (some (.ref faNotKept)))
    (uiNotKept : PySem.W.typeIn K (.ref faNotKept) = some (.type "function"))
    (ujNotKept : K.lookup faNotKept = some ⟨ocaNotKept, odaNotKept, .func (PySem.W.ksFn "__init__" "NotKept.__init__" (defArgs (inClass (top 24) 0)) (defBody (inClass (top 24) 0)) (defScope (inClass (top 24) 0)) .none kVNotKept dcNotKept pmNotKept anNotKept (.ref cdaNotKept) ctNotKept ccNotKept), slaNotKept⟩)
    (ukNotKept : PySem.W.codeIn K (.ref cdaNotKept) "NotKept.__init__" = true)
    (ulNotKept : K.lookup cdaNotKept = some ⟨cclNotKept, cddNotKept, .fields vsNotKept, ccsNotKept⟩)
    (umNotKept : vsNotKept[2]? = some (.str fiNotKept tfNotKept))
    (unNotKept : ((P.main.file : Str) == fiNotKept) = true)
    (uoNotKept : K.lookup ccNotKept = some ⟨clNotKept, cldNotKept, .cell (some (.ref xNotKept)), cslNotKept⟩)
    (uaTooLarge : K.lookup xTooLarge = some (excClassObj nmTooLarge qTooLarge_ xTooLarge NTooLarge bsTooLarge bmTooLarge true snTooLarge subTooLarge abTooLarge colTooLarge ddTooLarge kaTooLarge kbTooLarge kdTooLarge keTooLarge kfTooLarge "ValueError.__new__"))
    (ubTooLarge : PySem.HandSPX.refsVE bmTooLarge = true)
    (ucTooLarge : PySem.W.findIn K (.ref xTooLarge) "__setattr__" = some (some (.builtin "object.__setattr__")))
    (udTooLarge : PySem.W.findIn K (.ref xTooLarge) "most" = some none)
    (ueTooLarge : PySem.W.subIn K (.ref xTooLarge) (.type "ValueError") = some true)
    (ufTooLarge : PySem.W.mroIn K xTooLarge (.ref xTooLarge) = some true)
    (ugTooLarge : PySem.W.ks_superIn K xTooLarge xTooLarge "__init__" = some (some (.builtin "ValueError.__init__")))
    (uhTooLarge : PySem.W.findIn K (.ref xTooLarge) "__init__" = some (some (.ref faTooLarge)))
    (uiTooLarge : PySem.W.typeIn K (.ref faTooLarge) = some (.type "function"))
    (ujTooLarge : K.lookup faTooLarge = some ⟨ocaTooLarge, odaTooLarge, .func (PySem.W.ksFn "__init__" "TooLarge.__init__" (defArgs (inClass (top 21) 0)) (defBody (inClass (top 21) 0)) (defScope (inClass (top 21) 0)) .none kVTooLarge dcTooLarge pmTooLarge anTooLarge (.ref cdaTooLarge) ctTooLarge ccTooLarge), slaTooLarge⟩)
    (ukTooLarge : PySem.W.codeIn K (.ref cdaTooLarge) "TooLarge.__init__" = true)
    (ulTooLarge : K.lookup cdaTooLarge = some ⟨cclTooLarge, cddTooLarge, .fields vsTooLarge, ccsTooLarge⟩)
    (umTooLarge : vsTooLarge[2]? = some (.str fiTooLarge tfTooLarge))
    (unTooLarge : ((P.main.file : Str) == fiTooLarge) = true)
    (uoTooLarge : K.lookup ccTooLarge = some ⟨clTooLarge, cldTooLarge, .cell (some (.ref xTooLarge)), cslTooLarge⟩)
    (uaTooMany : K.lookup xTooMany = some (excClassObj nmTooMany qTooMany_ xTooMany NTooMany bsTooMany bmTooMany true snTooMany subTooMany abTooMany colTooMany ddTooMany kaTooMany kbTooMany kdTooMany keTooMany kfTooMany "ValueError.__new__"))
    (ubTooMany : PySem.HandSPX.refsVE bmTooMany = true)
    (ucTooMany : PySem.W.findIn K (.ref xTooMany) "__setattr__" = some (some (.builtin "object.__setattr__")))
    (udTooMany : PySem.W.findIn K (.ref xTooMany) "most" = some none)
    (ueTooMany : PySem.W.subIn K (.ref xTooMany) (.type "ValueError") = some true)
    (ufTooMany : PySem.W.mroIn K xTooMany (.ref xTooMany) = some true)
    (ugTooMany : PySem.W.ks_superIn K xTooMany xTooMany "__init__" = some (some (.builtin "ValueError.__init__")))
    (uhTooMany : PySem.W.findIn K (.ref xTooMany) "__init__" = some (some (.ref faTooMany)))
    (uiTooMany : PySem.W.typeIn K (.ref faTooMany) = some (.type "function"))
    (ujTooMany : K.lookup faTooMany = some ⟨ocaTooMany, odaTooMany, .func (PySem.W.ksFn "__init__" "TooMany.__init__" (defArgs (inClass (top 22) 0)) (defBody (inClass (top 22) 0)) (defScope (inClass (top 22) 0)) .none kVTooMany dcTooMany pmTooMany anTooMany (.ref cdaTooMany) ctTooMany ccTooMany), slaTooMany⟩)
    (ukTooMany : PySem.W.codeIn K (.ref cdaTooMany) "TooMany.__init__" = true)
    (ulTooMany : K.lookup cdaTooMany = some ⟨cclTooMany, cddTooMany, .fields vsTooMany, ccsTooMany⟩)
    (umTooMany : vsTooMany[2]? = some (.str fiTooMany tfTooMany))
    (unTooMany : ((P.main.file : Str) == fiTooMany) = true)
    (uoTooMany : K.lookup ccTooMany = some ⟨clTooMany, cldTooMany, .cell (some (.ref xTooMany)), cslTooMany⟩)
    (a0 : PySem.W.nsIn K mainGlobals "_law_deck" = some (some (.ref f0)))
    (l0 : K.lookup f0 = some ⟨oc0, od0, .func (PySem.W.fnOf "_law_deck" "_law_deck" (defArgs (top 33)) (defBody (top 33)) (defScope (top 33)) .none kV0 dc0 pm0 an0 cd0 ct0), sl0⟩)
    (c0 : PySem.W.codeIn K cd0 "_law_deck" = true)
    (k0 : PySem.W.keepIn K (.ref f0) = true)
    (a1 : PySem.W.nsIn K mainGlobals "_law_with" = some (some (.ref f1)))
    (l1 : K.lookup f1 = some ⟨oc1, od1, .func (PySem.W.fnOf "_law_with" "_law_with" (defArgs (top 38)) (defBody (top 38)) (defScope (top 38)) .none kV1 dc1 pm1 an1 cd1 ct1), sl1⟩)
    (c1 : PySem.W.codeIn K cd1 "_law_with" = true)
    (k1 : PySem.W.keepIn K (.ref f1) = true)
    (a2 : PySem.W.nsIn K mainGlobals "_law_is_caught" = some (some (.ref f2)))
    (l2 : K.lookup f2 = some ⟨oc2, od2, .func (PySem.W.fnOf "_law_is_caught" "_law_is_caught" (defArgs (top 43)) (defBody (top 43)) (defScope (top 43)) .none kV2 dc2 pm2 an2 cd2 ct2), sl2⟩)
    (c2 : PySem.W.codeIn K cd2 "_law_is_caught" = true)
    (k2 : PySem.W.keepIn K (.ref f2) = true)
    (a3 : PySem.W.nsIn K mainGlobals "_law_pick" = some (some (.ref f3)))
    (l3 : K.lookup f3 = some ⟨oc3, od3, .func (PySem.W.fnOf "_law_pick" "_law_pick" (defArgs (top 34)) (defBody (top 34)) (defScope (top 34)) .none kV3 dc3 pm3 an3 cd3 ct3), sl3⟩)
    (c3 : PySem.W.codeIn K cd3 "_law_pick" = true)
    (k3 : PySem.W.keepIn K (.ref f3) = true)
    (a4 : PySem.W.nsIn K mainGlobals "_law_long" = some (some (.ref f4)))
    (l4 : K.lookup f4 = some ⟨oc4, od4, .func (PySem.W.fnOf "_law_long" "_law_long" (defArgs (top 35)) (defBody (top 35)) (defScope (top 35)) .none kV4 dc4 pm4 an4 cd4 ct4), sl4⟩)
    (c4 : PySem.W.codeIn K cd4 "_law_long" = true)
    (k4 : PySem.W.keepIn K (.ref f4) = true)
    (a5 : PySem.W.nsIn K mainGlobals "_law_value" = some (some (.ref f5)))
    (l5 : K.lookup f5 = some ⟨oc5, od5, .func (PySem.W.fnOf "_law_value" "_law_value" (defArgs (top 36)) (defBody (top 36)) (defScope (top 36)) .none kV5 dc5 pm5 an5 cd5 ct5), sl5⟩)
    (c5 : PySem.W.codeIn K cd5 "_law_value" = true)
    (k5 : PySem.W.keepIn K (.ref f5) = true)
    (a6 : PySem.W.nsIn K mainGlobals "_law_plain" = some (some (.ref f6)))
    (l6 : K.lookup f6 = some ⟨oc6, od6, .func (PySem.W.fnOf "_law_plain" "_law_plain" (defArgs (top 37)) (defBody (top 37)) (defScope (top 37)) .none kV6 dc6 pm6 an6 cd6 ct6), sl6⟩)
    (c6 : PySem.W.codeIn K cd6 "_law_plain" = true)
    (k6 : PySem.W.keepIn K (.ref f6) = true)
    (a7 : PySem.W.nsIn K mainGlobals "_law_kinds" = some (some (.ref f7)))
    (l7 : K.lookup f7 = some ⟨oc7, od7, .func (PySem.W.fnOf "_law_kinds" "_law_kinds" (defArgs (top 39)) (defBody (top 39)) (defScope (top 39)) .none kV7 dc7 pm7 an7 cd7 ct7), sl7⟩)
    (c7 : PySem.W.codeIn K cd7 "_law_kinds" = true)
    (k7 : PySem.W.keepIn K (.ref f7) = true)
    (a8 : PySem.W.nsIn K mainGlobals "_law_is_alone" = some (some (.ref f8)))
    (l8 : K.lookup f8 = some ⟨oc8, od8, .func (PySem.W.fnOf "_law_is_alone" "_law_is_alone" (defArgs (top 40)) (defBody (top 40)) (defScope (top 40)) .none kV8 dc8 pm8 an8 cd8 ct8), sl8⟩)
    (c8 : PySem.W.codeIn K cd8 "_law_is_alone" = true)
    (k8 : PySem.W.keepIn K (.ref f8) = true)
    (a9 : PySem.W.nsIn K mainGlobals "_law_fields" = some (some (.ref f9)))
    (l9 : K.lookup f9 = some ⟨oc9, od9, .func (PySem.W.fnOf "_law_fields" "_law_fields" (defArgs (top 41)) (defBody (top 41)) (defScope (top 41)) .none kV9 dc9 pm9 an9 cd9 ct9), sl9⟩)
    (c9 : PySem.W.codeIn K cd9 "_law_fields" = true)
    (k9 : PySem.W.keepIn K (.ref f9) = true)
    (a10 : PySem.W.nsIn K mainGlobals "_law_raised" = some (some (.ref f10)))
    (l10 : K.lookup f10 = some ⟨oc10, od10, .func (PySem.W.fnOf "_law_raised" "_law_raised" (defArgs (top 42)) (defBody (top 42)) (defScope (top 42)) .none kV10 dc10 pm10 an10 cd10 ct10), sl10⟩)
    (c10 : PySem.W.codeIn K cd10 "_law_raised" = true)
    (k10 : PySem.W.keepIn K (.ref f10) = true)
    (a11 : PySem.W.nsIn K mainGlobals "law" = some (some (.ref f11)))
    (l11 : K.lookup f11 = some ⟨oc11, od11, .func (PySem.W.fnOf "law" "law" (defArgs (top 44)) (defBody (top 44)) (defScope (top 44)) .none kV11 dc11 pm11 an11 cd11 ct11), sl11⟩)
    (c11 : PySem.W.codeIn K cd11 "law" = true)
    (k11 : PySem.W.keepIn K (.ref f11) = true) :
    ∃ fd : FuncData, (∀ (s : Shared) (v : Value), BindsTo s fd ⟨[v], []⟩ [("_law_script", v)]) ∧ ∀ base : Heap, K.In base → base.Ns mainGlobals mg → RunG P w K mg g_law base fa fd := by
  have e := hfa.symm.trans (PySem.W.mg_of X G a11)
  cases e
  have hus : ∀ p ∈ usl xBadBook xBadClerk xBadParty xBadText xNoClaim xNoClock xNoDemand xNoFolk xNoFractions xNoGrade xNoInstance xNoLabels xNoLine xNoName xNoNames xNoNumber xNoNumbers xNoPlace xNoRow xNoRule xNoWeights xNoWish xNoWorld xNotKept xNotRight xNotServed xNothingDone xOtherBook xTooLarge xTooMany, mg p.1 = some (.ref p.2) := by
    intro p hp
    simp only [usl, List.mem_cons, List.not_mem_nil, or_false] at hp
    rcases hp with rfl | rfl | rfl | rfl | rfl | rfl | rfl | rfl | rfl | rfl | rfl | rfl | rfl | rfl | rfl | rfl | rfl | rfl | rfl | rfl | rfl | rfl | rfl | rfl | rfl | rfl | rfl | rfl | rfl | rfl
    · exact PySem.W.mg_of X G gBadBook
    · exact PySem.W.mg_of X G gBadClerk
    · exact PySem.W.mg_of X G gBadParty
    · exact PySem.W.mg_of X G gBadText
    · exact PySem.W.mg_of X G gNoClaim
    · exact PySem.W.mg_of X G gNoClock
    · exact PySem.W.mg_of X G gNoDemand
    · exact PySem.W.mg_of X G gNoFolk
    · exact PySem.W.mg_of X G gNoFractions
    · exact PySem.W.mg_of X G gNoGrade
    · exact PySem.W.mg_of X G gNoInstance
    · exact PySem.W.mg_of X G gNoLabels
    · exact PySem.W.mg_of X G gNoLine
    · exact PySem.W.mg_of X G gNoName
    · exact PySem.W.mg_of X G gNoNames
    · exact PySem.W.mg_of X G gNoNumber
    · exact PySem.W.mg_of X G gNoNumbers
    · exact PySem.W.mg_of X G gNoPlace
    · exact PySem.W.mg_of X G gNoRow
    · exact PySem.W.mg_of X G gNoRule
    · exact PySem.W.mg_of X G gNoWeights
    · exact PySem.W.mg_of X G gNoWish
    · exact PySem.W.mg_of X G gNoWorld
    · exact PySem.W.mg_of X G gNotKept
    · exact PySem.W.mg_of X G gNotRight
    · exact PySem.W.mg_of X G gNotServed
    · exact PySem.W.mg_of X G gNothingDone
    · exact PySem.W.mg_of X G gOtherBook
    · exact PySem.W.mg_of X G gTooLarge
    · exact PySem.W.mg_of X G gTooMany
  have sup_BadBook : Sup1 ⟨P, w, K, mg⟩ 1 "BadBook" "part" := ⟨xBadBook, faBadBook, _, ["self", "part"], PySem.W.mg_of X G gBadBook, ⟨⟨_, _, _, _, _, _, _, _, _, _, _, _, _, _, _, uaBadBook, ubBadBook⟩, ucBadBook, bBadBook, tBadBook, kBadBook⟩, uhBadBook, uiBadBook, Binds.all fun us hl => match us, hl with | [_, _], _ => rfl, fun base => sup_ok (k := 0) (a0 := ((defArgs (inClass (top 18) 0)).posonlyargs ++ (defArgs (inClass (top 18) 0)).args).headD default) (kk := 0) ⟨⟨⟨_, _, _, _, _, _, _, _, _, _, _, _, _, _, _, uaBadBook, ubBadBook⟩, ucBadBook, bBadBook, tBadBook, kBadBook⟩, udBadBook, ueBadBook, ufBadBook, ugBadBook, supop, PySem.W.mg_none_of X G supng, suptp⟩ ujBadBook ukBadBook rfl rfl ulBadBook umBadBook unBadBook uoBadBook rfl (by decide) (by decide) (by decide) (by decide)⟩
  have sup_BadClerk : Sup1 ⟨P, w, K, mg⟩ 1 "BadClerk" "part" := ⟨xBadClerk, faBadClerk, _, ["self", "part"], PySem.W.mg_of X G gBadClerk, ⟨⟨_, _, _, _, _, _, _, _, _, _, _, _, _, _, _, uaBadClerk, ubBadClerk⟩, ucBadClerk, bBadClerk, tBadClerk, kBadClerk⟩, uhBadClerk, uiBadClerk, Binds.all fun us hl => match us, hl with | [_, _], _ => rfl, fun base => sup_ok (k := 0) (a0 := ((defArgs (inClass (top 20) 0)).posonlyargs ++ (defArgs (inClass (top 20) 0)).args).headD default) (kk := 0) ⟨⟨⟨_, _, _, _, _, _, _, _, _, _, _, _, _, _, _, uaBadClerk, ubBadClerk⟩, ucBadClerk, bBadClerk, tBadClerk, kBadClerk⟩, udBadClerk, ueBadClerk, ufBadClerk, ugBadClerk, supop, PySem.W.mg_none_of X G supng, suptp⟩ ujBadClerk ukBadClerk rfl rfl ulBadClerk umBadClerk unBadClerk uoBadClerk rfl (by decide) (by decide) (by decide) (by decide)⟩
  have sup_BadParty : Sup1 ⟨P, w, K, mg⟩ 1 "BadParty" "part" := ⟨xBadParty, faBadParty, _, ["self", "part"], PySem.W.mg_of X G gBadParty, ⟨⟨_, _, _, _, _, _, _, _, _, _, _, _, _, _, _, uaBadParty, ubBadParty⟩, ucBadParty, bBadParty, tBadParty, kBadParty⟩, uhBadParty, uiBadParty, Binds.all fun us hl => match us, hl with | [_, _], _ => rfl, fun base => sup_ok (k := 0) (a0 := ((defArgs (inClass (top 19) 0)).posonlyargs ++ (defArgs (inClass (top 19) 0)).args).headD default) (kk := 0) ⟨⟨⟨_, _, _, _, _, _, _, _, _, _, _, _, _, _, _, uaBadParty, ubBadParty⟩, ucBadParty, bBadParty, tBadParty, kBadParty⟩, udBadParty, ueBadParty, ufBadParty, ugBadParty, supop, PySem.W.mg_none_of X G supng, suptp⟩ ujBadParty ukBadParty rfl rfl ulBadParty umBadParty unBadParty uoBadParty rfl (by decide) (by decide) (by decide) (by decide)⟩
  have sup_BadText : Sup1 ⟨P, w, K, mg⟩ 1 "BadText" "line" := ⟨xBadText, faBadText, _, ["self", "line"], PySem.W.mg_of X G gBadText, ⟨⟨_, _, _, _, _, _, _, _, _, _, _, _, _, _, _, uaBadText, ubBadText⟩, ucBadText, bBadText, tBadText, kBadText⟩, uhBadText, uiBadText, Binds.all fun us hl => match us, hl with | [_, _], _ => rfl, fun base => sup_ok (k := 0) (a0 := ((defArgs (inClass (top 23) 0)).posonlyargs ++ (defArgs (inClass (top 23) 0)).args).headD default) (kk := 0) ⟨⟨⟨_, _, _, _, _, _, _, _, _, _, _, _, _, _, _, uaBadText, ubBadText⟩, ucBadText, bBadText, tBadText, kBadText⟩, udBadText, ueBadText, ufBadText, ugBadText, supop, PySem.W.mg_none_of X G supng, suptp⟩ ujBadText ukBadText rfl rfl ulBadText umBadText unBadText uoBadText rfl (by decide) (by decide) (by decide) (by decide)⟩
  have sup_NotKept : Sup1 ⟨P, w, K, mg⟩ 1 "NotKept" "label" := ⟨xNotKept, faNotKept, _, ["self", "label"], PySem.W.mg_of X G gNotKept, ⟨⟨_, _, _, _, _, _, _, _, _, _, _, _, _, _, _, uaNotKept, ubNotKept⟩, ucNotKept, bNotKept, tNotKept, kNotKept⟩, uhNotKept, uiNotKept, Binds.all fun us hl => match us, hl with | [_, _], _ => rfl, fun base => sup_ok (k := 0) (a0 := ((defArgs (inClass (top 24) 0)).posonlyargs ++ (defArgs (inClass (top 24) 0)).args).headD default) (kk := 0) ⟨⟨⟨_, _, _, _, _, _, _, _, _, _, _, _, _, _, _, uaNotKept, ubNotKept⟩, ucNotKept, bNotKept, tNotKept, kNotKept⟩, udNotKept, ueNotKept, ufNotKept, ugNotKept, supop, PySem.W.mg_none_of X G supng, suptp⟩ ujNotKept ukNotKept rfl rfl ulNotKept umNotKept unNotKept uoNotKept rfl (by decide) (by decide) (by decide) (by decide)⟩
  have sup_TooLarge : Sup1 ⟨P, w, K, mg⟩ 1 "TooLarge" "most" := ⟨xTooLarge, faTooLarge, _, ["self", "most"], PySem.W.mg_of X G gTooLarge, ⟨⟨_, _, _, _, _, _, _, _, _, _, _, _, _, _, _, uaTooLarge, ubTooLarge⟩, ucTooLarge, bTooLarge, tTooLarge, kTooLarge⟩, uhTooLarge, uiTooLarge, Binds.all fun us hl => match us, hl with | [_, _], _ => rfl, fun base => sup_ok (k := 0) (a0 := ((defArgs (inClass (top 21) 0)).posonlyargs ++ (defArgs (inClass (top 21) 0)).args).headD default) (kk := 0) ⟨⟨⟨_, _, _, _, _, _, _, _, _, _, _, _, _, _, _, uaTooLarge, ubTooLarge⟩, ucTooLarge, bTooLarge, tTooLarge, kTooLarge⟩, udTooLarge, ueTooLarge, ufTooLarge, ugTooLarge, supop, PySem.W.mg_none_of X G supng, suptp⟩ ujTooLarge ukTooLarge rfl rfl ulTooLarge umTooLarge unTooLarge uoTooLarge rfl (by decide) (by decide) (by decide) (by decide)⟩
  have sup_TooMany : Sup1 ⟨P, w, K, mg⟩ 1 "TooMany" "most" := ⟨xTooMany, faTooMany, _, ["self", "most"], PySem.W.mg_of X G gTooMany, ⟨⟨_, _, _, _, _, _, _, _, _, _, _, _, _, _, _, uaTooMany, ubTooMany⟩, ucTooMany, bTooMany, tTooMany, kTooMany⟩, uhTooMany, uiTooMany, Binds.all fun us hl => match us, hl with | [_, _], _ => rfl, fun base => sup_ok (k := 0) (a0 := ((defArgs (inClass (top 22) 0)).posonlyargs ++ (defArgs (inClass (top 22) 0)).args).headD default) (kk := 0) ⟨⟨⟨_, _, _, _, _, _, _, _, _, _, _, _, _, _, _, uaTooMany, ubTooMany⟩, ucTooMany, bTooMany, tTooMany, kTooMany⟩, udTooMany, ueTooMany, ufTooMany, ugTooMany, supop, PySem.W.mg_none_of X G supng, suptp⟩ ujTooMany ukTooMany rfl rfl ulTooMany umTooMany unTooMany uoTooMany rfl (by decide) (by decide) (by decide) (by decide)⟩
  have T : Txt ⟨P, w, K, mg⟩ xBadBook xBadClerk xBadParty xBadText xElderError xNoClaim xNoClock xNoDemand xNoFolk xNoFractions xNoGrade xNoInstance xNoLabels xNoLine xNoName xNoNames xNoNumber xNoNumbers xNoPlace xNoRow xNoRule xNoWeights xNoWish xNoWorld xNotKept xNotRight xNotServed xNothingDone xOtherBook xTooLarge xTooMany := ⟨PySem.W.mg_none_of X G n_ValueError, PySem.W.mg_none_of X G n_all, PySem.W.mg_none_of X G n_int, PySem.W.mg_none_of X G n_isinstance, PySem.W.mg_none_of X G n_len, PySem.W.mg_none_of X G n_range, PySem.W.mg_none_of X G n_repr, PySem.W.mg_of X G gBadBook, PySem.W.mg_of X G gBadClerk, PySem.W.mg_of X G gBadParty, PySem.W.mg_of X G gBadText, PySem.W.mg_of X G gElderError, ⟨_, PySem.W.mg_of X G gNoClaim, qNoClaim, kNoClaim, bNoClaim, tNoClaim⟩, PySem.W.mg_of X G gNoClaim, ⟨_, PySem.W.mg_of X G gNoClock, qNoClock, kNoClock, bNoClock, tNoClock⟩, PySem.W.mg_of X G gNoClock, ⟨_, PySem.W.mg_of X G gNoDemand, qNoDemand, kNoDemand, bNoDemand, tNoDemand⟩, PySem.W.mg_of X G gNoDemand, ⟨_, PySem.W.mg_of X G gNoFolk, qNoFolk, kNoFolk, bNoFolk, tNoFolk⟩, PySem.W.mg_of X G gNoFolk, ⟨_, PySem.W.mg_of X G gNoFractions, qNoFractions, kNoFractions, bNoFractions, tNoFractions⟩, PySem.W.mg_of X G gNoFractions, ⟨_, PySem.W.mg_of X G gNoGrade, qNoGrade, kNoGrade, bNoGrade, tNoGrade⟩, PySem.W.mg_of X G gNoGrade, ⟨_, PySem.W.mg_of X G gNoInstance, qNoInstance, kNoInstance, bNoInstance, tNoInstance⟩, PySem.W.mg_of X G gNoInstance, ⟨_, PySem.W.mg_of X G gNoLabels, qNoLabels, kNoLabels, bNoLabels, tNoLabels⟩, PySem.W.mg_of X G gNoLabels, ⟨_, PySem.W.mg_of X G gNoLine, qNoLine, kNoLine, bNoLine, tNoLine⟩, PySem.W.mg_of X G gNoLine, ⟨_, PySem.W.mg_of X G gNoName, qNoName, kNoName, bNoName, tNoName⟩, PySem.W.mg_of X G gNoName, ⟨_, PySem.W.mg_of X G gNoNames, qNoNames, kNoNames, bNoNames, tNoNames⟩, PySem.W.mg_of X G gNoNames, ⟨_, PySem.W.mg_of X G gNoNumber, qNoNumber, kNoNumber, bNoNumber, tNoNumber⟩, PySem.W.mg_of X G gNoNumber, ⟨_, PySem.W.mg_of X G gNoNumbers, qNoNumbers, kNoNumbers, bNoNumbers, tNoNumbers⟩, PySem.W.mg_of X G gNoNumbers, ⟨_, PySem.W.mg_of X G gNoPlace, qNoPlace, kNoPlace, bNoPlace, tNoPlace⟩, PySem.W.mg_of X G gNoPlace, ⟨_, PySem.W.mg_of X G gNoRow, qNoRow, kNoRow, bNoRow, tNoRow⟩, PySem.W.mg_of X G gNoRow, ⟨_, PySem.W.mg_of X G gNoRule, qNoRule, kNoRule, bNoRule, tNoRule⟩, PySem.W.mg_of X G gNoRule, ⟨_, PySem.W.mg_of X G gNoWeights, qNoWeights, kNoWeights, bNoWeights, tNoWeights⟩, PySem.W.mg_of X G gNoWeights, ⟨_, PySem.W.mg_of X G gNoWish, qNoWish, kNoWish, bNoWish, tNoWish⟩, PySem.W.mg_of X G gNoWish, ⟨_, PySem.W.mg_of X G gNoWorld, qNoWorld, kNoWorld, bNoWorld, tNoWorld⟩, PySem.W.mg_of X G gNoWorld, PySem.W.mg_of X G gNotKept, ⟨_, PySem.W.mg_of X G gNotRight, qNotRight, kNotRight, bNotRight, tNotRight⟩, PySem.W.mg_of X G gNotRight, ⟨_, PySem.W.mg_of X G gNotServed, qNotServed, kNotServed, bNotServed, tNotServed⟩, PySem.W.mg_of X G gNotServed, ⟨_, PySem.W.mg_of X G gNothingDone, qNothingDone, kNothingDone, bNothingDone, tNothingDone⟩, PySem.W.mg_of X G gNothingDone, ⟨_, PySem.W.mg_of X G gOtherBook, qOtherBook, kOtherBook, bOtherBook, tOtherBook⟩, PySem.W.mg_of X G gOtherBook, PySem.W.mg_of X G gTooLarge, PySem.W.mg_of X G gTooMany, (fun n hn u hu => by
    simp only [yes_BadBook, no_BadBook, List.mem_cons, List.not_mem_nil, or_false] at hn
    rcases hn with rfl
    · cases (PySem.W.mg_of X G gBadBook).symm.trans hu; exact exm_sub bBadBook iBadBook tBadBook sBadBook_BadBook), (fun n hn u hu => by
    simp only [yes_BadBook, no_BadBook, List.mem_cons, List.not_mem_nil, or_false] at hn
    rcases hn with rfl | rfl | rfl | rfl | rfl | rfl | rfl | rfl | rfl | rfl | rfl | rfl | rfl | rfl | rfl | rfl | rfl | rfl | rfl | rfl | rfl | rfl | rfl | rfl | rfl | rfl | rfl | rfl | rfl | rfl
    · cases (PySem.W.mg_of X G gBadClerk).symm.trans hu; exact exm_sub bBadBook iBadBook tBadBook sBadClerk_BadBook
    · cases (PySem.W.mg_of X G gBadParty).symm.trans hu; exact exm_sub bBadBook iBadBook tBadBook sBadParty_BadBook
    · cases (PySem.W.mg_of X G gBadText).symm.trans hu; exact exm_sub bBadBook iBadBook tBadBook sBadText_BadBook
    · cases (PySem.W.mg_of X G gElderError).symm.trans hu; exact exm_sub bBadBook iBadBook tBadBook sElderError_BadBook
    · cases (PySem.W.mg_of X G gNoClaim).symm.trans hu; exact exm_sub bBadBook iBadBook tBadBook sNoClaim_BadBook
    · cases (PySem.W.mg_of X G gNoClock).symm.trans hu; exact exm_sub bBadBook iBadBook tBadBook sNoClock_BadBook
    · cases (PySem.W.mg_of X G gNoDemand).symm.trans hu; exact exm_sub bBadBook iBadBook tBadBook sNoDemand_BadBook
    · cases (PySem.W.mg_of X G gNoFolk).symm.trans hu; exact exm_sub bBadBook iBadBook tBadBook sNoFolk_BadBook
    · cases (PySem.W.mg_of X G gNoFractions).symm.trans hu; exact exm_sub bBadBook iBadBook tBadBook sNoFractions_BadBook
    · cases (PySem.W.mg_of X G gNoGrade).symm.trans hu; exact exm_sub bBadBook iBadBook tBadBook sNoGrade_BadBook
    · cases (PySem.W.mg_of X G gNoInstance).symm.trans hu; exact exm_sub bBadBook iBadBook tBadBook sNoInstance_BadBook
    · cases (PySem.W.mg_of X G gNoLabels).symm.trans hu; exact exm_sub bBadBook iBadBook tBadBook sNoLabels_BadBook
    · cases (PySem.W.mg_of X G gNoLine).symm.trans hu; exact exm_sub bBadBook iBadBook tBadBook sNoLine_BadBook
    · cases (PySem.W.mg_of X G gNoName).symm.trans hu; exact exm_sub bBadBook iBadBook tBadBook sNoName_BadBook
    · cases (PySem.W.mg_of X G gNoNames).symm.trans hu; exact exm_sub bBadBook iBadBook tBadBook sNoNames_BadBook
    · cases (PySem.W.mg_of X G gNoNumber).symm.trans hu; exact exm_sub bBadBook iBadBook tBadBook sNoNumber_BadBook
    · cases (PySem.W.mg_of X G gNoNumbers).symm.trans hu; exact exm_sub bBadBook iBadBook tBadBook sNoNumbers_BadBook
    · cases (PySem.W.mg_of X G gNoPlace).symm.trans hu; exact exm_sub bBadBook iBadBook tBadBook sNoPlace_BadBook
    · cases (PySem.W.mg_of X G gNoRow).symm.trans hu; exact exm_sub bBadBook iBadBook tBadBook sNoRow_BadBook
    · cases (PySem.W.mg_of X G gNoRule).symm.trans hu; exact exm_sub bBadBook iBadBook tBadBook sNoRule_BadBook
    · cases (PySem.W.mg_of X G gNoWeights).symm.trans hu; exact exm_sub bBadBook iBadBook tBadBook sNoWeights_BadBook
    · cases (PySem.W.mg_of X G gNoWish).symm.trans hu; exact exm_sub bBadBook iBadBook tBadBook sNoWish_BadBook
    · cases (PySem.W.mg_of X G gNoWorld).symm.trans hu; exact exm_sub bBadBook iBadBook tBadBook sNoWorld_BadBook
    · cases (PySem.W.mg_of X G gNotKept).symm.trans hu; exact exm_sub bBadBook iBadBook tBadBook sNotKept_BadBook
    · cases (PySem.W.mg_of X G gNotRight).symm.trans hu; exact exm_sub bBadBook iBadBook tBadBook sNotRight_BadBook
    · cases (PySem.W.mg_of X G gNotServed).symm.trans hu; exact exm_sub bBadBook iBadBook tBadBook sNotServed_BadBook
    · cases (PySem.W.mg_of X G gNothingDone).symm.trans hu; exact exm_sub bBadBook iBadBook tBadBook sNothingDone_BadBook
    · cases (PySem.W.mg_of X G gOtherBook).symm.trans hu; exact exm_sub bBadBook iBadBook tBadBook sOtherBook_BadBook
    · cases (PySem.W.mg_of X G gTooLarge).symm.trans hu; exact exm_sub bBadBook iBadBook tBadBook sTooLarge_BadBook
    · cases (PySem.W.mg_of X G gTooMany).symm.trans hu; exact exm_sub bBadBook iBadBook tBadBook sTooMany_BadBook), (fun n hn u hu => by
    simp only [yes_ElderError, no_ElderError, List.mem_cons, List.not_mem_nil, or_false] at hn
    rcases hn with rfl | rfl | rfl | rfl | rfl | rfl | rfl | rfl | rfl | rfl | rfl | rfl | rfl | rfl | rfl | rfl | rfl | rfl | rfl | rfl | rfl | rfl | rfl | rfl | rfl | rfl | rfl | rfl | rfl | rfl | rfl
    · cases (PySem.W.mg_of X G gBadBook).symm.trans hu; exact exm_sub bElderError iElderError tElderError sBadBook_ElderError
    · cases (PySem.W.mg_of X G gBadClerk).symm.trans hu; exact exm_sub bElderError iElderError tElderError sBadClerk_ElderError
    · cases (PySem.W.mg_of X G gBadParty).symm.trans hu; exact exm_sub bElderError iElderError tElderError sBadParty_ElderError
    · cases (PySem.W.mg_of X G gBadText).symm.trans hu; exact exm_sub bElderError iElderError tElderError sBadText_ElderError
    · cases (PySem.W.mg_of X G gElderError).symm.trans hu; exact exm_sub bElderError iElderError tElderError sElderError_ElderError
    · cases (PySem.W.mg_of X G gNoClaim).symm.trans hu; exact exm_sub bElderError iElderError tElderError sNoClaim_ElderError
    · cases (PySem.W.mg_of X G gNoClock).symm.trans hu; exact exm_sub bElderError iElderError tElderError sNoClock_ElderError
    · cases (PySem.W.mg_of X G gNoDemand).symm.trans hu; exact exm_sub bElderError iElderError tElderError sNoDemand_ElderError
    · cases (PySem.W.mg_of X G gNoFolk).symm.trans hu; exact exm_sub bElderError iElderError tElderError sNoFolk_ElderError
    · cases (PySem.W.mg_of X G gNoFractions).symm.trans hu; exact exm_sub bElderError iElderError tElderError sNoFractions_ElderError
    · cases (PySem.W.mg_of X G gNoGrade).symm.trans hu; exact exm_sub bElderError iElderError tElderError sNoGrade_ElderError
    · cases (PySem.W.mg_of X G gNoInstance).symm.trans hu; exact exm_sub bElderError iElderError tElderError sNoInstance_ElderError
    · cases (PySem.W.mg_of X G gNoLabels).symm.trans hu; exact exm_sub bElderError iElderError tElderError sNoLabels_ElderError
    · cases (PySem.W.mg_of X G gNoLine).symm.trans hu; exact exm_sub bElderError iElderError tElderError sNoLine_ElderError
    · cases (PySem.W.mg_of X G gNoName).symm.trans hu; exact exm_sub bElderError iElderError tElderError sNoName_ElderError
    · cases (PySem.W.mg_of X G gNoNames).symm.trans hu; exact exm_sub bElderError iElderError tElderError sNoNames_ElderError
    · cases (PySem.W.mg_of X G gNoNumber).symm.trans hu; exact exm_sub bElderError iElderError tElderError sNoNumber_ElderError
    · cases (PySem.W.mg_of X G gNoNumbers).symm.trans hu; exact exm_sub bElderError iElderError tElderError sNoNumbers_ElderError
    · cases (PySem.W.mg_of X G gNoPlace).symm.trans hu; exact exm_sub bElderError iElderError tElderError sNoPlace_ElderError
    · cases (PySem.W.mg_of X G gNoRow).symm.trans hu; exact exm_sub bElderError iElderError tElderError sNoRow_ElderError
    · cases (PySem.W.mg_of X G gNoRule).symm.trans hu; exact exm_sub bElderError iElderError tElderError sNoRule_ElderError
    · cases (PySem.W.mg_of X G gNoWeights).symm.trans hu; exact exm_sub bElderError iElderError tElderError sNoWeights_ElderError
    · cases (PySem.W.mg_of X G gNoWish).symm.trans hu; exact exm_sub bElderError iElderError tElderError sNoWish_ElderError
    · cases (PySem.W.mg_of X G gNoWorld).symm.trans hu; exact exm_sub bElderError iElderError tElderError sNoWorld_ElderError
    · cases (PySem.W.mg_of X G gNotKept).symm.trans hu; exact exm_sub bElderError iElderError tElderError sNotKept_ElderError
    · cases (PySem.W.mg_of X G gNotRight).symm.trans hu; exact exm_sub bElderError iElderError tElderError sNotRight_ElderError
    · cases (PySem.W.mg_of X G gNotServed).symm.trans hu; exact exm_sub bElderError iElderError tElderError sNotServed_ElderError
    · cases (PySem.W.mg_of X G gNothingDone).symm.trans hu; exact exm_sub bElderError iElderError tElderError sNothingDone_ElderError
    · cases (PySem.W.mg_of X G gOtherBook).symm.trans hu; exact exm_sub bElderError iElderError tElderError sOtherBook_ElderError
    · cases (PySem.W.mg_of X G gTooLarge).symm.trans hu; exact exm_sub bElderError iElderError tElderError sTooLarge_ElderError
    · cases (PySem.W.mg_of X G gTooMany).symm.trans hu; exact exm_sub bElderError iElderError tElderError sTooMany_ElderError), (fun n hn => nomatch hn), sup_BadBook, sup_BadClerk, sup_BadParty, sup_BadText, sup_NotKept, sup_TooLarge, sup_TooMany, isX_of (us := usl xBadBook xBadClerk xBadParty xBadText xNoClaim xNoClock xNoDemand xNoFolk xNoFractions xNoGrade xNoInstance xNoLabels xNoLine xNoName xNoNames xNoNumber xNoNumbers xNoPlace xNoRow xNoRule xNoWeights xNoWish xNoWorld xNotKept xNotRight xNotServed xNothingDone xOtherBook xTooLarge xTooMany) hus exb sg st ixBadBook, isX_of (us := usl xBadBook xBadClerk xBadParty xBadText xNoClaim xNoClock xNoDemand xNoFolk xNoFractions xNoGrade xNoInstance xNoLabels xNoLine xNoName xNoNames xNoNumber xNoNumbers xNoPlace xNoRow xNoRule xNoWeights xNoWish xNoWorld xNotKept xNotRight xNotServed xNothingDone xOtherBook xTooLarge xTooMany) hus exb sg st ixBadClerk, isX_of (us := usl xBadBook xBadClerk xBadParty xBadText xNoClaim xNoClock xNoDemand xNoFolk xNoFractions xNoGrade xNoInstance xNoLabels xNoLine xNoName xNoNames xNoNumber xNoNumbers xNoPlace xNoRow xNoRule xNoWeights xNoWish xNoWorld xNotKept xNotRight xNotServed xNothingDone xOtherBook xTooLarge xTooMany) hus exb sg st ixBadParty, isX_of (us := usl xBadBook xBadClerk xBadParty xBadText xNoClaim xNoClock xNoDemand xNoFolk xNoFractions xNoGrade xNoInstance xNoLabels xNoLine xNoName xNoNames xNoNumber xNoNumbers xNoPlace xNoRow xNoRule xNoWeights xNoWish xNoWorld xNotKept xNotRight xNotServed xNothingDone xOtherBook xTooLarge xTooMany) hus exb sg st ixBadText, isX_of (us := usl xBadBook xBadClerk xBadParty xBadText xNoClaim xNoClock xNoDemand xNoFolk xNoFractions xNoGrade xNoInstance xNoLabels xNoLine xNoName xNoNames xNoNumber xNoNumbers xNoPlace xNoRow xNoRule xNoWeights xNoWish xNoWorld xNotKept xNotRight xNotServed xNothingDone xOtherBook xTooLarge xTooMany) hus exb sg st ixElderError, isX_of (us := usl xBadBook xBadClerk xBadParty xBadText xNoClaim xNoClock xNoDemand xNoFolk xNoFractions xNoGrade xNoInstance xNoLabels xNoLine xNoName xNoNames xNoNumber xNoNumbers xNoPlace xNoRow xNoRule xNoWeights xNoWish xNoWorld xNotKept xNotRight xNotServed xNothingDone xOtherBook xTooLarge xTooMany) hus exb sg st ixNoClaim, isX_of (us := usl xBadBook xBadClerk xBadParty xBadText xNoClaim xNoClock xNoDemand xNoFolk xNoFractions xNoGrade xNoInstance xNoLabels xNoLine xNoName xNoNames xNoNumber xNoNumbers xNoPlace xNoRow xNoRule xNoWeights xNoWish xNoWorld xNotKept xNotRight xNotServed xNothingDone xOtherBook xTooLarge xTooMany) hus exb sg st ixNoClock, isX_of (us := usl xBadBook xBadClerk xBadParty xBadText xNoClaim xNoClock xNoDemand xNoFolk xNoFractions xNoGrade xNoInstance xNoLabels xNoLine xNoName xNoNames xNoNumber xNoNumbers xNoPlace xNoRow xNoRule xNoWeights xNoWish xNoWorld xNotKept xNotRight xNotServed xNothingDone xOtherBook xTooLarge xTooMany) hus exb sg st ixNoDemand, isX_of (us := usl xBadBook xBadClerk xBadParty xBadText xNoClaim xNoClock xNoDemand xNoFolk xNoFractions xNoGrade xNoInstance xNoLabels xNoLine xNoName xNoNames xNoNumber xNoNumbers xNoPlace xNoRow xNoRule xNoWeights xNoWish xNoWorld xNotKept xNotRight xNotServed xNothingDone xOtherBook xTooLarge xTooMany) hus exb sg st ixNoFolk, isX_of (us := usl xBadBook xBadClerk xBadParty xBadText xNoClaim xNoClock xNoDemand xNoFolk xNoFractions xNoGrade xNoInstance xNoLabels xNoLine xNoName xNoNames xNoNumber xNoNumbers xNoPlace xNoRow xNoRule xNoWeights xNoWish xNoWorld xNotKept xNotRight xNotServed xNothingDone xOtherBook xTooLarge xTooMany) hus exb sg st ixNoFractions, isX_of (us := usl xBadBook xBadClerk xBadParty xBadText xNoClaim xNoClock xNoDemand xNoFolk xNoFractions xNoGrade xNoInstance xNoLabels xNoLine xNoName xNoNames xNoNumber xNoNumbers xNoPlace xNoRow xNoRule xNoWeights xNoWish xNoWorld xNotKept xNotRight xNotServed xNothingDone xOtherBook xTooLarge xTooMany) hus exb sg st ixNoGrade, isX_of (us := usl xBadBook xBadClerk xBadParty xBadText xNoClaim xNoClock xNoDemand xNoFolk xNoFractions xNoGrade xNoInstance xNoLabels xNoLine xNoName xNoNames xNoNumber xNoNumbers xNoPlace xNoRow xNoRule xNoWeights xNoWish xNoWorld xNotKept xNotRight xNotServed xNothingDone xOtherBook xTooLarge xTooMany) hus exb sg st ixNoInstance, isX_of (us := usl xBadBook xBadClerk xBadParty xBadText xNoClaim xNoClock xNoDemand xNoFolk xNoFractions xNoGrade xNoInstance xNoLabels xNoLine xNoName xNoNames xNoNumber xNoNumbers xNoPlace xNoRow xNoRule xNoWeights xNoWish xNoWorld xNotKept xNotRight xNotServed xNothingDone xOtherBook xTooLarge xTooMany) hus exb sg st ixNoLabels, isX_of (us := usl xBadBook xBadClerk xBadParty xBadText xNoClaim xNoClock xNoDemand xNoFolk xNoFractions xNoGrade xNoInstance xNoLabels xNoLine xNoName xNoNames xNoNumber xNoNumbers xNoPlace xNoRow xNoRule xNoWeights xNoWish xNoWorld xNotKept xNotRight xNotServed xNothingDone xOtherBook xTooLarge xTooMany) hus exb sg st ixNoLine, isX_of (us := usl xBadBook xBadClerk xBadParty xBadText xNoClaim xNoClock xNoDemand xNoFolk xNoFractions xNoGrade xNoInstance xNoLabels xNoLine xNoName xNoNames xNoNumber xNoNumbers xNoPlace xNoRow xNoRule xNoWeights xNoWish xNoWorld xNotKept xNotRight xNotServed xNothingDone xOtherBook xTooLarge xTooMany) hus exb sg st ixNoName, isX_of (us := usl xBadBook xBadClerk xBadParty xBadText xNoClaim xNoClock xNoDemand xNoFolk xNoFractions xNoGrade xNoInstance xNoLabels xNoLine xNoName xNoNames xNoNumber xNoNumbers xNoPlace xNoRow xNoRule xNoWeights xNoWish xNoWorld xNotKept xNotRight xNotServed xNothingDone xOtherBook xTooLarge xTooMany) hus exb sg st ixNoNames, isX_of (us := usl xBadBook xBadClerk xBadParty xBadText xNoClaim xNoClock xNoDemand xNoFolk xNoFractions xNoGrade xNoInstance xNoLabels xNoLine xNoName xNoNames xNoNumber xNoNumbers xNoPlace xNoRow xNoRule xNoWeights xNoWish xNoWorld xNotKept xNotRight xNotServed xNothingDone xOtherBook xTooLarge xTooMany) hus exb sg st ixNoNumber, isX_of (us := usl xBadBook xBadClerk xBadParty xBadText xNoClaim xNoClock xNoDemand xNoFolk xNoFractions xNoGrade xNoInstance xNoLabels xNoLine xNoName xNoNames xNoNumber xNoNumbers xNoPlace xNoRow xNoRule xNoWeights xNoWish xNoWorld xNotKept xNotRight xNotServed xNothingDone xOtherBook xTooLarge xTooMany) hus exb sg st ixNoNumbers, isX_of (us := usl xBadBook xBadClerk xBadParty xBadText xNoClaim xNoClock xNoDemand xNoFolk xNoFractions xNoGrade xNoInstance xNoLabels xNoLine xNoName xNoNames xNoNumber xNoNumbers xNoPlace xNoRow xNoRule xNoWeights xNoWish xNoWorld xNotKept xNotRight xNotServed xNothingDone xOtherBook xTooLarge xTooMany) hus exb sg st ixNoPlace, isX_of (us := usl xBadBook xBadClerk xBadParty xBadText xNoClaim xNoClock xNoDemand xNoFolk xNoFractions xNoGrade xNoInstance xNoLabels xNoLine xNoName xNoNames xNoNumber xNoNumbers xNoPlace xNoRow xNoRule xNoWeights xNoWish xNoWorld xNotKept xNotRight xNotServed xNothingDone xOtherBook xTooLarge xTooMany) hus exb sg st ixNoRow, isX_of (us := usl xBadBook xBadClerk xBadParty xBadText xNoClaim xNoClock xNoDemand xNoFolk xNoFractions xNoGrade xNoInstance xNoLabels xNoLine xNoName xNoNames xNoNumber xNoNumbers xNoPlace xNoRow xNoRule xNoWeights xNoWish xNoWorld xNotKept xNotRight xNotServed xNothingDone xOtherBook xTooLarge xTooMany) hus exb sg st ixNoRule, isX_of (us := usl xBadBook xBadClerk xBadParty xBadText xNoClaim xNoClock xNoDemand xNoFolk xNoFractions xNoGrade xNoInstance xNoLabels xNoLine xNoName xNoNames xNoNumber xNoNumbers xNoPlace xNoRow xNoRule xNoWeights xNoWish xNoWorld xNotKept xNotRight xNotServed xNothingDone xOtherBook xTooLarge xTooMany) hus exb sg st ixNoWeights, isX_of (us := usl xBadBook xBadClerk xBadParty xBadText xNoClaim xNoClock xNoDemand xNoFolk xNoFractions xNoGrade xNoInstance xNoLabels xNoLine xNoName xNoNames xNoNumber xNoNumbers xNoPlace xNoRow xNoRule xNoWeights xNoWish xNoWorld xNotKept xNotRight xNotServed xNothingDone xOtherBook xTooLarge xTooMany) hus exb sg st ixNoWish, isX_of (us := usl xBadBook xBadClerk xBadParty xBadText xNoClaim xNoClock xNoDemand xNoFolk xNoFractions xNoGrade xNoInstance xNoLabels xNoLine xNoName xNoNames xNoNumber xNoNumbers xNoPlace xNoRow xNoRule xNoWeights xNoWish xNoWorld xNotKept xNotRight xNotServed xNothingDone xOtherBook xTooLarge xTooMany) hus exb sg st ixNoWorld, isX_of (us := usl xBadBook xBadClerk xBadParty xBadText xNoClaim xNoClock xNoDemand xNoFolk xNoFractions xNoGrade xNoInstance xNoLabels xNoLine xNoName xNoNames xNoNumber xNoNumbers xNoPlace xNoRow xNoRule xNoWeights xNoWish xNoWorld xNotKept xNotRight xNotServed xNothingDone xOtherBook xTooLarge xTooMany) hus exb sg st ixNotKept, isX_of (us := usl xBadBook xBadClerk xBadParty xBadText xNoClaim xNoClock xNoDemand xNoFolk xNoFractions xNoGrade xNoInstance xNoLabels xNoLine xNoName xNoNames xNoNumber xNoNumbers xNoPlace xNoRow xNoRule xNoWeights xNoWish xNoWorld xNotKept xNotRight xNotServed xNothingDone xOtherBook xTooLarge xTooMany) hus exb sg st ixNotRight, isX_of (us := usl xBadBook xBadClerk xBadParty xBadText xNoClaim xNoClock xNoDemand xNoFolk xNoFractions xNoGrade xNoInstance xNoLabels xNoLine xNoName xNoNames xNoNumber xNoNumbers xNoPlace xNoRow xNoRule xNoWeights xNoWish xNoWorld xNotKept xNotRight xNotServed xNothingDone xOtherBook xTooLarge xTooMany) hus exb sg st ixNotServed, isX_of (us := usl xBadBook xBadClerk xBadParty xBadText xNoClaim xNoClock xNoDemand xNoFolk xNoFractions xNoGrade xNoInstance xNoLabels xNoLine xNoName xNoNames xNoNumber xNoNumbers xNoPlace xNoRow xNoRule xNoWeights xNoWish xNoWorld xNotKept xNotRight xNotServed xNothingDone xOtherBook xTooLarge xTooMany) hus exb sg st ixNothingDone, isX_of (us := usl xBadBook xBadClerk xBadParty xBadText xNoClaim xNoClock xNoDemand xNoFolk xNoFractions xNoGrade xNoInstance xNoLabels xNoLine xNoName xNoNames xNoNumber xNoNumbers xNoPlace xNoRow xNoRule xNoWeights xNoWish xNoWorld xNotKept xNotRight xNotServed xNothingDone xOtherBook xTooLarge xTooMany) hus exb sg st ixOtherBook, isX_of (us := usl xBadBook xBadClerk xBadParty xBadText xNoClaim xNoClock xNoDemand xNoFolk xNoFractions xNoGrade xNoInstance xNoLabels xNoLine xNoName xNoNames xNoNumber xNoNumbers xNoPlace xNoRow xNoRule xNoWeights xNoWish xNoWorld xNotKept xNotRight xNotServed xNothingDone xOtherBook xTooLarge xTooMany) hus exb sg st ixTooLarge, isX_of (us := usl xBadBook xBadClerk xBadParty xBadText xNoClaim xNoClock xNoDemand xNoFolk xNoFractions xNoGrade xNoInstance xNoLabels xNoLine xNoName xNoNames xNoNumber xNoNumbers xNoPlace xNoRow xNoRule xNoWeights xNoWish xNoWorld xNotKept xNotRight xNotServed xNothingDone xOtherBook xTooLarge xTooMany) hus exb sg st ixTooMany, isX_of (us := usl xBadBook xBadClerk xBadParty xBadText xNoClaim xNoClock xNoDemand xNoFolk xNoFractions xNoGrade xNoInstance xNoLabels xNoLine xNoName xNoNames xNoNumber xNoNumbers xNoPlace xNoRow xNoRule xNoWeights xNoWish xNoWorld xNotKept xNotRight xNotServed xNothingDone xOtherBook xTooLarge xTooMany) hus exb sg st ixValueError, (fun n hn => by
    simp only [xs_label, List.mem_cons, List.not_mem_nil, or_false] at hn
    rcases hn with rfl
    · exact xfOk_of (PySem.W.mg_of X G gNotKept) (us := usl xBadBook xBadClerk xBadParty xBadText xNoClaim xNoClock xNoDemand xNoFolk xNoFractions xNoGrade xNoInstance xNoLabels xNoLine xNoName xNoNames xNoNumber xNoNumbers xNoPlace xNoRow xNoRule xNoWeights xNoWish xNoWorld xNotKept xNotRight xNotServed xNothingDone xOtherBook xTooLarge xTooMany) (by simp [usl]) exb xnNotKept_label), (fun n hn => by
    simp only [xs_line, List.mem_cons, List.not_mem_nil, or_false] at hn
    rcases hn with rfl
    · exact xfOk_of (PySem.W.mg_of X G gBadText) (us := usl xBadBook xBadClerk xBadParty xBadText xNoClaim xNoClock xNoDemand xNoFolk xNoFractions xNoGrade xNoInstance xNoLabels xNoLine xNoName xNoNames xNoNumber xNoNumbers xNoPlace xNoRow xNoRule xNoWeights xNoWish xNoWorld xNotKept xNotRight xNotServed xNothingDone xOtherBook xTooLarge xTooMany) (by simp [usl]) exb xnBadText_line), (fun n hn => by
    simp only [xs_most, List.mem_cons, List.not_mem_nil, or_false] at hn
    rcases hn with rfl | rfl
    · exact xfOk_of (PySem.W.mg_of X G gTooLarge) (us := usl xBadBook xBadClerk xBadParty xBadText xNoClaim xNoClock xNoDemand xNoFolk xNoFractions xNoGrade xNoInstance xNoLabels xNoLine xNoName xNoNames xNoNumber xNoNumbers xNoPlace xNoRow xNoRule xNoWeights xNoWish xNoWorld xNotKept xNotRight xNotServed xNothingDone xOtherBook xTooLarge xTooMany) (by simp [usl]) exb xnTooLarge_most
    · exact xfOk_of (PySem.W.mg_of X G gTooMany) (us := usl xBadBook xBadClerk xBadParty xBadText xNoClaim xNoClock xNoDemand xNoFolk xNoFractions xNoGrade xNoInstance xNoLabels xNoLine xNoName xNoNames xNoNumber xNoNumbers xNoPlace xNoRow xNoRule xNoWeights xNoWish xNoWorld xNotKept xNotRight xNotServed xNothingDone xOtherBook xTooLarge xTooMany) (by simp [usl]) exb xnTooMany_most), (fun n hn => by
    simp only [xs_part, List.mem_cons, List.not_mem_nil, or_false] at hn
    rcases hn with rfl | rfl | rfl
    · exact xfOk_of (PySem.W.mg_of X G gBadBook) (us := usl xBadBook xBadClerk xBadParty xBadText xNoClaim xNoClock xNoDemand xNoFolk xNoFractions xNoGrade xNoInstance xNoLabels xNoLine xNoName xNoNames xNoNumber xNoNumbers xNoPlace xNoRow xNoRule xNoWeights xNoWish xNoWorld xNotKept xNotRight xNotServed xNothingDone xOtherBook xTooLarge xTooMany) (by simp [usl]) exb xnBadBook_part
    · exact xfOk_of (PySem.W.mg_of X G gBadParty) (us := usl xBadBook xBadClerk xBadParty xBadText xNoClaim xNoClock xNoDemand xNoFolk xNoFractions xNoGrade xNoInstance xNoLabels xNoLine xNoName xNoNames xNoNumber xNoNumbers xNoPlace xNoRow xNoRule xNoWeights xNoWish xNoWorld xNotKept xNotRight xNotServed xNothingDone xOtherBook xTooLarge xTooMany) (by simp [usl]) exb xnBadParty_part
    · exact xfOk_of (PySem.W.mg_of X G gBadClerk) (us := usl xBadBook xBadClerk xBadParty xBadText xNoClaim xNoClock xNoDemand xNoFolk xNoFractions xNoGrade xNoInstance xNoLabels xNoLine xNoName xNoNames xNoNumber xNoNumbers xNoPlace xNoRow xNoRule xNoWeights xNoWish xNoWorld xNotKept xNotRight xNotServed xNothingDone xOtherBook xTooLarge xTooMany) (by simp [usl]) exb xnBadClerk_part)⟩
  have H0 := fun_mk (st := top 33) l0 c0 k0
  have B0 := H0.binds (ps := ["_law_script"]) fun _ _ _ _ _ _ us hl => match us, hl with | [_], _ => rfl
  have F__law_deck : Fn ⟨P, w, K, mg⟩ 1 "_law_deck" g__law_deck := fn_def [0] m__law_deck H0 sc__law_deck B0 (PySem.W.mg_of X G a0) (fun base cdv A outer s H E vs W g => b__law_deck T  base _ cdv A outer s H E vs W g)
  have H1 := fun_mk (st := top 38) l1 c1 k1
  have B1 := H1.binds (ps := ["_law_values"]) fun _ _ _ _ _ _ us hl => match us, hl with | [_], _ => rfl
  have F__law_with : Fn ⟨P, w, K, mg⟩ 3 "_law_with" g__law_with := fn_def [0] m__law_with H1 sc__law_with B1 (PySem.W.mg_of X G a1) (fun base cdv A outer s H E vs W g => b__law_with T  base _ cdv A outer s H E vs W g)
  have H2 := fun_mk (st := top 43) l2 c2 k2
  have B2 := H2.binds (ps := ([] : List Str)) fun _ _ _ _ _ _ us hl => match us, hl with | [], _ => rfl
  have F__law_is_caught : Fn ⟨P, w, K, mg⟩ 1 "_law_is_caught" g__law_is_caught := fn_def ([] : List Nat) m__law_is_caught H2 sc__law_is_caught B2 (PySem.W.mg_of X G a2) (fun base cdv A outer s H E vs W g => b__law_is_caught T  base _ cdv A outer s H E vs W g)
  have H3 := fun_mk (st := top 34) l3 c3 k3
  have B3 := H3.binds (ps := ["_law_deck_here", "_law_many"]) fun _ _ _ _ _ _ us hl => match us, hl with | [_, _], _ => rfl
  have F__law_pick : Fn ⟨P, w, K, mg⟩ 1 "_law_pick" g__law_pick := fn_def [0, 1] m__law_pick H3 sc__law_pick B3 (PySem.W.mg_of X G a3) (fun base cdv A outer s H E vs W g => b__law_pick T  base _ cdv A outer s H E vs W g)
  have H4 := fun_mk (st := top 35) l4 c4 k4
  have B4 := H4.binds (ps := ["_law_deck_here"]) fun _ _ _ _ _ _ us hl => match us, hl with | [_], _ => rfl
  have F__law_long : Fn ⟨P, w, K, mg⟩ 2 "_law_long" g__law_long := fn_def [0] m__law_long H4 sc__law_long B4 (PySem.W.mg_of X G a4) (fun base cdv A outer s H E vs W g => b__law_long T F__law_pick base _ cdv A outer s H E vs W g)
  have H5 := fun_mk (st := top 36) l5 c5 k5
  have B5 := H5.binds (ps := ["_law_deck_here"]) fun _ _ _ _ _ _ us hl => match us, hl with | [_], _ => rfl
  have F__law_value : Fn ⟨P, w, K, mg⟩ 3 "_law_value" g__law_value := fn_def [0] m__law_value H5 sc__law_value B5 (PySem.W.mg_of X G a5) (fun base cdv A outer s H E vs W g => b__law_value T F__law_pick F__law_long base _ cdv A outer s H E vs W g)
  have H6 := fun_mk (st := top 37) l6 c6 k6
  have B6 := H6.binds (ps := ([] : List Str)) fun _ _ _ _ _ _ us hl => match us, hl with | [], _ => rfl
  have F__law_plain : Fn ⟨P, w, K, mg⟩ 1 "_law_plain" g__law_plain := fn_def ([] : List Nat) m__law_plain H6 sc__law_plain B6 (PySem.W.mg_of X G a6) (fun base cdv A outer s H E vs W g => b__law_plain T  base _ cdv A outer s H E vs W g)
  have H7 := fun_mk (st := top 39) l7 c7 k7
  have B7 := H7.binds (ps := ["_law_error"]) fun _ _ _ _ _ _ us hl => match us, hl with | [_], _ => rfl
  have F__law_kinds : Fn ⟨P, w, K, mg⟩ 1 "_law_kinds" g__law_kinds := fn_def [0] m__law_kinds H7 sc__law_kinds B7 (PySem.W.mg_of X G a7) (fun base cdv A outer s H E vs W g => b__law_kinds T  base _ cdv A outer s H E vs W g)
  have H8 := fun_mk (st := top 40) l8 c8 k8
  have B8 := H8.binds (ps := ["_law_error", "_law_at"]) fun _ _ _ _ _ _ us hl => match us, hl with | [_, _], _ => rfl
  have F__law_is_alone : Fn ⟨P, w, K, mg⟩ 2 "_law_is_alone" g__law_is_alone := fn_def [0, 1] m__law_is_alone H8 sc__law_is_alone B8 (PySem.W.mg_of X G a8) (fun base cdv A outer s H E vs W g => b__law_is_alone T F__law_kinds base _ cdv A outer s H E vs W g)
  have H9 := fun_mk (st := top 41) l9 c9 k9
  have B9 := H9.binds (ps := ["_law_errors"]) fun _ _ _ _ _ _ us hl => match us, hl with | [_], _ => rfl
  have F__law_fields : Fn ⟨P, w, K, mg⟩ 1 "_law_fields" g__law_fields := fn_def [0] m__law_fields H9 sc__law_fields B9 (PySem.W.mg_of X G a9) (fun base cdv A outer s H E vs W g => b__law_fields T  base _ cdv A outer s H E vs W g)
  have H10 := fun_mk (st := top 42) l10 c10 k10
  have B10 := H10.binds (ps := ["_law_value_here"]) fun _ _ _ _ _ _ us hl => match us, hl with | [_], _ => rfl
  have F__law_raised : Fn ⟨P, w, K, mg⟩ 3 "_law_raised" g__law_raised := fn_def [0] m__law_raised H10 sc__law_raised B10 (PySem.W.mg_of X G a10) (fun base cdv A outer s H E vs W g => b__law_raised T  base _ cdv A outer s H E vs W g)
  have H11 := fun_mk (st := top 44) l11 c11 k11
  exact ⟨_, fun s v => .of_eq rfl, fun base _ _ => fn_runG [0] m_law H11 sc_law (A := callerA) rfl ⟨rfl, by decide, by decide⟩ base (fun cdv outer s H E vs W hG g => b_law T F__law_deck F__law_value F__law_plain F__law_with F__law_is_alone F__law_fields F__law_raised F__law_is_caught base _ cdv callerA outer s H E vs W hG g)⟩
end Mi
open PySem PySem.W PyProof.Rows
set_option maxRecDepth 100000 in
set_option maxHeartbeats 0 in
theorem PySem.Challenge.cw_elderalike_k00_errors_and_their_fields_holds : PySem.Challenge.rw_elderalike_k00_errors_and_their_fields.Holds := by
  w_on; o_law; k_head; (case hw => w_witness2)
  k_fill
  refine Mi.walkG (l := PySem.Challenge.rw_elderalike_k00_errors_and_their_fields) (g := Mi.g_law) rfl rfl (fun w h Y => PySem.W.kIn_of Y) ?F Mi.law_true
  case F =>
    intro w mg fa h KX G hmg
    refine' Mi.all_mk KX G hmg ?n_ValueError ?n_all ?n_int ?n_isinstance ?n_len ?n_range ?n_repr ?gBadBook ?kBadBook ?bBadBook ?tBadBook ?gBadClerk ?kBadClerk ?bBadClerk ?tBadClerk ?gBadParty ?kBadParty ?bBadParty ?tBadParty ?gBadText ?kBadText ?bBadText ?tBadText ?gElderError ?kElderError ?bElderError ?tElderError ?gNoClaim ?qNoClaim ?kNoClaim ?bNoClaim ?tNoClaim ?gNoClock ?qNoClock ?kNoClock ?bNoClock ?tNoClock ?gNoDemand ?qNoDemand ?kNoDemand ?bNoDemand ?tNoDemand ?gNoFolk ?qNoFolk ?kNoFolk ?bNoFolk ?tNoFolk ?gNoFractions ?qNoFractions ?kNoFractions ?bNoFractions ?tNoFractions ?gNoGrade ?qNoGrade ?kNoGrade ?bNoGrade ?tNoGrade ?gNoInstance ?qNoInstance ?kNoInstance ?bNoInstance ?tNoInstance ?gNoLabels ?qNoLabels ?kNoLabels ?bNoLabels ?tNoLabels ?gNoLine ?qNoLine ?kNoLine ?bNoLine ?tNoLine ?gNoName ?qNoName ?kNoName ?bNoName ?tNoName ?gNoNames ?qNoNames ?kNoNames ?bNoNames ?tNoNames ?gNoNumber ?qNoNumber ?kNoNumber ?bNoNumber ?tNoNumber ?gNoNumbers ?qNoNumbers ?kNoNumbers ?bNoNumbers ?tNoNumbers ?gNoPlace ?qNoPlace ?kNoPlace ?bNoPlace ?tNoPlace ?gNoRow ?qNoRow ?kNoRow ?bNoRow ?tNoRow ?gNoRule ?qNoRule ?kNoRule ?bNoRule ?tNoRule ?gNoWeights ?qNoWeights ?kNoWeights ?bNoWeights ?tNoWeights ?gNoWish ?qNoWish ?kNoWish ?bNoWish ?tNoWish ?gNoWorld ?qNoWorld ?kNoWorld ?bNoWorld ?tNoWorld ?gNotKept ?kNotKept ?bNotKept ?tNotKept ?gNotRight ?qNotRight ?kNotRight ?bNotRight ?tNotRight ?gNotServed ?qNotServed ?kNotServed ?bNotServed ?tNotServed ?gNothingDone ?qNothingDone ?kNothingDone ?bNothingDone ?tNothingDone ?gOtherBook ?qOtherBook ?kOtherBook ?bOtherBook ?tOtherBook ?gTooLarge ?kTooLarge ?bTooLarge ?tTooLarge ?gTooMany ?kTooMany ?bTooMany ?tTooMany ?iBadBook ?sBadBook_BadBook ?sBadClerk_BadBook ?sBadParty_BadBook ?sBadText_BadBook ?sElderError_BadBook ?sNoClaim_BadBook ?sNoClock_BadBook ?sNoDemand_BadBook ?sNoFolk_BadBook ?sNoFractions_BadBook ?sNoGrade_BadBook ?sNoInstance_BadBook ?sNoLabels_BadBook ?sNoLine_BadBook ?sNoName_BadBook ?sNoNames_BadBook ?sNoNumber_BadBook ?sNoNumbers_BadBook ?sNoPlace_BadBook ?sNoRow_BadBook ?sNoRule_BadBook ?sNoWeights_BadBook ?sNoWish_BadBook ?sNoWorld_BadBook ?sNotKept_BadBook ?sNotRight_BadBook ?sNotServed_BadBook ?sNothingDone_BadBook ?sOtherBook_BadBook ?sTooLarge_BadBook ?sTooMany_BadBook ?iElderError ?sBadBook_ElderError ?sBadClerk_ElderError ?sBadParty_ElderError ?sBadText_ElderError ?sElderError_ElderError ?sNoClaim_ElderError ?sNoClock_ElderError ?sNoDemand_ElderError ?sNoFolk_ElderError ?sNoFractions_ElderError ?sNoGrade_ElderError ?sNoInstance_ElderError ?sNoLabels_ElderError ?sNoLine_ElderError ?sNoName_ElderError ?sNoNames_ElderError ?sNoNumber_ElderError ?sNoNumbers_ElderError ?sNoPlace_ElderError ?sNoRow_ElderError ?sNoRule_ElderError ?sNoWeights_ElderError ?sNoWish_ElderError ?sNoWorld_ElderError ?sNotKept_ElderError ?sNotRight_ElderError ?sNotServed_ElderError ?sNothingDone_ElderError ?sOtherBook_ElderError ?sTooLarge_ElderError ?sTooMany_ElderError ?exb ?sg ?st ?ixBadBook ?ixBadClerk ?ixBadParty ?ixBadText ?ixElderError ?ixNoClaim ?ixNoClock ?ixNoDemand ?ixNoFolk ?ixNoFractions ?ixNoGrade ?ixNoInstance ?ixNoLabels ?ixNoLine ?ixNoName ?ixNoNames ?ixNoNumber ?ixNoNumbers ?ixNoPlace ?ixNoRow ?ixNoRule ?ixNoWeights ?ixNoWish ?ixNoWorld ?ixNotKept ?ixNotRight ?ixNotServed ?ixNothingDone ?ixOtherBook ?ixTooLarge ?ixTooMany ?ixValueError ?xnNotKept_label ?xnBadText_line ?xnTooLarge_most ?xnTooMany_most ?xnBadBook_part ?xnBadParty_part ?xnBadClerk_part ?supop ?supng ?suptp ?uaBadBook ?ubBadBook ?ucBadBook ?udBadBook ?ueBadBook ?ufBadBook ?ugBadBook ?uhBadBook ?uiBadBook ?ujBadBook ?ukBadBook ?ulBadBook ?umBadBook ?unBadBook ?uoBadBook ?uaBadClerk ?ubBadClerk ?ucBadClerk ?udBadClerk ?ueBadClerk ?ufBadClerk ?ugBadClerk ?uhBadClerk ?uiBadClerk ?ujBadClerk ?ukBadClerk ?ulBadClerk ?umBadClerk ?unBadClerk ?uoBadClerk ?uaBadParty ?ubBadParty ?ucBadParty ?udBadParty ?ueBadParty ?ufBadParty ?ugBadParty ?uhBadParty ?uiBadParty ?ujBadParty ?ukBadParty ?ulBadParty ?umBadParty ?unBadParty ?uoBadParty ?uaBadText ?ubBadText ?ucBadText ?udBadText ?ueBadText ?ufBadText ?ugBadText ?uhBadText ?uiBadText ?ujBadText ?ukBadText ?ulBadText ?umBadText ?unBadText ?uoBadText ?uaNotKept ?ubNotKept ?ucNotKept ?udNotKept ?ueNotKept ?ufNotKept ?ugNotKept ?uhNotKept ?uiNotKept ?ujNotKept ?ukNotKept ?ulNotKept ?umNotKept ?unNotKept ?uoNotKept ?uaTooLarge ?ubTooLarge ?ucTooLarge ?udTooLarge ?ueTooLarge ?ufTooLarge ?ugTooLarge ?uhTooLarge ?uiTooLarge ?ujTooLarge ?ukTooLarge ?ulTooLarge ?umTooLarge ?unTooLarge ?uoTooLarge ?uaTooMany ?ubTooMany ?ucTooMany ?udTooMany ?ueTooMany ?ufTooMany ?ugTooMany ?uhTooMany ?uiTooMany ?ujTooMany ?ukTooMany ?ulTooMany ?umTooMany ?unTooMany ?uoTooMany ?a0 ?l0 ?c0 ?k0 ?a1 ?l1 ?c1 ?k1 ?a2 ?l2 ?c2 ?k2 ?a3 ?l3 ?c3 ?k3 ?a4 ?l4 ?c4 ?k4 ?a5 ?l5 ?c5 ?k5 ?a6 ?l6 ?c6 ?k6 ?a7 ?l7 ?c7 ?k7 ?a8 ?l8 ?c8 ?k8 ?a9 ?l9 ?c9 ?k9 ?a10 ?l10 ?c10 ?k10 ?a11 ?l11 ?c11 ?k11
    (case n_ValueError => k_is); (case n_all => k_is); (case n_int => k_is); (case n_isinstance => k_is); (case n_len => k_is); (case n_range => k_is); (case n_repr => k_is); (case gBadBook => k_is); (case kBadBook => k_is); (case bBadBook => k_is); (case tBadBook => k_is); (case gBadClerk => k_is); (case kBadClerk => k_is); (case bBadClerk => k_is); (case tBadClerk => k_is); (case gBadParty => k_is); (case kBadParty => k_is); (case bBadParty => k_is); (case tBadParty => k_is); (case gBadText => k_is); (case kBadText => k_is); (case bBadText => k_is); (case tBadText => k_is); (case gElderError => k_is); (case kElderError => k_is); (case bElderError => k_is); (case tElderError => k_is); (case gNoClaim => k_is); (case qNoClaim => k_exc); (case kNoClaim => k_is); (case bNoClaim => k_is); (case tNoClaim => k_is); (case gNoClock => k_is); (case qNoClock => k_exc); (case kNoClock => k_is); (case bNoClock => k_is); (case tNoClock => k_is); (case gNoDemand => k_is); (case qNoDemand => k_exc); (case kNoDemand => k_is); (case bNoDemand => k_is); (case tNoDemand => k_is); (case gNoFolk => k_is); (case qNoFolk => k_exc); (case kNoFolk => k_is); (case bNoFolk => k_is); (case tNoFolk => k_is); (case gNoFractions => k_is); (case qNoFractions => k_exc); (case kNoFractions => k_is); (case bNoFractions => k_is); (case tNoFractions => k_is); (case gNoGrade => k_is); (case qNoGrade => k_exc); (case kNoGrade => k_is); (case bNoGrade => k_is); (case tNoGrade => k_is); (case gNoInstance => k_is); (case qNoInstance => k_exc); (case kNoInstance => k_is); (case bNoInstance => k_is); (case tNoInstance => k_is); (case gNoLabels => k_is); (case qNoLabels => k_exc); (case kNoLabels => k_is); (case bNoLabels => k_is); (case tNoLabels => k_is); (case gNoLine => k_is); (case qNoLine => k_exc); (case kNoLine => k_is); (case bNoLine => k_is); (case tNoLine => k_is); (case gNoName => k_is); (case qNoName => k_exc); (case kNoName => k_is); (case bNoName => k_is); (case tNoName => k_is); (case gNoNames => k_is); (case qNoNames => k_exc); (case kNoNames => k_is); (case bNoNames => k_is); (case tNoNames => k_is); (case gNoNumber => k_is); (case qNoNumber => k_exc); (case kNoNumber => k_is); (case bNoNumber => k_is); (case tNoNumber => k_is); (case gNoNumbers => k_is); (case qNoNumbers => k_exc); (case kNoNumbers => k_is); (case bNoNumbers => k_is); (case tNoNumbers => k_is); (case gNoPlace => k_is); (case qNoPlace => k_exc); (case kNoPlace => k_is); (case bNoPlace => k_is); (case tNoPlace => k_is); (case gNoRow => k_is); (case qNoRow => k_exc); (case kNoRow => k_is); (case bNoRow => k_is); (case tNoRow => k_is); (case gNoRule => k_is); (case qNoRule => k_exc); (case kNoRule => k_is); (case bNoRule => k_is); (case tNoRule => k_is); (case gNoWeights => k_is); (case qNoWeights => k_exc); (case kNoWeights => k_is); (case bNoWeights => k_is); (case tNoWeights => k_is); (case gNoWish => k_is); (case qNoWish => k_exc); (case kNoWish => k_is); (case bNoWish => k_is); (case tNoWish => k_is); (case gNoWorld => k_is); (case qNoWorld => k_exc); (case kNoWorld => k_is); (case bNoWorld => k_is); (case tNoWorld => k_is); (case gNotKept => k_is); (case kNotKept => k_is); (case bNotKept => k_is); (case tNotKept => k_is); (case gNotRight => k_is); (case qNotRight => k_exc); (case kNotRight => k_is); (case bNotRight => k_is); (case tNotRight => k_is); (case gNotServed => k_is); (case qNotServed => k_exc); (case kNotServed => k_is); (case bNotServed => k_is); (case tNotServed => k_is); (case gNothingDone => k_is); (case qNothingDone => k_exc); (case kNothingDone => k_is); (case bNothingDone => k_is); (case tNothingDone => k_is); (case gOtherBook => k_is); (case qOtherBook => k_exc); (case kOtherBook => k_is); (case bOtherBook => k_is); (case tOtherBook => k_is); (case gTooLarge => k_is); (case kTooLarge => k_is); (case bTooLarge => k_is); (case tTooLarge => k_is); (case gTooMany => k_is); (case kTooMany => k_is); (case bTooMany => k_is); (case tTooMany => k_is); (case iBadBook => k_is); (case sBadBook_BadBook => first | rfl | k_is); (case sBadClerk_BadBook => first | rfl | k_is); (case sBadParty_BadBook => first | rfl | k_is); (case sBadText_BadBook => first | rfl | k_is); (case sElderError_BadBook => first | rfl | k_is); (case sNoClaim_BadBook => first | rfl | k_is); (case sNoClock_BadBook => first | rfl | k_is); (case sNoDemand_BadBook => first | rfl | k_is); (case sNoFolk_BadBook => first | rfl | k_is); (case sNoFractions_BadBook => first | rfl | k_is); (case sNoGrade_BadBook => first | rfl | k_is); (case sNoInstance_BadBook => first | rfl | k_is); (case sNoLabels_BadBook => first | rfl | k_is); (case sNoLine_BadBook => first | rfl | k_is); (case sNoName_BadBook => first | rfl | k_is); (case sNoNames_BadBook => first | rfl | k_is); (case sNoNumber_BadBook => first | rfl | k_is); (case sNoNumbers_BadBook => first | rfl | k_is); (case sNoPlace_BadBook => first | rfl | k_is); (case sNoRow_BadBook => first | rfl | k_is); (case sNoRule_BadBook => first | rfl | k_is); (case sNoWeights_BadBook => first | rfl | k_is); (case sNoWish_BadBook => first | rfl | k_is); (case sNoWorld_BadBook => first | rfl | k_is); (case sNotKept_BadBook => first | rfl | k_is); (case sNotRight_BadBook => first | rfl | k_is); (case sNotServed_BadBook => first | rfl | k_is); (case sNothingDone_BadBook => first | rfl | k_is); (case sOtherBook_BadBook => first | rfl | k_is); (case sTooLarge_BadBook => first | rfl | k_is); (case sTooMany_BadBook => first | rfl | k_is); (case iElderError => k_is); (case sBadBook_ElderError => first | rfl | k_is); (case sBadClerk_ElderError => first | rfl | k_is); (case sBadParty_ElderError => first | rfl | k_is); (case sBadText_ElderError => first | rfl | k_is); (case sElderError_ElderError => first | rfl | k_is); (case sNoClaim_ElderError => first | rfl | k_is); (case sNoClock_ElderError => first | rfl | k_is); (case sNoDemand_ElderError => first | rfl | k_is); (case sNoFolk_ElderError => first | rfl | k_is); (case sNoFractions_ElderError => first | rfl | k_is); (case sNoGrade_ElderError => first | rfl | k_is); (case sNoInstance_ElderError => first | rfl | k_is); (case sNoLabels_ElderError => first | rfl | k_is); (case sNoLine_ElderError => first | rfl | k_is); (case sNoName_ElderError => first | rfl | k_is); (case sNoNames_ElderError => first | rfl | k_is); (case sNoNumber_ElderError => first | rfl | k_is); (case sNoNumbers_ElderError => first | rfl | k_is); (case sNoPlace_ElderError => first | rfl | k_is); (case sNoRow_ElderError => first | rfl | k_is); (case sNoRule_ElderError => first | rfl | k_is); (case sNoWeights_ElderError => first | rfl | k_is); (case sNoWish_ElderError => first | rfl | k_is); (case sNoWorld_ElderError => first | rfl | k_is); (case sNotKept_ElderError => first | rfl | k_is); (case sNotRight_ElderError => first | rfl | k_is); (case sNotServed_ElderError => first | rfl | k_is); (case sNothingDone_ElderError => first | rfl | k_is); (case sOtherBook_ElderError => first | rfl | k_is); (case sTooLarge_ElderError => first | rfl | k_is); (case sTooMany_ElderError => first | rfl | k_is); (case exb => kernel_rfl); (case sg => k_is); (case st => k_is); (case ixBadBook => kernel_rfl); (case ixBadClerk => kernel_rfl); (case ixBadParty => kernel_rfl); (case ixBadText => kernel_rfl); (case ixElderError => kernel_rfl); (case ixNoClaim => kernel_rfl); (case ixNoClock => kernel_rfl); (case ixNoDemand => kernel_rfl); (case ixNoFolk => kernel_rfl); (case ixNoFractions => kernel_rfl); (case ixNoGrade => kernel_rfl); (case ixNoInstance => kernel_rfl); (case ixNoLabels => kernel_rfl); (case ixNoLine => kernel_rfl); (case ixNoName => kernel_rfl); (case ixNoNames => kernel_rfl); (case ixNoNumber => kernel_rfl); (case ixNoNumbers => kernel_rfl); (case ixNoPlace => kernel_rfl); (case ixNoRow => kernel_rfl); (case ixNoRule => kernel_rfl); (case ixNoWeights => kernel_rfl); (case ixNoWish => kernel_rfl); (case ixNoWorld => kernel_rfl); (case ixNotKept => kernel_rfl); (case ixNotRight => kernel_rfl); (case ixNotServed => kernel_rfl); (case ixNothingDone => kernel_rfl); (case ixOtherBook => kernel_rfl); (case ixTooLarge => kernel_rfl); (case ixTooMany => kernel_rfl); (case ixValueError => kernel_rfl); (case xnNotKept_label => k_is); (case xnBadText_line => k_is); (case xnTooLarge_most => k_is); (case xnTooMany_most => k_is); (case xnBadBook_part => k_is); (case xnBadParty_part => k_is); (case xnBadClerk_part => k_is); (case supop => k_is); (case supng => k_is); (case suptp => first | rfl | kernel_rfl); (case uaBadBook => k_is); (case ubBadBook => first | rfl | decide +kernel); (case ucBadBook => k_is); (case udBadBook => k_is); (case ueBadBook => k_is); (case ufBadBook => k_is); (case ugBadBook => first | kernel_rfl | rfl); (case uhBadBook => k_is); (case uiBadBook => k_is); (case ujBadBook => k_is); (case ukBadBook => k_is); (case ulBadBook => k_is); (case umBadBook => rfl); (case unBadBook => first | rfl | kernel_rfl | decide +kernel); (case uoBadBook => k_is); (case uaBadClerk => k_is); (case ubBadClerk => first | rfl | decide +kernel); (case ucBadClerk => k_is); (case udBadClerk => k_is); (case ueBadClerk => k_is); (case ufBadClerk => k_is); (case ugBadClerk => first | kernel_rfl | rfl); (case uhBadClerk => k_is); (case uiBadClerk => k_is); (case ujBadClerk => k_is); (case ukBadClerk => k_is); (case ulBadClerk => k_is); (case umBadClerk => rfl); (case unBadClerk => first | rfl | kernel_rfl | decide +kernel); (case uoBadClerk => k_is); (case uaBadParty => k_is); (case ubBadParty => first | rfl | decide +kernel); (case ucBadParty => k_is); (case udBadParty => k_is); (case ueBadParty => k_is); (case ufBadParty => k_is); (case ugBadParty => first | kernel_rfl | rfl); (case uhBadParty => k_is); (case uiBadParty => k_is); (case ujBadParty => k_is); (case ukBadParty => k_is); (case ulBadParty => k_is); (case umBadParty => rfl); (case unBadParty => first | rfl | kernel_rfl | decide +kernel); (case uoBadParty => k_is); (case uaBadText => k_is); (case ubBadText => first | rfl | decide +kernel); (case ucBadText => k_is); (case udBadText => k_is); (case ueBadText => k_is); (case ufBadText => k_is); (case ugBadText => first | kernel_rfl | rfl); (case uhBadText => k_is); (case uiBadText => k_is); (case ujBadText => k_is); (case ukBadText => k_is); (case ulBadText => k_is); (case umBadText => rfl); (case unBadText => first | rfl | kernel_rfl | decide +kernel); (case uoBadText => k_is); (case uaNotKept => k_is); (case ubNotKept => first | rfl | decide +kernel); (case ucNotKept => k_is); (case udNotKept => k_is); (case ueNotKept => k_is); (case ufNotKept => k_is); (case ugNotKept => first | kernel_rfl | rfl); (case uhNotKept => k_is); (case uiNotKept => k_is); (case ujNotKept => k_is); (case ukNotKept => k_is); (case ulNotKept => k_is); (case umNotKept => rfl); (case unNotKept => first | rfl | kernel_rfl | decide +kernel); (case uoNotKept => k_is); (case uaTooLarge => k_is); (case ubTooLarge => first | rfl | decide +kernel); (case ucTooLarge => k_is); (case udTooLarge => k_is); (case ueTooLarge => k_is); (case ufTooLarge => k_is); (case ugTooLarge => first | kernel_rfl | rfl); (case uhTooLarge => k_is); (case uiTooLarge => k_is); (case ujTooLarge => k_is); (case ukTooLarge => k_is); (case ulTooLarge => k_is); (case umTooLarge => rfl); (case unTooLarge => first | rfl | kernel_rfl | decide +kernel); (case uoTooLarge => k_is); (case uaTooMany => k_is); (case ubTooMany => first | rfl | decide +kernel); (case ucTooMany => k_is); (case udTooMany => k_is); (case ueTooMany => k_is); (case ufTooMany => k_is); (case ugTooMany => first | kernel_rfl | rfl); (case uhTooMany => k_is); (case uiTooMany => k_is); (case ujTooMany => k_is); (case ukTooMany => k_is); (case ulTooMany => k_is); (case umTooMany => rfl); (case unTooMany => first | rfl | kernel_rfl | decide +kernel); (case uoTooMany => k_is); (case a0 => k_is); (case l0 => k_is); (case c0 => k_is); (case k0 => k_is); (case a1 => k_is); (case l1 => k_is); (case c1 => k_is); (case k1 => k_is); (case a2 => k_is); (case l2 => k_is); (case c2 => k_is); (case k2 => k_is); (case a3 => k_is); (case l3 => k_is); (case c3 => k_is); (case k3 => k_is); (case a4 => k_is); (case l4 => k_is); (case c4 => k_is); (case k4 => k_is); (case a5 => k_is); (case l5 => k_is); (case c5 => k_is); (case k5 => k_is); (case a6 => k_is); (case l6 => k_is); (case c6 => k_is); (case k6 => k_is); (case a7 => k_is); (case l7 => k_is); (case c7 => k_is); (case k7 => k_is); (case a8 => k_is); (case l8 => k_is); (case c8 => k_is); (case k8 => k_is); (case a9 => k_is); (case l9 => k_is); (case c9 => k_is); (case k9 => k_is); (case a10 => k_is); (case l10 => k_is); (case c10 => k_is); (case k10 => k_is); (case a11 => k_is); (case l11 => k_is); (case c11 => k_is); (case k11 => k_is)
