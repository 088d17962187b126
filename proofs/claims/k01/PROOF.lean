import PyProof.Rows.All
import Wide.All
import OpenK.AllK
import Wide.FinOn
import HandS.ForMost
import HandS.Exc
import HandS.ExcOwn
import HandS.TryOnly
import HandS.TryMany
import HandS.Walk
import HandS.HeadHook2
import HandS.Wide
import HandS.Flow
import HandS.Style
import KE.DataEq
import HandS.IsInst
import HandS.Text
import HandS.Defaults
import HandS.Head0
import HandS.Head1
import HandS.Head2
import HandS.HeadEnd
import HandS.HeadHook1
import HandS.Ends
import HandS.Words
import HandS.WordsExc
import PySem.Challenge.RW_tilesure_k01_parts_and_parents
set_option linter.all false
set_option Elab.async false
set_option maxRecDepth 100000
set_option maxHeartbeats 0
/-! The layer of data: D, how data lie in the heap, the state's relation. -/
namespace Y
open PySem PySem.Spec PyProof.Rows L2

inductive D where
  | non | bl (b : Bool) | int (i : Int) | str (s : List Nat)
  | tup (xs : List D) | lst (o : Bool) (xs : List D) | dct (o : Bool) (kvs : List (D × D))
  | ins (o : Bool) (c : Nat) (fs : List (Nat × D)) | scr (xs : List Int)
  deriving Inhabited

abbrev AS := Addr → Prop
abbrev Env := List (Option D)

/-- the top is owned -/
def D.own : D → Bool
  | .lst o _ => o
  | .dct o _ => o
  | .ins o _ _ => o
  | _ => false

mutual
def D.frz : D → D
  | .lst true xs => .lst false (frzL xs)
  | .dct true kvs => .dct false (frzK kvs)
  | .ins true c fs => .ins false c (frzF fs)
  | d => d
def frzL : List D → List D
  | [] => []
  | d :: ds => d.frz :: frzL ds
def frzK : List (D × D) → List (D × D)
  | [] => []
  | (k, d) :: r => (k, d.frz) :: frzK r
def frzF : List (Nat × D) → List (Nat × D)
  | [] => []
  | (k, d) :: r => (k, d.frz) :: frzF r
end

/-- names of fields and classes -/
structure Tb where
  fld : Nat → Str
  cls : Nat → Str
structure Gx where
  K : PySem.W.Frag
  tb : Tb

def mkS (s : List Nat) : Str := ⟨s.toArray⟩
def kD : Key → D
  | .inl i => .int i
  | .inr x => .str x.cps.toList

/-- a list that never changes -/
def LF (Fz : AS) (H : Hp) (a : Addr) (vs : List V) : Prop := Fz a ∧ H a = some (.lst vs)
theorem LF.sql {K : PySem.W.Frag} {Fz : AS} {H : Hp} {a : Addr} {vs : List V} (h : LF Fz H a vs) : SqL K H a vs := .inl (.inl h.2)
/-- the script -/
def SC (K : PySem.W.Frag) (H : Hp) (a : Addr) (ns : List Int) : Prop := (∃ o, H a = some (.frz o (.lst (ns.map V.int)))) ∨
    ∃ (o : Obj) (its : Array Value) (n : Nat), K.lookup a = some o ∧ o.cls = .type "list" ∧ o.dict = none ∧ o.data = .seq its n ∧ its.size ≤ sizeLine ∧ Vals (ns.map V.int) its.toList
theorem SC.sql {K : PySem.W.Frag} {H : Hp} {a : Addr} {ns : List Int} (h : SC K H a ns) : SqL K H a (ns.map V.int) := by
  rcases h with h | h
  · exact .inl (.inr h)
  · exact .inr h
/-- a dict's entries: keys ints and texts, or tuples of these -/
def DI (H : Hp) (a : Addr) (ks : List D) (vs : List V) (rd : Hp → Addr → HO → Prop) : Prop :=
  (∃ kk : List Key, ks = kk.map kD ∧ rd H a (.dK (kk.zip vs))) ∨ ∃ kk : List (List Key), ks = kk.map (fun k => .tup (k.map kD)) ∧ rd H a (.dT (kk.zip vs))
abbrev At : Hp → Addr → HO → Prop := fun H a o => H a = some o
abbrev insO (G : Gx) (c : Nat) (dx : Addr) (ks : List Nat) (vs : List V) : HO := .ins (He.ga G.K (G.tb.cls c)) dx ((ks.map G.tb.fld).zip vs)

section
variable (G : Gx) (Fz : AS) (H : Hp)
mutual
def RepF : D → V → Prop
  | .non, v => v = .non
  | .bl b, v => v = .bl b
  | .int i, v => v = .int i
  | .str s, v => v = .str (mkS s)
  | .tup ds, v => ∃ a vs, v = .ref a ∧ SqT G.K H a vs ∧ RepFL ds vs
  | .lst o ds, v => o = false ∧ ∃ a vs, v = .ref a ∧ LF Fz H a vs ∧ RepFL ds vs
  | .dct o kvs, v => o = false ∧ ∃ a vs, v = .ref a ∧ Fz a ∧ DI H a (kvs.map (·.1)) vs Rd ∧ RepFK kvs vs
  | .ins o c fs, v => o = false ∧ ∃ a dx vs, v = .ref a ∧ Fz a ∧ H a = some (insO G c dx (fs.map (·.1)) vs) ∧ RepFF fs vs
  | .scr ns, v => ∃ a, v = .ref a ∧ SC G.K H a ns
def RepFL : List D → List V → Prop
  | [], vs => vs = []
  | d :: ds, vs => ∃ v r, vs = v :: r ∧ RepF d v ∧ RepFL ds r
def RepFK : List (D × D) → List V → Prop
  | [], vs => vs = []
  | (_, d) :: ds, vs => ∃ v r, vs = v :: r ∧ RepF d v ∧ RepFK ds r
def RepFF : List (Nat × D) → List V → Prop
  | [], vs => vs = []
  | (_, d) :: ds, vs => ∃ v r, vs = v :: r ∧ RepF d v ∧ RepFF ds r
end
abbrev nul : AS := fun _ => False
def Dsj (f g : AS) : Prop := ∀ a, f a → g a → False
mutual
def RepO : D → V → AS → Prop
  | .lst o ds, v, f => (o = true ∧ ∃ a vs g, v = .ref a ∧ H a = some (.lst vs) ∧ RepOL ds vs g ∧ ¬ g a ∧ ∀ b, f b ↔ (b = a ∨ g b)) ∨ (RepF G Fz H (.lst o ds) v ∧ ∀ b, ¬ f b)
  | .dct o kvs, v, f => (o = true ∧ ∃ a vs g, v = .ref a ∧ DI H a (kvs.map (·.1)) vs At ∧ RepOK kvs vs g ∧ ¬ g a ∧ ∀ b, f b ↔ (b = a ∨ g b)) ∨ (RepF G Fz H (.dct o kvs) v ∧ ∀ b, ¬ f b)
  | .ins o c fs, v, f => (o = true ∧ ∃ a dx vs g, v = .ref a ∧ H a = some (insO G c dx (fs.map (·.1)) vs) ∧ RepOF fs vs g ∧ ¬ g a ∧ ∀ b, f b ↔ (b = a ∨ g b)) ∨ (RepF G Fz H (.ins o c fs) v ∧ ∀ b, ¬ f b)
  | .non, v, f => v = .non ∧ ∀ b, ¬ f b
  | .bl x, v, f => v = .bl x ∧ ∀ b, ¬ f b
  | .int i, v, f => v = .int i ∧ ∀ b, ¬ f b
  | .str s, v, f => v = .str (mkS s) ∧ ∀ b, ¬ f b
  | .tup ds, v, f => RepF G Fz H (.tup ds) v ∧ ∀ b, ¬ f b
  | .scr ns, v, f => RepF G Fz H (.scr ns) v ∧ ∀ b, ¬ f b
def RepOL : List D → List V → AS → Prop
  | [], vs, f => vs = [] ∧ ∀ b, ¬ f b
  | d :: ds, vs, f => ∃ v r g1 g2, vs = v :: r ∧ RepO d v g1 ∧ RepOL ds r g2 ∧ Dsj g1 g2 ∧ ∀ b, f b ↔ (g1 b ∨ g2 b)
def RepOK : List (D × D) → List V → AS → Prop
  | [], vs, f => vs = [] ∧ ∀ b, ¬ f b
  | (_, d) :: ds, vs, f => ∃ v r g1 g2, vs = v :: r ∧ RepO d v g1 ∧ RepOK ds r g2 ∧ Dsj g1 g2 ∧ ∀ b, f b ↔ (g1 b ∨ g2 b)
def RepOF : List (Nat × D) → List V → AS → Prop
  | [], vs, f => vs = [] ∧ ∀ b, ¬ f b
  | (_, d) :: ds, vs, f => ∃ v r g1 g2, vs = v :: r ∧ RepO d v g1 ∧ RepOF ds r g2 ∧ Dsj g1 g2 ∧ ∀ b, f b ↔ (g1 b ∨ g2 b)
end
end

/-- what is kept from one heap to another: what is frozen, what nobody writes -/
def Kp (Fz : AS) (H H' : Hp) : Prop := ∀ a o, H a = some o → (Fz a ∨ ¬ Mut (some o)) → H' a = some o
theorem Kp.rd {Fz : AS} {H H' : Hp} (k : Kp Fz H H') {a : Addr} {u : HO} (h : Rd H a u) (f : Fz a ∨ ¬ Mut (some u)) : Rd H' a u := by
  rcases h with h | ⟨o, h⟩
  · exact .inl (k a _ h f)
  · exact .inr ⟨o, k a _ h (.inr fun z => z)⟩
theorem Kp.sqt {G : Gx} {Fz : AS} {H H' : Hp} (k : Kp Fz H H') {a : Addr} {vs : List V} (h : SqT G.K H a vs) : SqT G.K H' a vs := by
  rcases h with h | h
  · exact .inl (k.rd h (.inr fun z => z))
  · exact .inr h
theorem Kp.lf {Fz Fz' : AS} {H H' : Hp} (k : Kp Fz H H') (z : ∀ a, Fz a → Fz' a) {a : Addr} {vs : List V} (h : LF Fz H a vs) : LF Fz' H' a vs := ⟨z a h.1, k a _ h.2 (.inl h.1)⟩
theorem Kp.sc {K : PySem.W.Frag} {Fz : AS} {H H' : Hp} (k : Kp Fz H H') {a : Addr} {ns : List Int} (h : SC K H a ns) : SC K H' a ns := by
  rcases h with ⟨o, h⟩ | h
  · exact .inl ⟨o, k a _ h (.inr fun z => z)⟩
  · exact .inr h
theorem Kp.di {Fz : AS} {H H' : Hp} (k : Kp Fz H H') {a : Addr} {ks : List D} {vs : List V} (f : Fz a) (h : DI H a ks vs Rd) : DI H' a ks vs Rd := by
  rcases h with ⟨kk, e, h⟩ | ⟨kk, e, h⟩
  · exact .inl ⟨kk, e, k.rd h (.inl f)⟩
  · exact .inr ⟨kk, e, k.rd h (.inl f)⟩
section
variable {G : Gx} {Fz Fz' : AS} {H H' : Hp}
mutual
theorem RepF.mono (k : Kp Fz H H') (z : ∀ a, Fz a → Fz' a) : ∀ {d : D} {v : V}, RepF G Fz H d v → RepF G Fz' H' d v
  | .non, _, h => h
  | .bl _, _, h => h
  | .int _, _, h => h
  | .str _, _, h => h
  | .tup _, _, ⟨a, vs, e, h, r⟩ => ⟨a, vs, e, k.sqt h, RepFL.mono k z r⟩
  | .lst _ _, _, ⟨o, a, vs, e, h, r⟩ => ⟨o, a, vs, e, k.lf z h, RepFL.mono k z r⟩
  | .dct _ _, _, ⟨o, a, vs, e, f, h, r⟩ => ⟨o, a, vs, e, z a f, k.di f h, RepFK.mono k z r⟩
  | .ins _ _ _, _, ⟨o, a, dx, vs, e, f, h, r⟩ => ⟨o, a, dx, vs, e, z a f, k a _ h (.inl f), RepFF.mono k z r⟩
  | .scr _, _, ⟨a, e, h⟩ => ⟨a, e, k.sc h⟩
theorem RepFL.mono (k : Kp Fz H H') (z : ∀ a, Fz a → Fz' a) : ∀ {ds : List D} {vs : List V}, RepFL G Fz H ds vs → RepFL G Fz' H' ds vs
  | [], _, h => h
  | _ :: _, _, ⟨v, r, e, h, t⟩ => ⟨v, r, e, RepF.mono k z h, RepFL.mono k z t⟩
theorem RepFK.mono (k : Kp Fz H H') (z : ∀ a, Fz a → Fz' a) : ∀ {ds : List (D × D)} {vs : List V}, RepFK G Fz H ds vs → RepFK G Fz' H' ds vs
  | [], _, h => h
  | (_, _) :: _, _, ⟨v, r, e, h, t⟩ => ⟨v, r, e, RepF.mono k z h, RepFK.mono k z t⟩
theorem RepFF.mono (k : Kp Fz H H') (z : ∀ a, Fz a → Fz' a) : ∀ {ds : List (Nat × D)} {vs : List V}, RepFF G Fz H ds vs → RepFF G Fz' H' ds vs
  | [], _, h => h
  | (_, _) :: _, _, ⟨v, r, e, h, t⟩ => ⟨v, r, e, RepF.mono k z h, RepFF.mono k z t⟩
end
mutual
/-- .. with what is owned -/
theorem RepO.mono (z : ∀ a, Fz a → Fz' a) : ∀ {d : D} {v : V} {f : AS}, RepO G Fz H d v f → Kp (fun a => Fz a ∨ f a) H H' → RepO G Fz' H' d v f
  | .lst _ _, _, f, .inl ⟨o, a, vs, g, e, h, r, n, q⟩, k => .inl ⟨o, a, vs, g, e, k a _ h (.inl (.inr ((q a).mpr (.inl rfl)))), RepOL.mono z r fun b u h x => k b u h (x.imp (fun x => x.imp id fun y => (q b).mpr (.inr y)) id), n, q⟩
  | .lst _ _, _, f, .inr ⟨h, n⟩, k => .inr ⟨h.mono (fun b u h x => k b u h (x.imp .inl id)) z, n⟩
  | .dct _ _, _, f, .inl ⟨o, a, vs, g, e, h, r, n, q⟩, k => by
    refine .inl ⟨o, a, vs, g, e, ?_, RepOK.mono z r fun b u h x => k b u h (x.imp (fun x => x.imp id fun y => (q b).mpr (.inr y)) id), n, q⟩
    have fa : f a := (q a).mpr (.inl rfl)
    rcases h with ⟨kk, e, h⟩ | ⟨kk, e, h⟩
    · exact .inl ⟨kk, e, k a _ h (.inl (.inr fa))⟩
    · exact .inr ⟨kk, e, k a _ h (.inl (.inr fa))⟩
  | .dct _ _, _, f, .inr ⟨h, n⟩, k => .inr ⟨h.mono (fun b u h x => k b u h (x.imp .inl id)) z, n⟩
  | .ins _ _ _, _, f, .inl ⟨o, a, dx, vs, g, e, h, r, n, q⟩, k => .inl ⟨o, a, dx, vs, g, e, k a _ h (.inl (.inr ((q a).mpr (.inl rfl)))), RepOF.mono z r fun b u h x => k b u h (x.imp (fun x => x.imp id fun y => (q b).mpr (.inr y)) id), n, q⟩
  | .ins _ _ _, _, f, .inr ⟨h, n⟩, k => .inr ⟨h.mono (fun b u h x => k b u h (x.imp .inl id)) z, n⟩
  | .non, _, _, h, _ => h
  | .bl _, _, _, h, _ => h
  | .int _, _, _, h, _ => h
  | .str _, _, _, h, _ => h
  | .tup _, _, _, ⟨h, n⟩, k => ⟨h.mono (fun b u h x => k b u h (x.imp .inl id)) z, n⟩
  | .scr _, _, _, ⟨h, n⟩, k => ⟨h.mono (fun b u h x => k b u h (x.imp .inl id)) z, n⟩
theorem RepOL.mono (z : ∀ a, Fz a → Fz' a) : ∀ {d : List D} {v : List V} {f : AS}, RepOL G Fz H d v f → Kp (fun a => Fz a ∨ f a) H H' → RepOL G Fz' H' d v f
  | [], _, _, h, _ => h
  | _ :: _, _, _, ⟨v, r, g1, g2, e, h, t, n, q⟩, k => ⟨v, r, g1, g2, e, RepO.mono z h fun b u h x => k b u h (x.imp (fun x => x.imp id fun y => (q b).mpr (.inl y)) id), RepOL.mono z t fun b u h x => k b u h (x.imp (fun x => x.imp id fun y => (q b).mpr (.inr y)) id), n, q⟩
theorem RepOK.mono (z : ∀ a, Fz a → Fz' a) : ∀ {d : List (D × D)} {v : List V} {f : AS}, RepOK G Fz H d v f → Kp (fun a => Fz a ∨ f a) H H' → RepOK G Fz' H' d v f
  | [], _, _, h, _ => h
  | (_, _) :: _, _, _, ⟨v, r, g1, g2, e, h, t, n, q⟩, k => ⟨v, r, g1, g2, e, RepO.mono z h fun b u h x => k b u h (x.imp (fun x => x.imp id fun y => (q b).mpr (.inl y)) id), RepOK.mono z t fun b u h x => k b u h (x.imp (fun x => x.imp id fun y => (q b).mpr (.inr y)) id), n, q⟩
theorem RepOF.mono (z : ∀ a, Fz a → Fz' a) : ∀ {d : List (Nat × D)} {v : List V} {f : AS}, RepOF G Fz H d v f → Kp (fun a => Fz a ∨ f a) H H' → RepOF G Fz' H' d v f
  | [], _, _, h, _ => h
  | (_, _) :: _, _, _, ⟨v, r, g1, g2, e, h, t, n, q⟩, k => ⟨v, r, g1, g2, e, RepO.mono z h fun b u h x => k b u h (x.imp (fun x => x.imp id fun y => (q b).mpr (.inl y)) id), RepOF.mono z t fun b u h x => k b u h (x.imp (fun x => x.imp id fun y => (q b).mpr (.inr y)) id), n, q⟩
end
/-- what is frozen owns nothing -/
theorem RepF.o : ∀ {d : D} {v : V}, RepF G Fz H d v → RepO G Fz H d v nul
  | .non, _, h => ⟨h, fun _ z => z⟩
  | .bl _, _, h => ⟨h, fun _ z => z⟩
  | .int _, _, h => ⟨h, fun _ z => z⟩
  | .str _, _, h => ⟨h, fun _ z => z⟩
  | .tup _, _, h => ⟨h, fun _ z => z⟩
  | .scr _, _, h => ⟨h, fun _ z => z⟩
  | .lst _ _, _, h => .inr ⟨h, fun _ z => z⟩
  | .dct _ _, _, h => .inr ⟨h, fun _ z => z⟩
  | .ins _ _ _, _, h => .inr ⟨h, fun _ z => z⟩
theorem RepO.f : ∀ {d : D} {v : V} {f : AS}, RepO G Fz H d v f → d.own = false → RepF G Fz H d v ∧ ∀ b, ¬ f b
  | .non, _, _, h, _ => h
  | .bl _, _, _, h, _ => h
  | .int _, _, _, h, _ => h
  | .str _, _, _, h, _ => h
  | .tup _, _, _, h, _ => h
  | .scr _, _, _, h, _ => h
  | .lst _ _, _, _, .inl ⟨o, _⟩, e => by rw [show D.own (.lst _ _) = _ from rfl, o] at e; cases e
  | .lst _ _, _, _, .inr h, _ => h
  | .dct _ _, _, _, .inl ⟨o, _⟩, e => by rw [show D.own (.dct _ _) = _ from rfl, o] at e; cases e
  | .dct _ _, _, _, .inr h, _ => h
  | .ins _ _ _, _, _, .inl ⟨o, _⟩, e => by rw [show D.own (.ins _ _ _) = _ from rfl, o] at e; cases e
  | .ins _ _ _, _, _, .inr h, _ => h
/-- what is owned may be written -/
theorem mut_lst (xs : List V) : Mut (some (.lst xs)) := trivial
mutual
theorem RepO.mut : ∀ {d : D} {v : V} {f : AS}, RepO G Fz H d v f → ∀ b, f b → Mut (H b)
  | .lst _ _, _, f, .inl ⟨o, a, vs, g, e, h, r, n, q⟩, b, fb => ((q b).mp fb).elim (fun z => by subst z; rw [h]; trivial) fun z => RepOL.mut r b z
  | .lst _ _, _, f, .inr ⟨_, n⟩, b, fb => (n b fb).elim
  | .dct _ _, _, f, .inl ⟨o, a, vs, g, e, h, r, n, q⟩, b, fb => ((q b).mp fb).elim (fun z => by
      subst z
      rcases h with ⟨kk, e, h⟩ | ⟨kk, e, h⟩
      · rw [show H b = _ from h]; trivial
      · rw [show H b = _ from h]; trivial) fun z => RepOK.mut r b z
  | .dct _ _, _, f, .inr ⟨_, n⟩, b, fb => (n b fb).elim
  | .ins _ _ _, _, f, .inl ⟨o, a, dx, vs, g, e, h, r, n, q⟩, b, fb => ((q b).mp fb).elim (fun z => by subst z; rw [h]; trivial) fun z => RepOF.mut r b z
  | .ins _ _ _, _, f, .inr ⟨_, n⟩, b, fb => (n b fb).elim
  | .non, _, _, h, b, fb => (h.2 b fb).elim
  | .bl _, _, _, h, b, fb => (h.2 b fb).elim
  | .int _, _, _, h, b, fb => (h.2 b fb).elim
  | .str _, _, _, h, b, fb => (h.2 b fb).elim
  | .tup _, _, _, h, b, fb => (h.2 b fb).elim
  | .scr _, _, _, h, b, fb => (h.2 b fb).elim
theorem RepOL.mut : ∀ {d : List D} {v : List V} {f : AS}, RepOL G Fz H d v f → ∀ b, f b → Mut (H b)
  | [], _, _, h, b, fb => (h.2 b fb).elim
  | _ :: _, _, _, ⟨v, r, g1, g2, e, h, t, n, q⟩, b, fb => ((q b).mp fb).elim (fun z => RepO.mut h b z) fun z => RepOL.mut t b z
theorem RepOK.mut : ∀ {d : List (D × D)} {v : List V} {f : AS}, RepOK G Fz H d v f → ∀ b, f b → Mut (H b)
  | [], _, _, h, b, fb => (h.2 b fb).elim
  | (_, _) :: _, _, _, ⟨v, r, g1, g2, e, h, t, n, q⟩, b, fb => ((q b).mp fb).elim (fun z => RepO.mut h b z) fun z => RepOK.mut t b z
theorem RepOF.mut : ∀ {d : List (Nat × D)} {v : List V} {f : AS}, RepOF G Fz H d v f → ∀ b, f b → Mut (H b)
  | [], _, _, h, b, fb => (h.2 b fb).elim
  | (_, _) :: _, _, _, ⟨v, r, g1, g2, e, h, t, n, q⟩, b, fb => ((q b).mp fb).elim (fun z => RepO.mut h b z) fun z => RepOF.mut t b z
end
theorem DI.rd {a : Addr} {ks : List D} {vs : List V} (h : DI H a ks vs At) : DI H a ks vs Rd := h.imp (fun ⟨k, e, h⟩ => ⟨k, e, .inl h⟩) fun ⟨k, e, h⟩ => ⟨k, e, .inl h⟩
theorem frzK_keys : ∀ kvs : List (D × D), (frzK kvs).map (·.1) = kvs.map (·.1)
  | [] => rfl
  | (_, _) :: r => by simp [frzK, frzK_keys r]
theorem frzF_keys : ∀ kvs : List (Nat × D), (frzF kvs).map (·.1) = kvs.map (·.1)
  | [] => rfl
  | (_, _) :: r => by simp [frzF, frzF_keys r]
theorem Kp.refl (Fz : AS) (H : Hp) : Kp Fz H H := fun _ _ h _ => h
mutual
/-- frozen: what was owned is so no more -/
theorem RepO.frz : ∀ {d : D} {v : V} {f : AS}, RepO G Fz H d v f → (∀ a, Fz a → Fz' a) → (∀ a, f a → Fz' a) → RepF G Fz' H d.frz v
  | .lst _ _, _, f, .inl ⟨o, a, vs, g, e, h, r, n, q⟩, z, w => by
    subst o
    exact ⟨rfl, a, vs, e, ⟨w a ((q a).mpr (.inl rfl)), h⟩, RepOL.frz r z fun b x => w b ((q b).mpr (.inr x))⟩
  | .lst _ _, _, f, .inr ⟨h, n⟩, z, w => by
    obtain ⟨o, h⟩ := h
    subst o
    exact RepF.mono (Kp.refl _ _) z (d := .lst false _) ⟨rfl, h⟩
  | .dct _ _, _, f, .inl ⟨o, a, vs, g, e, h, r, n, q⟩, z, w => by
    subst o
    exact ⟨rfl, a, vs, e, w a ((q a).mpr (.inl rfl)), by rw [frzK_keys]; exact h.rd, RepOK.frz r z fun b x => w b ((q b).mpr (.inr x))⟩
  | .dct _ _, _, f, .inr ⟨h, n⟩, z, w => by
    obtain ⟨o, h⟩ := h
    subst o
    exact RepF.mono (Kp.refl _ _) z (d := .dct false _) ⟨rfl, h⟩
  | .ins _ _ _, _, f, .inl ⟨o, a, dx, vs, g, e, h, r, n, q⟩, z, w => by
    subst o
    exact ⟨rfl, a, dx, vs, e, w a ((q a).mpr (.inl rfl)), by rw [frzF_keys]; exact h, RepOF.frz r z fun b x => w b ((q b).mpr (.inr x))⟩
  | .ins _ _ _, _, f, .inr ⟨h, n⟩, z, w => by
    obtain ⟨o, h⟩ := h
    subst o
    exact RepF.mono (Kp.refl _ _) z (d := .ins false _ _) ⟨rfl, h⟩
  | .non, _, _, h, _, _ => h.1
  | .bl _, _, _, h, _, _ => h.1
  | .int _, _, _, h, _, _ => h.1
  | .str _, _, _, h, _, _ => h.1
  | .tup _, _, _, h, z, _ => RepF.mono (Kp.refl _ _) z h.1
  | .scr _, _, _, h, z, _ => RepF.mono (Kp.refl _ _) z h.1
theorem RepOL.frz : ∀ {d : List D} {v : List V} {f : AS}, RepOL G Fz H d v f → (∀ a, Fz a → Fz' a) → (∀ a, f a → Fz' a) → RepFL G Fz' H (frzL d) v
  | [], _, _, h, _, _ => h.1
  | _ :: _, _, _, ⟨v, r, g1, g2, e, h, t, n, q⟩, z, w => ⟨v, r, e, RepO.frz h z fun b x => w b ((q b).mpr (.inl x)), RepOL.frz t z fun b x => w b ((q b).mpr (.inr x))⟩
theorem RepOK.frz : ∀ {d : List (D × D)} {v : List V} {f : AS}, RepOK G Fz H d v f → (∀ a, Fz a → Fz' a) → (∀ a, f a → Fz' a) → RepFK G Fz' H (frzK d) v
  | [], _, _, h, _, _ => h.1
  | (_, _) :: _, _, _, ⟨v, r, g1, g2, e, h, t, n, q⟩, z, w => ⟨v, r, e, RepO.frz h z fun b x => w b ((q b).mpr (.inl x)), RepOK.frz t z fun b x => w b ((q b).mpr (.inr x))⟩
theorem RepOF.frz : ∀ {d : List (Nat × D)} {v : List V} {f : AS}, RepOF G Fz H d v f → (∀ a, Fz a → Fz' a) → (∀ a, f a → Fz' a) → RepFF G Fz' H (frzF d) v
  | [], _, _, h, _, _ => h.1
  | (_, _) :: _, _, _, ⟨v, r, g1, g2, e, h, t, n, q⟩, z, w => ⟨v, r, e, RepO.frz h z fun b x => w b ((q b).mpr (.inl x)), RepOF.frz t z fun b x => w b ((q b).mpr (.inr x))⟩
end
end
end Y

namespace Y
open PySem PySem.Spec PyProof.Rows L2

abbrev Slots := L2.St
structure Ex where
  c : Nat
  fs : List (Nat × D)
inductive Out (α : Type) where
  | ok (a : α) (e : Env)
  | exc (x : Ex) (e : Env)
  | bad
abbrev M (α : Type) := Env → Out α
@[inline] def bnd {α β : Type} (f : M α) (k : α → M β) : M β := fun e => match f e with
  | .ok a e' => k a e'
  | .exc x e' => .exc x e'
  | .bad => .bad
def mret {α : Type} (a : α) : M α := fun e => .ok a e
def mbad {α : Type} : M α := fun _ => .bad
def mopt {α : Type} (o : Option α) : M α := fun e => match o with
  | some a => .ok a e
  | none => .bad

/-- what must stay: F: objects that nobody owns here, and that are not frozen unless Z says so; Q: objects that stay though they may be owned -/
structure Fr where
  F : Hp
  Z : AS
  Q : Hp
  /-- slots that are not stored to -/
  L : Nat → Option V
  n : Nat
structure Rel (G : Gx) (fr : Fr) (σ : Slots) (H : Hp) (env : Env) (Fz : AS) (own : Nat → AS) : Prop where
  rep : ∀ (i : Nat) (d : D), env[i]? = some (some d) → ∃ v, σ[i]? = some (some v) ∧ RepO G Fz H d v (own i)
  non : ∀ i a, own i a → ∃ d, env[i]? = some (some d)
  dis : ∀ i j a, own i a → own j a → i = j
  nfz : ∀ i a, own i a → ¬ Fz a
  fzd : ∀ a, Fz a → ∃ o, H a = some o
  kF : ∀ a o, fr.F a = some o → H a = some o
  kQ : ∀ a o, fr.Q a = some o → H a = some o
  oF : ∀ i a, own i a → fr.F a = none
  zz : ∀ a, fr.Z a → Fz a
  zF : ∀ a o, fr.F a = some o → Fz a → fr.Z a
  lk : ∀ i v, fr.L i = some v → σ[i]? = some (some v)
  len : σ.length = fr.n

/-- an exception, by data -/
def ExR (G : Gx) (H : Hp) (x : Ex) (cls : Value) (dd : Option Addr) : Prop :=
  cls = .ref (He.ga G.K (G.tb.cls x.c)) ∧ (x.fs = [] → dd = none) ∧ (x.fs ≠ [] → ∃ a vs, dd = some a ∧ H a = some (.xd ((x.fs.map fun p => G.tb.fld p.1).zip vs)) ∧ RepFF G nul H x.fs vs)

abbrev RRt (α β : Type) := (Nat → AS) → AS → Hp → Fr → α → β → Prop
def PostX {α β : Type} (G : Gx) (W : WX) (σ : Slots) (fr : Fr) (RR : RRt α β) (Q : β → Hp → Prop) : Out α → Prop
  | .ok d e => ∀ v H Fz own, Rel G fr σ H e Fz own → RR own Fz H fr d v → Q v H
  | .exc x e => ∀ cls dd H Fz own, Rel G fr σ H e Fz own → ExR G H x cls dd → W cls dd σ H
  | .bad => False
abbrev Qok (q : Bool) (fr : Fr) : Prop := q = false → ∀ a, fr.Q a = none
def tX {α β : Type} (G : Gx) (W : WX) (RR : RRt α β) (q : Bool) (f : M α) : Slots → Hp → (β → Hp → Prop) → Prop := fun σ H Q =>
  ∃ fr env Fz own, Qok q fr ∧ Rel G fr σ H env Fz own ∧ PostX G W σ fr RR Q (f env)

/-- what is new -/
def Fresh (own : Nat → AS) (Fz : AS) (fr : Fr) (r : AS) : Prop := ∀ a, r a → (∀ i, ¬ own i a) ∧ ¬ Fz a ∧ fr.F a = none ∧ fr.Q a = none
def RO (G : Gx) : RRt D V := fun own Fz H fr d v => ∃ r, RepO G Fz H d v r ∧ Fresh own Fz fr r
def RF (G : Gx) : RRt D V := fun _ Fz H _ d v => RepF G Fz H d v
/-- a look at it -/
def RV (G : Gx) : RRt D V := fun _ Fz H _ d v => ∃ f, RepO G Fz H d v f
def RL (G : Gx) : RRt (List D) (List V) := fun _ Fz H _ ds vs => RepFL G Fz H ds vs
def RB : RRt Bool Bool := fun _ _ _ _ b c => b = c

section
variable {G : Gx} {fr : Fr} {σ : Slots} {H H' : Hp} {env : Env} {Fz : AS} {own : Nat → AS}
theorem Rel.mut (r : Rel G fr σ H env Fz own) {i : Nat} {a : Addr} (h : own i a) : Mut (H a) := by
  obtain ⟨d, hd⟩ := r.non i a h
  obtain ⟨v, _, ho⟩ := r.rep i d hd
  exact ho.mut a h
theorem Mut.some {o : Option HO} (h : Mut o) : ∃ u, o = some u := by
  cases o with
  | none => exact h.elim
  | some u => exact ⟨u, rfl⟩
theorem Rel.there (r : Rel G fr σ H env Fz own) {i : Nat} {a : Addr} (h : own i a) : ∃ u, H a = some u := Mut.some (r.mut h)
abbrev Ext (H H' : Hp) : Prop := ∀ a o, H a = some o → H' a = some o
theorem Ext.kp (e : Ext H H') (Fz : AS) : Kp Fz H H' := fun a o h _ => e a o h
/-- new objects -/
theorem Rel.ext (r : Rel G fr σ H env Fz own) (e : Ext H H') : Rel G fr σ H' env Fz own where
  rep := fun i d h => let ⟨v, hv, ho⟩ := r.rep i d h; ⟨v, hv, ho.mono (fun _ z => z) (e.kp _)⟩
  non := r.non
  dis := r.dis
  nfz := r.nfz
  fzd := fun a h => let ⟨o, ho⟩ := r.fzd a h; ⟨o, e a o ho⟩
  kF := fun a o h => e a o (r.kF a o h)
  kQ := fun a o h => e a o (r.kQ a o h)
  oF := r.oF
  zz := r.zz
  zF := r.zF
  lk := r.lk
  len := r.len
theorem Rel.fresh (r : Rel G fr σ H env Fz own) {f : AS} (h : ∀ a, f a → H a = none) : Fresh own Fz fr f := fun a fa => by
  have e := h a fa
  refine ⟨fun i x => ?_, fun x => ?_, ?_, ?_⟩
  · obtain ⟨u, hu⟩ := r.there x
    rw [e] at hu; cases hu
  · obtain ⟨u, hu⟩ := r.fzd a x
    rw [e] at hu; cases hu
  · cases q : fr.F a with
    | none => rfl
    | some o => have := r.kF a o q; rw [e] at this; cases this
  · cases q : fr.Q a with
    | none => rfl
    | some o => have := r.kQ a o q; rw [e] at this; cases this
/-- freeze what is owned by nobody's slot -/
theorem Rel.freeze (r : Rel G fr σ H env Fz own) {f : AS} (hf : Fresh own Fz fr f) (hm : ∀ a, f a → ∃ o, H a = some o) : Rel G fr σ H env (fun a => Fz a ∨ f a) own where
  rep := fun i d h => let ⟨v, hv, ho⟩ := r.rep i d h; ⟨v, hv, ho.mono (fun _ z => .inl z) (Kp.refl _ _)⟩
  non := r.non
  dis := r.dis
  nfz := fun i a h z => z.elim (r.nfz i a h) fun z => (hf a z).1 i h
  fzd := fun a h => h.elim (r.fzd a) (hm a)
  kF := r.kF
  kQ := r.kQ
  oF := r.oF
  zz := fun a h => .inl (r.zz a h)
  zF := fun a o h z => z.elim (r.zF a o h) fun z => by rw [(hf a z).2.2.1] at h; cases h
  lk := r.lk
  len := r.len
/-- freeze a slot -/
theorem Rel.freezeSlot (r : Rel G fr σ H env Fz own) {i : Nat} {d : D} (hd : env[i]? = some (some d)) : Rel G fr σ H (env.set i (some d.frz)) (fun a => Fz a ∨ own i a) (fun j a => j ≠ i ∧ own j a) where
  rep := fun j e h => by
    by_cases hj : j = i
    · subst hj
      have hl : j < env.length := (List.getElem?_eq_some_iff.mp hd).1
      rw [List.getElem?_set_self hl] at h
      cases h
      obtain ⟨v, hv, ho⟩ := r.rep j d hd
      refine ⟨v, hv, ?_⟩
      have q : RepF G (fun a => Fz a ∨ own j a) H d.frz v := ho.frz (fun _ z => .inl z) fun _ z => .inr z
      have q' := q.o
      have e1 : (fun a => j ≠ j ∧ own j a) = nul := by
        funext a
        simp
      rw [e1]
      exact q'
    · rw [List.getElem?_set_ne (Ne.symm hj)] at h
      obtain ⟨v, hv, ho⟩ := r.rep j e h
      refine ⟨v, hv, ?_⟩
      have e1 : (fun a => j ≠ i ∧ own j a) = own j := by
        funext a
        simp [hj]
      rw [e1]
      exact ho.mono (fun _ z => .inl z) (Kp.refl _ _)
  non := fun j a h => by
    obtain ⟨e, he⟩ := r.non j a h.2
    exact ⟨e, by rw [List.getElem?_set_ne (Ne.symm h.1)]; exact he⟩
  dis := fun j k a h h' => r.dis j k a h.2 h'.2
  nfz := fun j a h z => z.elim (r.nfz j a h.2) fun z => h.1 (r.dis j i a h.2 z)
  fzd := fun a h => h.elim (r.fzd a) fun z => r.there z
  kF := r.kF
  kQ := r.kQ
  oF := fun j a h => r.oF j a h.2
  zz := fun a h => .inl (r.zz a h)
  zF := fun a o h z => z.elim (r.zF a o h) fun z => by rw [r.oF i a z] at h; cases h
  lk := r.lk
  len := r.len

/-- the greatest frame -/
noncomputable def mxF (own : Nat → AS) (H : Hp) : Hp := fun a => open Classical in if ∃ i, own i a then none else H a
theorem mxF_some {a : Addr} {o : HO} (h : mxF own H a = some o) : H a = some o ∧ ∀ i, ¬ own i a := by
  unfold mxF at h
  split at h
  · cases h
  · rename_i n
    exact ⟨h, fun i z => n ⟨i, z⟩⟩
theorem mxF_of {a : Addr} {o : HO} (h : H a = some o) (n : ∀ i, ¬ own i a) : mxF own H a = some o := by
  unfold mxF
  rw [if_neg fun ⟨i, z⟩ => n i z]
  exact h
theorem mxF_own {a : Addr} {i : Nat} (h : own i a) : mxF own H a = none := by
  unfold mxF
  rw [if_pos ⟨i, h⟩]
noncomputable abbrev mx (fr : Fr) (own : Nat → AS) (Fz : AS) (H : Hp) (Q : Hp) : Fr := ⟨mxF own H, Fz, Q, fr.L, fr.n⟩
theorem Rel.max (r : Rel G fr σ H env Fz own) {Q : Hp} (hQ : ∀ a o, Q a = some o → H a = some o) : Rel G (mx fr own Fz H Q) σ H env Fz own where
  rep := r.rep
  non := r.non
  dis := r.dis
  nfz := r.nfz
  fzd := r.fzd
  kF := fun a o h => (mxF_some h).1
  kQ := hQ
  oF := fun i a h => mxF_own h
  zz := fun _ h => h
  zF := fun _ _ _ z => z
  lk := r.lk
  len := r.len
/-- back from the greatest frame -/
theorem Rel.back {σ' : Slots} {env' : Env} {Fz' : AS} {own' : Nat → AS} {Q : Hp} (r : Rel G fr σ H env Fz own) (r' : Rel G (mx fr own Fz H Q) σ' H' env' Fz' own') (hQ : ∀ a o, fr.Q a = some o → Q a = some o) : Rel G fr σ' H' env' Fz' own' where
  rep := r'.rep
  non := r'.non
  dis := r'.dis
  nfz := r'.nfz
  fzd := r'.fzd
  kF := fun a o h => r'.kF a o (mxF_of (r.kF a o h) fun i z => by rw [r.oF i a z] at h; cases h)
  kQ := fun a o h => r'.kQ a o (hQ a o h)
  oF := fun i a h => by
    cases q : fr.F a with
    | none => rfl
    | some o =>
      have := r'.oF i a h
      rw [show (mx fr own Fz H Q).F a = some o from mxF_of (r.kF a o q) fun i z => by rw [r.oF i a z] at q; cases q] at this
      cases this
  zz := fun a h => r'.zz a (r.zz a h)
  zF := fun a o h z => r.zF a o h (r'.zF a o (mxF_of (r.kF a o h) fun i z => by rw [r.oF i a z] at h; cases h) z)
  lk := r'.lk
  len := r'.len

/-- from one state to a later one -/
structure Nxt (own : Nat → AS) (Fz : AS) (H : Hp) (own' : Nat → AS) (Fz' : AS) (H' : Hp) : Prop where
  keep : ∀ a o, H a = some o → (∀ i, ¬ own i a) → H' a = some o
  fz : ∀ a, Fz a → Fz' a
  noOwn : ∀ a o i, H a = some o → (∀ i, ¬ own i a) → ¬ own' i a
  noFz : ∀ a o, H a = some o → (∀ i, ¬ own i a) → Fz' a → Fz a
theorem Rel.nxt {σ' : Slots} {env' : Env} {Fz' : AS} {own' : Nat → AS} {Q : Hp} (r' : Rel G (mx fr own Fz H Q) σ' H' env' Fz' own') : Nxt own Fz H own' Fz' H' where
  keep := fun a o h n => r'.kF a o (mxF_of h n)
  fz := r'.zz
  noOwn := fun a o i h n z => by
    have := r'.oF i a z
    rw [show (mx fr own Fz H Q).F a = some o from mxF_of h n] at this
    cases this
  noFz := fun a o h n z => r'.zF a o (mxF_of h n) z
theorem Nxt.kp {own' : Nat → AS} {Fz' : AS} (n : Nxt own Fz H own' Fz' H') (r : Rel G fr σ H env Fz own) : Kp Fz H H' := fun a o h c =>
  n.keep a o h fun i z => c.elim (r.nfz i a z) fun c => by
    have := r.mut z
    rw [h] at this
    exact c this
theorem Nxt.repF {own' : Nat → AS} {Fz' : AS} (n : Nxt own Fz H own' Fz' H') (r : Rel G fr σ H env Fz own) {d : D} {v : V} (h : RepF G Fz H d v) : RepF G Fz' H' d v := h.mono (n.kp r) n.fz
theorem Nxt.repFL {own' : Nat → AS} {Fz' : AS} (n : Nxt own Fz H own' Fz' H') (r : Rel G fr σ H env Fz own) {d : List D} {v : List V} (h : RepFL G Fz H d v) : RepFL G Fz' H' d v := h.mono (n.kp r) n.fz
/-- .. with something new in hand -/
theorem Nxt.repO {own' : Nat → AS} {Fz' : AS} (n : Nxt own Fz H own' Fz' H') (r : Rel G fr σ H env Fz own) {d : D} {v : V} {f : AS} (h : RepO G Fz H d v f) (hf : ∀ a, f a → ∀ i, ¬ own i a) : RepO G Fz' H' d v f :=
  h.mono n.fz fun a o e c => n.keep a o e fun i z => by
    rcases c with (c | c) | c
    · exact r.nfz i a z c
    · exact hf a c i z
    · have := r.mut z
      rw [e] at this
      exact c this
theorem Nxt.fresh {own' : Nat → AS} {Fz' : AS} (n : Nxt own Fz H own' Fz' H') {f : AS} (h : Fresh own Fz fr f) (hm : ∀ a, f a → ∃ o, H a = some o) : Fresh own' Fz' fr f := fun a fa => by
  obtain ⟨h1, h2, h3⟩ := h a fa
  obtain ⟨o, ho⟩ := hm a fa
  exact ⟨fun i => n.noOwn a o i ho h1, fun z => h2 (n.noFz a o ho h1 z), h3⟩
theorem RepO.there {d : D} {v : V} {f : AS} (h : RepO G Fz H d v f) : ∀ a, f a → ∃ o, H a = some o := fun a fa => Mut.some (h.mut a fa)
end

/-! ### one after the other -/
section
variable {G : Gx} {W : WX} {q : Bool} {σ : Slots} {H : Hp} {α β γ δ : Type} {RR : RRt α β} {RR2 : RRt γ δ}
/-- the first -/
theorem tX.first {f : M α} {k : α → M γ} {Q : δ → Hp → Prop} (h : tX G W RR2 q (bnd f k) σ H Q) :
    tX G W RR q f σ H fun v H1 => ∃ fr d env Fz own, Qok q fr ∧ Rel G fr σ H1 env Fz own ∧ RR own Fz H1 fr d v ∧ PostX G W σ fr RR2 Q (k d env) := by
  obtain ⟨fr, env, Fz, own, qk, r, p⟩ := h
  refine ⟨fr, env, Fz, own, qk, r, ?_⟩
  unfold bnd at p
  cases e : f env with
  | ok d env1 =>
    rw [e] at p
    intro v H1 Fz1 own1 r1 rr
    exact ⟨fr, d, env1, Fz1, own1, qk, r1, rr, p⟩
  | exc x env1 =>
    rw [e] at p
    exact p
  | bad =>
    rw [e] at p
    exact p
/-- a further one: all that nobody owns stays -/
theorem tX.then_ {fr : Fr} {env : Env} {Fz : AS} {own : Nat → AS} {f : M α} {k : α → M γ} {Q : δ → Hp → Prop} (qk : Qok q fr) (r : Rel G fr σ H env Fz own) (p : PostX G W σ fr RR2 Q (bnd f k env))
    (hRR : ∀ {own : Nat → AS} {Fz : AS} {H : Hp} {fr fr' : Fr} {d : α} {v : β}, (∀ a, fr.F a = none → fr'.F a = none) → fr'.Q = fr.Q → RR own Fz H fr d v → RR own Fz H fr' d v) :
    tX G W RR q f σ H fun v H1 => ∃ d env1 Fz1 own1, Rel G fr σ H1 env1 Fz1 own1 ∧ Nxt own Fz H own1 Fz1 H1 ∧ RR own1 Fz1 H1 fr d v ∧ PostX G W σ fr RR2 Q (k d env1) := by
  refine ⟨mx fr own Fz H fr.Q, env, Fz, own, qk, r.max r.kQ, ?_⟩
  unfold bnd at p
  cases e : f env with
  | ok d env1 =>
    rw [e] at p
    intro v H1 Fz1 own1 r1 rr
    have rb := r.back r1 fun _ _ h => h
    refine ⟨d, env1, Fz1, own1, rb, r1.nxt, hRR (fr := mx fr own Fz H fr.Q) (fr' := fr) (fun a z => ?_) rfl rr, p⟩
    cases q1 : fr.F a with
    | none => rfl
    | some o =>
      rw [show (mx fr own Fz H fr.Q).F a = some o from mxF_of (r.kF a o q1) fun i z => by rw [r.oF i a z] at q1; cases q1] at z
      cases z
  | exc x env1 =>
    rw [e] at p
    intro cls dd H1 Fz1 own1 r1 ex
    exact p cls dd H1 Fz1 own1 (r.back r1 fun _ _ h => h) ex
  | bad =>
    rw [e] at p
    exact p
/-- the same where all stays: in quiet mode -/
theorem tX.quiet {fr : Fr} {env : Env} {Fz : AS} {own : Nat → AS} {f : M α} {k : α → M γ} {Q : δ → Hp → Prop} (r : Rel G fr σ H env Fz own) (p : PostX G W σ fr RR2 Q (bnd f k env))
    (hRR : ∀ {own : Nat → AS} {Fz : AS} {H : Hp} {fr fr' : Fr} {d : α} {v : β}, (∀ a, fr.F a = none → fr'.F a = none) → (∀ a, fr.Q a = none → fr'.Q a = none) → RR own Fz H fr d v → RR own Fz H fr' d v) :
    tX G W RR true f σ H fun v H1 => ∃ d env1 Fz1 own1, Rel G fr σ H1 env1 Fz1 own1 ∧ Nxt own Fz H own1 Fz1 H1 ∧ Ext H H1 ∧ RR own1 Fz1 H1 fr d v ∧ PostX G W σ fr RR2 Q (k d env1) := by
  refine ⟨mx fr own Fz H H, env, Fz, own, fun z => (by cases z), r.max fun _ _ h => h, ?_⟩
  unfold bnd at p
  cases e : f env with
  | ok d env1 =>
    rw [e] at p
    intro v H1 Fz1 own1 r1 rr
    have rb := r.back r1 r.kQ
    refine ⟨d, env1, Fz1, own1, rb, r1.nxt, r1.kQ, hRR (fr := mx fr own Fz H H) (fr' := fr) (fun a z => ?_) (fun a z => ?_) rr, p⟩
    · cases q1 : fr.F a with
      | none => rfl
      | some o =>
        rw [show (mx fr own Fz H H).F a = some o from mxF_of (r.kF a o q1) fun i z => by rw [r.oF i a z] at q1; cases q1] at z
        cases z
    · cases q1 : fr.Q a with
      | none => rfl
      | some o =>
        have z' : H a = none := z
        rw [r.kQ a o q1] at z'
        cases z'
  | exc x env1 =>
    rw [e] at p
    intro cls dd H1 Fz1 own1 r1 ex
    exact p cls dd H1 Fz1 own1 (r.back r1 r.kQ) ex
  | bad =>
    rw [e] at p
    exact p
/-- the end -/
theorem PostX.ret {fr : Fr} {env : Env} {Fz : AS} {own : Nat → AS} {d : α} {v : β} {Q : β → Hp → Prop} (p : PostX G W σ fr RR Q (.ok d env)) (r : Rel G fr σ H env Fz own) (rr : RR own Fz H fr d v) : Q v H := p v H Fz own r rr
end
theorem RO.fr {G : Gx} {own : Nat → AS} {Fz : AS} {H : Hp} {fr fr' : Fr} {d : D} {v : V} (h1 : ∀ a, fr.F a = none → fr'.F a = none) (h2 : ∀ a, fr.Q a = none → fr'.Q a = none) (h : RO G own Fz H fr d v) : RO G own Fz H fr' d v :=
  let ⟨r, h, f⟩ := h
  ⟨r, h, fun a ra => let ⟨a1, a2, a3, a4⟩ := f a ra; ⟨a1, a2, h1 a a3, h2 a a4⟩⟩
/-! ### frozen results -/
def fz (f : M D) : M D := bnd f fun d => mret d.frz
section
variable {G : Gx} {W : WX} {q : Bool} {σ : Slots} {H : Hp}
theorem tX.fz {f : M D} {Q : VK} (h : tX G W (RF G) q (fz f) σ H Q) : tX G W (RO G) q f σ H Q := by
  obtain ⟨fr, env, Fz, own, qk, r, p⟩ := h
  refine ⟨fr, env, Fz, own, qk, r, ?_⟩
  unfold Y.fz bnd mret at p
  cases e : f env with
  | ok d env1 =>
    rw [e] at p
    rintro v H1 Fz1 own1 r1 ⟨g, ho, hf⟩
    exact p v H1 _ own1 (r1.freeze hf ho.there) (ho.frz (fun _ z => .inl z) fun _ z => .inr z)
  | exc x env1 =>
    rw [e] at p
    exact p
  | bad =>
    rw [e] at p
    exact p
theorem pe_fz {X : Cx} {e : Expr} {f : M D} (h : PE X e (tX G W (RO G) q f)) : PE X e (tX G W (RF G) q (fz f)) := ⟨fun pins s σ H Q I hw => h.run pins s σ H Q I hw.fz⟩
end
end Y

namespace Y
open PySem PySem.Spec PyProof.Rows L2

theorem PE.wk {X : Cx} {e : Expr} {t t' : TE} (h : PE X e t) (w : ∀ σ H Q, t' σ H Q → t σ H Q) : PE X e t' := ⟨fun pins s σ H Q I hw => h.run pins s σ H Q I (w σ H Q hw)⟩
theorem PT.wk {X : Cx} {e : Expr} {t t' : TT} (h : PT X e t) (w : ∀ σ H Q, t' σ H Q → t σ H Q) : PT X e t' := ⟨fun pins s σ H Q I hw => h.run pins s σ H Q I (w σ H Q hw)⟩
theorem PW.wk {X : Cx} {e : Expr} {t t' : TT} (h : PW X e t) (w : ∀ σ H Q, t' σ H Q → t σ H Q) : PW X e t' := ⟨fun wh pins s σ H Q I hw => h.run wh pins s σ H Q I (w σ H Q hw)⟩
theorem PA.wk {X : Cx} {e : List Expr} {t t' : TA} (h : PA X e t) (w : ∀ σ H Q, t' σ H Q → t σ H Q) : PA X e t' := ⟨fun po pins s σ H Q I hw => h.run po pins s σ H Q I (w σ H Q hw)⟩
theorem PS.wk {X : Cx} {e : Stmt} {t t' : TS} (h : PS X e t) (w : ∀ D σ H, t' D σ H → t D σ H) : PS X e t' := ⟨fun pins s σ H D I hw => h.run pins s σ H D I (w D σ H hw)⟩
theorem PSs.wk {X : Cx} {e : List Stmt} {t t' : TS} (h : PSs X e t) (w : ∀ D σ H, t' D σ H → t D σ H) : PSs X e t' := ⟨fun pins s σ H D I hw => h.run pins s σ H D I (w D σ H hw)⟩

/-! ### names and constants -/
/-- a name's value: what is owned is frozen from here on -/
def eVar (i : Nat) : M D := fun e => match e[i]? with
  | some (some d) => if d.own = true then .ok d.frz (e.set i (some d.frz)) else .ok d e
  | _ => .bad
/-- a look at a name -/
def vVar (i : Nat) : M D := fun e => match e[i]? with
  | some (some d) => .ok d e
  | _ => .bad
section
variable {G : Gx} {W : WX} {q : Bool} {σ : Slots} {H : Hp}
theorem tX.var {i : Nat} {Q : VK} (h : tX G W (RO G) q (eVar i) σ H Q) : tVar i σ H Q := by
  obtain ⟨fr, env, Fz, own, qk, r, p⟩ := h
  unfold eVar at p
  cases e : env[i]? with
  | none => rw [e] at p; exact p.elim
  | some o =>
    cases o with
    | none => rw [e] at p; exact p.elim
    | some d =>
      rw [e] at p
      obtain ⟨v, hv, ho⟩ := r.rep i d e
      refine ⟨v, hv, ?_⟩
      by_cases hd : d.own = true
      · have p' : PostX G W σ fr (RO G) Q (.ok d.frz (env.set i (some d.frz))) := by
          have := p
          simp only [hd, if_true] at this
          exact this
        exact p' v H _ _ (r.freezeSlot e) ⟨nul, (ho.frz (fun _ z => .inl z) fun _ z => .inr z).o, fun _ z => z.elim⟩
      · have hd' : d.own = false := by simpa using hd
        have p' : PostX G W σ fr (RO G) Q (.ok d env) := by
          have := p
          simp only [hd'] at this
          exact this
        exact p' v H _ _ r ⟨nul, (ho.f hd').1.o, fun _ z => z.elim⟩
theorem tX.vvar {i : Nat} {Q : VK} (h : tX G W (RV G) q (vVar i) σ H Q) : tVar i σ H Q := by
  obtain ⟨fr, env, Fz, own, qk, r, p⟩ := h
  unfold vVar at p
  cases e : env[i]? with
  | none => rw [e] at p; exact p.elim
  | some o =>
    cases o with
    | none => rw [e] at p; exact p.elim
    | some d =>
      rw [e] at p
      obtain ⟨v, hv, ho⟩ := r.rep i d e
      exact ⟨v, hv, p v H _ _ r ⟨_, ho⟩⟩
theorem tX.con {d : D} {v : V} (hd : ∀ Fz H, RepF G Fz H d v) {Q : VK} (h : tX G W (RO G) q (mret d) σ H Q) : tC v σ H Q := by
  obtain ⟨fr, env, Fz, own, qk, r, p⟩ := h
  exact p v H _ _ r ⟨nul, (hd _ _).o, fun _ z => z.elim⟩
theorem tX.conF {d : D} {v : V} (hd : ∀ Fz H, RepF G Fz H d v) {Q : VK} (h : tX G W (RF G) q (mret d) σ H Q) : tC v σ H Q := by
  obtain ⟨fr, env, Fz, own, qk, r, p⟩ := h
  exact p v H _ _ r (hd _ _)
/-- frozen is a look -/
theorem tX.vf {f : M D} {Q : VK} (h : tX G W (RV G) q f σ H Q) : tX G W (RF G) q f σ H Q := by
  obtain ⟨fr, env, Fz, own, qk, r, p⟩ := h
  refine ⟨fr, env, Fz, own, qk, r, ?_⟩
  cases e : f env with
  | ok d env1 => rw [e] at p; exact fun v H1 Fz1 own1 r1 rr => p v H1 Fz1 own1 r1 ⟨_, rr.o⟩
  | exc x env1 => rw [e] at p; exact p
  | bad => rw [e] at p; exact p
theorem tX.of {f : M D} {Q : VK} (h : tX G W (RO G) q f σ H Q) : tX G W (RF G) q f σ H Q := by
  obtain ⟨fr, env, Fz, own, qk, r, p⟩ := h
  refine ⟨fr, env, Fz, own, qk, r, ?_⟩
  cases e : f env with
  | ok d env1 => rw [e] at p; exact fun v H1 Fz1 own1 r1 rr => p v H1 Fz1 own1 r1 ⟨_, rr.o, fun _ z => z.elim⟩
  | exc x env1 => rw [e] at p; exact p
  | bad => rw [e] at p; exact p
end

/-! ### primitives -/
/-- what a primitive gives: something new, or frozen -/
abbrev Gives (G : Gx) (Fz : AS) (H : Hp) (Q : VK) (d : D) : Prop := ∀ u H' f, Ext H H' → RepO G Fz H' d u f → (∀ a, f a → H a = none) → Q u H'
def Pr1 (G : Gx) (r : V → Hp → VK → Prop) (p : D → Option D) : Prop := ∀ Fz H x d v f Q, RepO G Fz H x v f → p x = some d → Gives G Fz H Q d → r v H Q
def Pr2 (G : Gx) (r : R2) (p : D → D → Option D) : Prop := ∀ Fz H x y d v w f g Q, RepO G Fz H x v f → RepO G Fz H y w g → p x y = some d → Gives G Fz H Q d → r v w H Q
def PrL (G : Gx) (r : List V → Hp → VK → Prop) (p : List D → Option D) : Prop := ∀ Fz H xs d vs Q, RepFL G Fz H xs vs → p xs = some d → Gives G Fz H Q d → r vs H Q
section
variable {G : Gx} {W : WX} {q : Bool} {σ : Slots} {H : Hp}
theorem fin_prim {fr : Fr} {env : Env} {Fz : AS} {own : Nat → AS} {Q : VK} {d : D} (r : Rel G fr σ H env Fz own) (p : PostX G W σ fr (RO G) Q (.ok d env)) : Gives G Fz H Q d := fun u H' f e ho hf =>
  p u H' Fz own (r.ext e) ⟨f, ho, fun a fa => by
    have := r.fresh hf a fa
    exact this⟩
theorem opt_prim {fr : Fr} {env : Env} {Q : VK} {o : Option D} (p : PostX G W σ fr (RO G) Q (mopt o env)) : ∃ d, o = some d ∧ PostX G W σ fr (RO G) Q (.ok d env) := by
  unfold mopt at p
  cases o with
  | none => exact p.elim
  | some d => exact ⟨d, rfl, p⟩
/-- one look -/
def e1 (p : D → Option D) (a : M D) : M D := bnd a fun x => mopt (p x)
/-- the first frozen, then a look -/
def e2 (p : D → D → Option D) (a b : M D) : M D := bnd a fun x => bnd b fun y => mopt (p x y)
theorem tX.e1 {p : D → Option D} {r : V → Hp → VK → Prop} (hp : Pr1 G r p) {a : M D} {Q : VK} (h : tX G W (RO G) q (Y.e1 p a) σ H Q) : tX G W (RV G) q a σ H fun v H1 => r v H1 Q := by
  have h1 : tX G W (RV G) q a σ H _ := h.first
  obtain ⟨fr, env, Fz, own, qk, rl, po⟩ := h1
  refine ⟨fr, env, Fz, own, qk, rl, ?_⟩
  cases e : a env with
  | ok d env1 =>
    rw [e] at po
    intro v H1 Fz1 own1 r1 rr
    obtain ⟨fr', d', env', Fz', own', qk', r', ⟨f, ho⟩, po'⟩ := po v H1 Fz1 own1 r1 rr
    obtain ⟨z, hz, po'⟩ := opt_prim po'
    exact hp Fz' H1 d' z v f Q ho hz (fin_prim r' po')
  | exc x env1 => rw [e] at po; exact po
  | bad => rw [e] at po; exact po
/-- readings are monotone -/
theorem tX.mono {α β : Type} {RR : RRt α β} {f : M α} {Q Q' : β → Hp → Prop} (h : tX G W RR q f σ H Q) (m : ∀ v H1, Q v H1 → Q' v H1) : tX G W RR q f σ H Q' := by
  obtain ⟨fr, env, Fz, own, qk, r, p⟩ := h
  refine ⟨fr, env, Fz, own, qk, r, ?_⟩
  cases e : f env with
  | ok d env1 => rw [e] at p; exact fun v H1 Fz1 own1 r1 rr => m _ _ (p v H1 Fz1 own1 r1 rr)
  | exc x env1 => rw [e] at p; exact p
  | bad => rw [e] at p; exact p
theorem RF.hRR {own : Nat → AS} {Fz : AS} {H : Hp} {fr fr' : Fr} {d : D} {v : V} (h : RF G own Fz H fr d v) : RF G own Fz H fr' d v := h
theorem tX.e2 {p : D → D → Option D} {r : R2} (hp : Pr2 G r p) {a b : M D} {Q : VK} (h : tX G W (RO G) q (Y.e2 p a b) σ H Q) : tX G W (RF G) q a σ H fun v H1 => tX G W (RV G) q b σ H1 fun w H2 => r v w H2 Q := by
  have h1 : tX G W (RF G) q a σ H _ := h.first
  refine h1.mono fun v H1 ⟨fr, d, env, Fz, own, qk, rl, hv, po⟩ => ?_
  have h2 := tX.then_ (RR := RV G) qk rl po (fun _ _ z => z)
  refine h2.mono fun w H2 ⟨d2, env2, Fz2, own2, r2, nx, ⟨g, hw⟩, po2⟩ => ?_
  obtain ⟨z, hz, po'⟩ := opt_prim po2
  exact hp Fz2 H2 d d2 z v w nul g Q (nx.repF rl hv).o hw hz (fin_prim r2 po')
/-- both looks, the second in quiet -/
theorem tX.e2q {p : D → D → Option D} {r : R2} (hp : Pr2 G r p) {a b : M D} {Q : VK} (h : tX G W (RO G) q (Y.e2 p a b) σ H Q) : tX G W (RV G) q a σ H fun v H1 => tX G W (RV G) true b σ H1 fun w H2 => r v w H2 Q := by
  have h1 : tX G W (RV G) q a σ H _ := h.first
  refine h1.mono fun v H1 ⟨fr, d, env, Fz, own, qk, rl, ⟨f, hv⟩, po⟩ => ?_
  have h2 := tX.quiet (RR := RV G) rl po (fun _ _ z => z)
  refine h2.mono fun w H2 ⟨d2, env2, Fz2, own2, r2, nx, ex, ⟨g, hw⟩, po2⟩ => ?_
  obtain ⟨z, hz, po'⟩ := opt_prim po2
  exact hp Fz2 H2 d d2 z v w f g Q (hv.mono nx.fz (ex.kp _)) hw hz (fin_prim r2 po')
end

/-! ### the rules of expressions -/
section
variable {X : Cx} {G : Gx} {W : WX} {q : Bool} {a b c : Expr} {fa fb fc : M D} {pos : Pos}
abbrev EO (X : Cx) (G : Gx) (W : WX) (q : Bool) (e : Expr) (f : M D) : Prop := PE X e (tX G W (RO G) q f)
abbrev EF (X : Cx) (G : Gx) (W : WX) (q : Bool) (e : Expr) (f : M D) : Prop := PE X e (tX G W (RF G) q f)
abbrev EV (X : Cx) (G : Gx) (W : WX) (q : Bool) (e : Expr) (f : M D) : Prop := PE X e (tX G W (RV G) q f)
theorem EO.f (h : EO X G W q a fa) : EF X G W q a (fz fa) := pe_fz h
theorem EF.v (h : EF X G W q a fa) : EV X G W q a fa := PE.wk h fun _ _ _ h => h.vf
theorem EF.o (h : EF X G W q a fa) : EO X G W q a fa := PE.wk h fun _ _ _ h => h.of
theorem EO.v (h : EO X G W q a fa) : EV X G W q a (fz fa) := h.f.v
theorem eo_var {i : Nat} {x : Str} (hN : X.N[i]? = some x) (hv : Vis X.env.scope x) (hd : (x == ("__debug__" : Str)) = false) (hcd : (x == ("__classdict__" : Str)) = false) : EO X G W q (.Name x pos) (eVar i) := PE.wk (pe_var hN hv hd hcd) fun _ _ _ h => h.var
theorem ev_var {i : Nat} {x : Str} (hN : X.N[i]? = some x) (hv : Vis X.env.scope x) (hd : (x == ("__debug__" : Str)) = false) (hcd : (x == ("__classdict__" : Str)) = false) : EV X G W q (.Name x pos) (vVar i) := PE.wk (pe_var hN hv hd hcd) fun _ _ _ h => h.vvar
theorem eo_int {i : Int} {j : Nat} : EO X G W q (.Constant (.int i) j pos) (mret (.int i)) := PE.wk pe_int fun _ _ _ h => tX.con (d := .int i) (v := .int i) (fun _ _ => rfl) h
theorem eo_bl {i : Bool} {j : Nat} : EO X G W q (.Constant (.bool i) j pos) (mret (.bl i)) := PE.wk pe_bl fun _ _ _ h => tX.con (d := .bl i) (v := .bl i) (fun _ _ => rfl) h
theorem eo_non {j : Nat} : EO X G W q (.Constant .none j pos) (mret .non) := PE.wk pe_non fun _ _ _ h => tX.con (d := .non) (v := .non) (fun _ _ => rfl) h
theorem eo_str {x : Str} {j : Nat} : EO X G W q (.Constant (.str x) j pos) (mret (.str x.cps.toList)) := PE.wk pe_str fun _ _ _ h => h.con fun _ _ => (by
  show V.str x = V.str (mkS x.cps.toList)
  unfold mkS
  simp)
theorem eo_bin {op : Operator} {r : R2} {p : D → D → Option D} (ho : OpR X (binaryOp op) r) (hp : Pr2 G r p) (ha : EF X G W q a fa) (hb : EV X G W q b fb) : EO X G W q (.BinOp a op b pos) (e2 p fa fb) := PE.wk (pe_op ho ha hb) fun _ _ _ h => h.e2 hp
theorem eo_binq {op : Operator} {r : R2} {p : D → D → Option D} (ho : OpR X (binaryOp op) r) (hp : Pr2 G r p) (ha : EV X G W q a fa) (hb : EV X G W true b fb) : EO X G W q (.BinOp a op b pos) (e2 p fa fb) := PE.wk (pe_op ho ha hb) fun _ _ _ h => h.e2q hp
theorem eo_un {op : UnaryOp} {r : V → Hp → VK → Prop} {p : D → Option D} (ho : UnR X (unaryOp op) r) (hp : Pr1 G r p) (ha : EV X G W q a fa) : EO X G W q (.UnaryOp op a pos) (e1 p fa) := PE.wk (pe_un ho ha) fun _ _ _ h => h.e1 hp
theorem eo_cmp {op : CmpOp} {r : R2} {p : D → D → Option D} (ho : OpR X (compareOp op) r) (hp : Pr2 G r p) (ha : EF X G W q a fa) (hb : EV X G W q b fb) (hm : behindInMarks op b = false) : EO X G W q (.Compare a [op] [b] pos) (e2 p fa fb) := PE.wk (pe_cmpR ho ha hb hm) fun _ _ _ h => h.e2 hp
theorem eo_cmpq {op : CmpOp} {r : R2} {p : D → D → Option D} (ho : OpR X (compareOp op) r) (hp : Pr2 G r p) (ha : EV X G W q a fa) (hb : EV X G W true b fb) (hm : behindInMarks op b = false) : EO X G W q (.Compare a [op] [b] pos) (e2 p fa fb) := PE.wk (pe_cmpR ho ha hb hm) fun _ _ _ h => h.e2q hp
theorem eo_ix {r : R2} {p : D → D → Option D} (ho : IxR X r) (hp : Pr2 G r p) (ha : EF X G W q a fa) (hb : EV X G W q b fb) (hs : PlainIx b) : EO X G W q (.Subscript a b pos) (e2 p fa fb) := PE.wk (pe_ix ho ha hb hs) fun _ _ _ h => h.e2 hp
theorem eo_ixq {r : R2} {p : D → D → Option D} (ho : IxR X r) (hp : Pr2 G r p) (ha : EV X G W q a fa) (hb : EV X G W true b fb) (hs : PlainIx b) : EO X G W q (.Subscript a b pos) (e2 p fa fb) := PE.wk (pe_ix ho ha hb hs) fun _ _ _ h => h.e2q hp
end

/-! ### tests -/
abbrev EB (X : Cx) (G : Gx) (W : WX) (q : Bool) (e : Expr) (f : M Bool) : Prop := PT X e (tX G W RB q f)
abbrev EBW (X : Cx) (G : Gx) (W : WX) (q : Bool) (e : Expr) (f : M Bool) : Prop := PW X e (tX G W RB q f)
/-- a bool's value -/
def tBl (a : M D) : M Bool := bnd a fun x => fun e => match x with
  | .bl b => .ok b e
  | _ => .bad
def tAndM (a b : M Bool) : M Bool := bnd a fun x => if x = true then b else mret false
def tOrM (a b : M Bool) : M Bool := bnd a fun x => if x = true then mret true else b
def tNotM (a : M Bool) : M Bool := bnd a fun x => mret (!x)
/-- truth -/
def truD : D → Option Bool
  | .non => some false
  | .bl b => some b
  | .int i => some (i != 0)
  | .str s => if s.length ≤ sizeLine then some (!s.isEmpty) else none
  | .lst _ xs => some (!xs.isEmpty)
  | .tup xs => some (!xs.isEmpty)
  | .scr xs => some (!xs.isEmpty)
  | _ => none
def tTru (a : M D) : M Bool := bnd a fun x => mopt (truD x)
section
variable {G : Gx} {W : WX} {q : Bool} {σ : Slots} {H : Hp}
theorem RB.hRR {own : Nat → AS} {Fz : AS} {H : Hp} {fr fr' : Fr} {d v : Bool} (h : RB own Fz H fr d v) : RB own Fz H fr' d v := h
theorem tX.keepB {α β : Type} {RR : RRt α β} {fr : Fr} {env : Env} {Fz : AS} {own : Nat → AS} {f : M α} {Q : β → Hp → Prop} (qk : Qok q fr) (r : Rel G fr σ H env Fz own) (p : PostX G W σ fr RR Q (f env)) : tX G W RR q f σ H Q := ⟨fr, env, Fz, own, qk, r, p⟩
theorem tX.bl {a : M D} {Q : Bool → Hp → Prop} (h : tX G W RB q (tBl a) σ H Q) : tX G W (RO G) q a σ H fun x H1 => ∃ c, x = .bl c ∧ Q c H1 := by
  have h1 : tX G W (RO G) q a σ H _ := h.first
  refine h1.mono fun v H1 ⟨fr, d, env, Fz, own, qk, rl, ⟨f, hv, hf⟩, po⟩ => ?_
  cases d with
  | bl b => exact ⟨b, hv.1, po b H1 Fz own rl rfl⟩
  | _ => exact po.elim
theorem tX.tru {K : PySem.W.Frag} (hK : G.K = K) {a : M D} {Q : Bool → Hp → Prop} (h : tX G W RB q (tTru a) σ H Q) : tX G W (RV G) q a σ H fun x H1 => ∃ k, TruV K x H1 k ∧ Q k H1 := by
  subst hK
  have h1 : tX G W (RV G) q a σ H _ := h.first
  refine h1.mono fun v H1 ⟨fr, d, env, Fz, own, qk, rl, ⟨f, hv⟩, po⟩ => ?_
  unfold mopt at po
  cases e : truD d with
  | none => rw [e] at po; exact po.elim
  | some k =>
    rw [e] at po
    have po' : Q k H1 := po k H1 Fz own rl rfl
    refine ⟨k, ?_, po'⟩
    have len : ∀ {ds : List D} {vs : List V} {Fz : AS}, RepFL G Fz H1 ds vs → vs.isEmpty = ds.isEmpty := fun {ds vs _} h => by
      cases ds with
      | nil => rw [show vs = [] from h]; rfl
      | cons d r => obtain ⟨v, r', e', _⟩ := h; rw [e']; rfl
    have lenO : ∀ {ds : List D} {vs : List V} {Fz : AS} {f : AS}, RepOL G Fz H1 ds vs f → vs.isEmpty = ds.isEmpty := fun {ds vs _ _} h => by
      cases ds with
      | nil => rw [show vs = [] from h.1]; rfl
      | cons d r => obtain ⟨v, r', g1, g2, e', _⟩ := h; rw [e']; rfl
    cases d with
    | non => cases e; rw [hv.1]; rfl
    | bl b => cases e; rw [hv.1]; rfl
    | int i => cases e; rw [hv.1]; rfl
    | str s =>
      rw [hv.1]
      have e' : (if s.length ≤ sizeLine then some (!s.isEmpty) else none) = some k := e
      by_cases hl : s.length ≤ sizeLine
      · rw [if_pos hl] at e'
        have e2 : (!s.isEmpty) = k := Option.some.inj e'
        subst e2
        refine ⟨by show (mkS s).length ≤ _; unfold mkS Str.length; simpa using hl, ?_⟩
        show (!s.isEmpty) = (((mkS s).length : Int) != 0)
        unfold mkS Str.length
        cases s with
        | nil => rfl
        | cons c r =>
          have : ((c :: r).toArray.size : Int) ≠ 0 := by simp; omega
          rw [bne_iff_ne.mpr this]
          rfl
      · rw [if_neg hl] at e'
        cases e'
    | lst o xs =>
      cases e
      rcases hv with ⟨_, a, vs, g, rfl, h, r, _⟩ | ⟨⟨_, a, vs, rfl, h, r⟩, _⟩
      · exact .inl ⟨vs, SqL.of h, by rw [lenO r]⟩
      · exact .inl ⟨vs, SqL.of h.2, by rw [len r]⟩
    | tup xs =>
      cases e
      obtain ⟨⟨a, vs, rfl, h, r⟩, _⟩ := hv
      exact .inr (.inl ⟨vs, h, by rw [len r]⟩)
    | scr xs =>
      cases e
      obtain ⟨⟨a, rfl, h⟩, _⟩ := hv
      exact .inl ⟨_, h.sql, by cases xs <;> rfl⟩
    | dct o kvs => cases e
    | ins o c fs => cases e
theorem tX.and {a b : M Bool} {Q : Bool → Hp → Prop} (h : tX G W RB q (tAndM a b) σ H Q) : tAnd (tX G W RB q a) (tX G W RB q b) σ H Q := by
  have h1 : tX G W RB q a σ H _ := h.first
  refine h1.mono fun v H1 ⟨fr, d, env, Fz, own, qk, rl, hv, po⟩ => ?_
  cases (show d = v from hv)
  cases v with
  | true => exact ⟨fr, env, Fz, own, qk, rl, po⟩
  | false => exact po false H1 Fz own rl rfl
theorem tX.or {a b : M Bool} {Q : Bool → Hp → Prop} (h : tX G W RB q (tOrM a b) σ H Q) : tOr (tX G W RB q a) (tX G W RB q b) σ H Q := by
  have h1 : tX G W RB q a σ H _ := h.first
  refine h1.mono fun v H1 ⟨fr, d, env, Fz, own, qk, rl, hv, po⟩ => ?_
  cases (show d = v from hv)
  cases v with
  | false => exact ⟨fr, env, Fz, own, qk, rl, po⟩
  | true => exact po true H1 Fz own rl rfl
theorem tX.not {a : M Bool} {Q : Bool → Hp → Prop} (h : tX G W RB q (tNotM a) σ H Q) : tNot (tX G W RB q a) σ H Q := by
  have h1 : tX G W RB q a σ H _ := h.first
  refine h1.mono fun v H1 ⟨fr, d, env, Fz, own, qk, rl, hv, po⟩ => ?_
  cases (show d = v from hv)
  exact po _ H1 Fz own rl rfl
/-- and, or as values of bools -/
def eAndM (a b : M D) : M D := bnd a fun x => match x with
  | .bl true => b
  | .bl false => mret (.bl false)
  | _ => mbad
def eOrM (a b : M D) : M D := bnd a fun x => match x with
  | .bl true => mret (.bl true)
  | .bl false => b
  | _ => mbad
def eNotM (a : M D) : M D := bnd a fun x => match x with
  | .bl b => mret (.bl (!b))
  | _ => mbad
theorem tX.andV {a b : M D} {Q : VK} (h : tX G W (RO G) q (eAndM a b) σ H Q) : tAndV (tX G W (RO G) q a) (tX G W (RO G) q b) σ H Q := by
  have h1 : tX G W (RO G) q a σ H _ := h.first
  refine h1.mono fun v H1 ⟨fr, d, env, Fz, own, qk, rl, ⟨f, hv, hf⟩, po⟩ => ?_
  cases d with
  | bl c =>
    refine ⟨c, hv.1, ?_⟩
    cases c with
    | true => exact ⟨fr, env, Fz, own, qk, rl, po⟩
    | false => exact po (.bl false) H1 Fz own rl ⟨nul, ⟨rfl, fun _ z => z⟩, fun _ z => z.elim⟩
  | _ => exact po.elim
theorem tX.orV {a b : M D} {Q : VK} (h : tX G W (RO G) q (eOrM a b) σ H Q) : tOrV (tX G W (RO G) q a) (tX G W (RO G) q b) σ H Q := by
  have h1 : tX G W (RO G) q a σ H _ := h.first
  refine h1.mono fun v H1 ⟨fr, d, env, Fz, own, qk, rl, ⟨f, hv, hf⟩, po⟩ => ?_
  cases d with
  | bl c =>
    refine ⟨c, hv.1, ?_⟩
    cases c with
    | false => exact ⟨fr, env, Fz, own, qk, rl, po⟩
    | true => exact po (.bl true) H1 Fz own rl ⟨nul, ⟨rfl, fun _ z => z⟩, fun _ z => z.elim⟩
  | _ => exact po.elim
theorem tX.notV {a : M D} {Q : VK} (h : tX G W (RO G) q (eNotM a) σ H Q) : tNotV (tX G W (RO G) q a) σ H Q := by
  have h1 : tX G W (RO G) q a σ H _ := h.first
  refine h1.mono fun v H1 ⟨fr, d, env, Fz, own, qk, rl, ⟨f, hv, hf⟩, po⟩ => ?_
  cases d with
  | bl c => exact ⟨c, hv.1, po _ H1 Fz own rl ⟨nul, ⟨rfl, fun _ z => z⟩, fun _ z => z.elim⟩⟩
  | _ => exact po.elim
end
section
variable {X : Cx} {G : Gx} {W : WX} {q : Bool} {a b c : Expr} {rest : List Expr} {fa fb fc : M D} {ga gb : M Bool} {pos : Pos}
theorem eb_val (ha : EO X G W q a fa) (he : ∀ whole, isTrue a X.env whole = (do let v ← whole; standAt a.pos; holding [v] (truthy v))) : EB X G W q a (tBl fa) := PT.wk (pt_val ha he) fun _ _ _ h => h.bl
theorem eb_tru (hK : G.K = X.K) (ha : EV X G W q a fa) (he : ∀ whole, isTrue a X.env whole = (do let v ← whole; standAt a.pos; holding [v] (truthy v))) : EB X G W q a (tTru fa) := PT.wk (pt_truth ha he) fun _ _ _ h => h.tru hK
theorem eb_cmp {op : CmpOp} {r : R2} {p : D → D → Option D} (ho : OpR X (compareOp op) r) (hp : Pr2 G r p) (ha : EF X G W q a fa) (hb : EV X G W q b fb) (hm : behindInMarks op b = false) : EB X G W q (.Compare a [op] [b] pos) (tBl (e2 p fa fb)) :=
  PT.wk (pt_cmpR ho ha hb hm) fun _ _ _ h => (h.bl).e2 hp
theorem eb_cmpq {op : CmpOp} {r : R2} {p : D → D → Option D} (ho : OpR X (compareOp op) r) (hp : Pr2 G r p) (ha : EV X G W q a fa) (hb : EV X G W true b fb) (hm : behindInMarks op b = false) : EB X G W q (.Compare a [op] [b] pos) (tBl (e2 p fa fb)) :=
  PT.wk (pt_cmpR ho ha hb hm) fun _ _ _ h => (h.bl).e2q hp
theorem eb_not (ha : EB X G W q a ga) : EB X G W q (.UnaryOp .Not a pos) (tNotM ga) := PT.wk (pt_not ha) fun _ _ _ h => h.not
theorem ebw_and1 (ha : EB X G W q a ga) : EBW X G W q (.BoolOp .And [a] pos) ga := pw_and1 ha
theorem ebw_or1 (ha : EB X G W q a ga) : EBW X G W q (.BoolOp .Or [a] pos) ga := pw_or1 ha
theorem ebw_and (ha : EB X G W q a ga) (hb : EBW X G W q (.BoolOp .And (b :: rest) pos) gb) : EBW X G W q (.BoolOp .And (a :: b :: rest) pos) (tAndM ga gb) := PW.wk (pw_and ha hb) fun _ _ _ h => h.and
theorem ebw_or (ha : EB X G W q a ga) (hb : EBW X G W q (.BoolOp .Or (b :: rest) pos) gb) : EBW X G W q (.BoolOp .Or (a :: b :: rest) pos) (tOrM ga gb) := PW.wk (pw_or ha hb) fun _ _ _ h => h.or
theorem eb_w (h : EBW X G W q a ga) : EB X G W q a ga := PW.pt h
theorem eo_one {op : BoolOp} (h : EO X G W q a fa) : EO X G W q (.BoolOp op [a] pos) fa := pe_one h
theorem eo_and (ha : EO X G W q a fa) (hb : EO X G W q (.BoolOp .And (b :: rest) pos) fb) : EO X G W q (.BoolOp .And (a :: b :: rest) pos) (eAndM fa fb) := PE.wk (pe_and ha hb) fun _ _ _ h => h.andV
theorem eo_or (ha : EO X G W q a fa) (hb : EO X G W q (.BoolOp .Or (b :: rest) pos) fb) : EO X G W q (.BoolOp .Or (a :: b :: rest) pos) (eOrM fa fb) := PE.wk (pe_or ha hb) fun _ _ _ h => h.orV
theorem eo_not (ha : EO X G W q a fa) : EO X G W q (.UnaryOp .Not a pos) (eNotM fa) := PE.wk (pe_not ha) fun _ _ _ h => h.notV
end
end Y

namespace Y
open PySem PySem.Spec PyProof.Rows L2

/-! ### data that == compares -/
mutual
def toPy : D → PyData
  | .non => .none
  | .bl b => .bool b
  | .int i => .int i
  | .str s => .str (mkS s)
  | .tup xs => .tuple (toPyL xs)
  | .lst _ xs => .list (toPyL xs)
  | .scr xs => .list (xs.map PyData.int)
  | .dct _ _ => .dict []
  | .ins _ _ _ => .dict []
def toPyL : List D → List PyData
  | [] => []
  | d :: ds => toPy d :: toPyL ds
end
/- of that depth, without dicts and instances -/
mutual
def sh : D → Nat → Bool
  | .tup xs, n => match n with
    | 0 => false
    | k + 1 => shL xs k
  | .lst _ xs, n => match n with
    | 0 => false
    | k + 1 => shL xs k
  | .scr _, n => match n with
    | 0 => false
    | _ + 1 => true
  | .dct _ _, _ => false
  | .ins _ _ _, _ => false
  | .non, _ => true
  | .bl _, _ => true
  | .int _, _ => true
  | .str _, _ => true
def shL : List D → Nat → Bool
  | [], _ => true
  | d :: ds, n => sh d n && shL ds n
end
theorem shL_eq : ∀ (xs : List D) (n : Nat), shL xs n = xs.all fun d => sh d n
  | [], _ => rfl
  | d :: ds, n => by simp [shL, shL_eq ds n]
mutual
def eqD : D → D → Bool
  | .non, .non => true
  | .bl a, .bl b => a == b
  | .bl a, .int j => (if a then 1 else 0) == j
  | .int i, .bl b => i == (if b then 1 else 0)
  | .int i, .int j => i == j
  | .str x, .str y => x == y
  | .tup xs, .tup ys => eqDL xs ys
  | .lst _ xs, .lst _ ys => eqDL xs ys
  | _, _ => false
def eqDL : List D → List D → Bool
  | [], [] => true
  | x :: xs, y :: ys => eqD x y && eqDL xs ys
  | _, _ => false
end
theorem depthAll_ints : ∀ xs : List Int, PyData.depthAll (xs.map PyData.int) = 0
  | [] => rfl
  | x :: r => by simp [PyData.depthAll, PyData.depth, depthAll_ints r]
theorem plainAll_ints : ∀ xs : List Int, PyData.plainAll (xs.map PyData.int) = true
  | [] => rfl
  | x :: r => by simp [PyData.plainAll, PyData.plain, plainAll_ints r]
mutual
theorem sh_plain : ∀ {d : D} {n : Nat}, sh d n = true → (toPy d).plain = true ∧ (toPy d).depth ≤ n
  | .non, _, _ => ⟨rfl, Nat.zero_le _⟩
  | .bl _, _, _ => ⟨rfl, Nat.zero_le _⟩
  | .int _, _, _ => ⟨rfl, Nat.zero_le _⟩
  | .str _, _, _ => ⟨rfl, Nat.zero_le _⟩
  | .tup xs, n, h => by
    cases n with
    | zero => cases h
    | succ k =>
      obtain ⟨a, b⟩ := shL_plain (xs := xs) (n := k) h
      exact ⟨a, Nat.succ_le_succ b⟩
  | .lst _ xs, n, h => by
    cases n with
    | zero => cases h
    | succ k =>
      obtain ⟨a, b⟩ := shL_plain (xs := xs) (n := k) h
      exact ⟨a, Nat.succ_le_succ b⟩
  | .scr xs, n, h => by
    cases n with
    | zero => cases h
    | succ k =>
      refine ⟨plainAll_ints xs, ?_⟩
      show PyData.depthAll (xs.map PyData.int) + 1 ≤ k + 1
      rw [depthAll_ints]
      omega
  | .dct _ _, _, h => nomatch h
  | .ins _ _ _, _, h => nomatch h
theorem shL_plain : ∀ {xs : List D} {n : Nat}, shL xs n = true → PyData.plainAll (toPyL xs) = true ∧ PyData.depthAll (toPyL xs) ≤ n
  | [], _, _ => ⟨rfl, Nat.zero_le _⟩
  | d :: ds, n, h => by
    have h' : (sh d n && shL ds n) = true := h
    rw [Bool.and_eq_true] at h'
    obtain ⟨a, b⟩ := sh_plain h'.1
    obtain ⟨a2, b2⟩ := shL_plain h'.2
    refine ⟨?_, Nat.max_le.mpr ⟨b, b2⟩⟩
    show ((toPy d).plain && PyData.plainAll (toPyL ds)) = true
    rw [a, a2]; rfl
end
theorem mkS_beq (x y : List Nat) : (mkS x == mkS y) = (x == y) := by
  rw [Bool.eq_iff_iff, beq_iff_eq, beq_iff_eq]
  unfold mkS
  simp
/- no script, no dict, no instance within -/
mutual
def pl : D → Bool
  | .tup xs => plL xs
  | .lst _ xs => plL xs
  | .scr _ => false
  | .dct _ _ => false
  | .ins _ _ _ => false
  | .non => true
  | .bl _ => true
  | .int _ => true
  | .str _ => true
def plL : List D → Bool
  | [] => true
  | d :: ds => pl d && plL ds
end
mutual
theorem eqv_eqD : ∀ {d e : D}, pl d = true → pl e = true → PyData.eqv (toPy d) (toPy e) = eqD d e
  | .non, e, _, h => by cases e <;> first | rfl | cases h
  | .bl _, e, _, h => by cases e <;> first | rfl | cases h
  | .int _, e, _, h => by cases e <;> first | rfl | cases h
  | .str x, e, _, h => by
    cases e with
    | str y => exact mkS_beq x y
    | scr _ => cases h
    | dct _ _ => cases h
    | ins _ _ _ => cases h
    | _ => rfl
  | .tup xs, e, g, h => by
    cases e with
    | tup ys => exact eqvL_eqD (xs := xs) (ys := ys) g h
    | scr _ => cases h
    | dct _ _ => cases h
    | ins _ _ _ => cases h
    | _ => rfl
  | .lst _ xs, e, g, h => by
    cases e with
    | lst _ ys => exact eqvL_eqD (xs := xs) (ys := ys) g h
    | scr _ => cases h
    | dct _ _ => cases h
    | ins _ _ _ => cases h
    | _ => rfl
  | .scr _, _, h, _ => nomatch h
  | .dct _ _, _, h, _ => nomatch h
  | .ins _ _ _, _, h, _ => nomatch h
theorem eqvL_eqD : ∀ {xs ys : List D}, plL xs = true → plL ys = true → PyData.eqvAll (toPyL xs) (toPyL ys) = eqDL xs ys
  | [], [], _, _ => rfl
  | [], _ :: _, _, _ => rfl
  | _ :: _, [], _, _ => rfl
  | x :: xs, y :: ys, g, h => by
    have g' : (pl x && plL xs) = true := g
    have h' : (pl y && plL ys) = true := h
    rw [Bool.and_eq_true] at g' h'
    show (PyData.eqv (toPy x) (toPy y) && PyData.eqvAll (toPyL xs) (toPyL ys)) = (eqD x y && eqDL xs ys)
    rw [eqv_eqD g'.1 h'.1, eqvL_eqD g'.2 h'.2]
end
theorem plL_eq : ∀ (xs : List D), plL xs = xs.all pl
  | [] => rfl
  | d :: ds => by simp [plL, plL_eq ds]
/-- what == may be asked of -/
def okE (d : D) : Bool := sh d 8 && pl d
section
variable {G : Gx} {Fz : AS} {H : Hp}
theorem dp_ints {K : PySem.W.Frag} : ∀ ns : List Int, DpAll K H (ns.map V.int) (ns.map PyData.int)
  | [] => .nil
  | n :: r => .cons (.int n) (dp_ints r)
mutual
theorem RepF.dp : ∀ {d : D} {n : Nat} {v : V}, RepF G Fz H d v → sh d n = true → Dp G.K H v (toPy d)
  | .non, _, _, h, _ => by rw [show _ = V.non from h]; exact .non
  | .bl _, _, _, h, _ => by rw [show _ = V.bl _ from h]; exact .bl _
  | .int _, _, _, h, _ => by rw [show _ = V.int _ from h]; exact .int _
  | .str _, _, _, h, _ => by rw [show _ = V.str _ from h]; exact .str _
  | .tup xs, n, _, ⟨a, vs, e, h, r⟩, q => by
    cases n with
    | zero => cases q
    | succ k => subst e; exact .tup h (RepFL.dp r (n := k) q)
  | .lst _ xs, n, _, ⟨o, a, vs, e, h, r⟩, q => by
    cases n with
    | zero => cases q
    | succ k => subst e; exact .lst h.sql (RepFL.dp r (n := k) q)
  | .scr xs, n, _, ⟨a, e, h⟩, q => by subst e; exact .lst h.sql (dp_ints xs)
  | .dct _ _, _, _, _, q => nomatch q
  | .ins _ _ _, _, _, _, q => nomatch q
theorem RepFL.dp : ∀ {d : List D} {n : Nat} {v : List V}, RepFL G Fz H d v → shL d n = true → DpAll G.K H v (toPyL d)
  | [], _, _, h, _ => by rw [show _ = [] from h]; exact .nil
  | d :: ds, n, _, ⟨v, r, e, h, t⟩, q => by
    have q' : (sh d n && shL ds n) = true := q
    rw [Bool.and_eq_true] at q'
    subst e
    exact .cons (RepF.dp h q'.1) (RepFL.dp t q'.2)
end
mutual
theorem RepO.dp : ∀ {d : D} {n : Nat} {v : V} {f : AS}, RepO G Fz H d v f → sh d n = true → Dp G.K H v (toPy d)
  | .non, _, _, _, h, _ => by rw [h.1]; exact .non
  | .bl _, _, _, _, h, _ => by rw [h.1]; exact .bl _
  | .int _, _, _, _, h, _ => by rw [h.1]; exact .int _
  | .str _, _, _, _, h, _ => by rw [h.1]; exact .str _
  | .tup xs, n, _, _, h, q => RepF.dp h.1 q
  | .lst _ xs, n, _, _, .inl ⟨o, a, vs, g, e, h, r, _⟩, q => by
    cases n with
    | zero => cases q
    | succ k => subst e; exact .lst (SqL.of h) (RepOL.dp r (n := k) q)
  | .lst _ xs, n, _, _, .inr h, q => RepF.dp h.1 q
  | .scr xs, n, _, _, h, q => RepF.dp h.1 q
  | .dct _ _, _, _, _, _, q => nomatch q
  | .ins _ _ _, _, _, _, _, q => nomatch q
theorem RepOL.dp : ∀ {d : List D} {n : Nat} {v : List V} {f : AS}, RepOL G Fz H d v f → shL d n = true → DpAll G.K H v (toPyL d)
  | [], _, _, _, h, _ => by rw [show _ = [] from h.1]; exact .nil
  | d :: ds, n, _, _, ⟨v, r, g1, g2, e, h, t, _⟩, q => by
    have q' : (sh d n && shL ds n) = true := q
    rw [Bool.and_eq_true] at q'
    subst e
    exact .cons (RepO.dp h q'.1) (RepOL.dp t q'.2)
end
end
/-- == and != of plain data, in and not in of lists and tuples -/
def rEqP (K : PySem.W.Frag) (ng : Bool) : R2 := fun x y H Q => ∃ d e n, Dp K H x d ∧ Dp K H y e ∧ d.plain = true ∧ e.plain = true ∧ n ≤ 60 ∧ d.depth ≤ n ∧ Q (.bl (if ng then !PyData.eqv d e else PyData.eqv d e)) H
theorem op_eqP {X : Cx} (hu : X.A.units + 64 < cLine) : OpR X (compareOp .Eq) (rEqP X.K false) := by
  intro pins s σ H x y v u Q I rx ry h
  obtain ⟨d, e, n, hd, he, sd, se, hn, hp, q⟩ := h
  obtain ⟨as, r1⟩ := Dp.reads I d x v hd rx
  obtain ⟨bs, r2⟩ := Dp.reads I e y u he ry
  have : min d.depth e.depth ≤ d.depth := Nat.min_le_left _ _
  exact SeqAt.eq_plain r1 r2 sd se (by omega) ⟨.bl _, H, I, rfl, q⟩
theorem op_neP {X : Cx} (hu : X.A.units + 64 < cLine) : OpR X (compareOp .NotEq) (rEqP X.K true) := by
  intro pins s σ H x y v u Q I rx ry h
  obtain ⟨d, e, n, hd, he, sd, se, hn, hp, q⟩ := h
  obtain ⟨as, r1⟩ := Dp.reads I d x v hd rx
  obtain ⟨bs, r2⟩ := Dp.reads I e y u he ry
  have : min d.depth e.depth ≤ d.depth := Nat.min_le_left _ _
  exact SeqAt.ne_plain r1 r2 sd se (by omega) ⟨.bl _, H, I, rfl, q⟩
def pEq (ng : Bool) : D → D → Option D := fun x y => if okE x = true ∧ okE y = true then some (.bl (if ng then !eqD x y else eqD x y)) else none
theorem pr_eq {G : Gx} {ng : Bool} : Pr2 G (rEqP G.K ng) (pEq ng) := by
  intro Fz H x y d v w f g Q hx hy hp hq
  unfold pEq at hp
  split at hp
  · rename_i h
    obtain ⟨h1, h2⟩ := h
    unfold okE at h1 h2
    rw [Bool.and_eq_true] at h1 h2
    cases hp
    obtain ⟨a1, a2⟩ := sh_plain h1.1
    obtain ⟨b1, b2⟩ := sh_plain h2.1
    refine ⟨toPy x, toPy y, 8, hx.dp h1.1, hy.dp h2.1, a1, b1, by decide, a2, ?_⟩
    rw [eqv_eqD h1.2 h2.2]
    exact hq _ H nul (fun _ _ z => z) ⟨rfl, fun _ z => z⟩ fun _ z => z.elim
  · cases hp
end Y

namespace Y
open PySem PySem.Spec PyProof.Rows L2

/-- no part is owned -/
def flat (xs : List D) : Bool := xs.all fun d => !d.own
theorem ext_upd {H : Hp} {p : Addr} {o : HO} (h : H p = none) : Ext H (upd H p o) := fun a u e => by rw [upd_ne (ne_of_none e h)]; exact e
section
variable {G : Gx} {Fz : AS} {H H' : Hp}
theorem RepOL.flat : ∀ {xs : List D} {vs : List V} {f : AS}, RepOL G Fz H xs vs f → Y.flat xs = true → RepFL G Fz H xs vs
  | [], _, _, h, _ => h.1
  | d :: ds, _, _, ⟨v, r, g1, g2, e, h, t, _⟩, q => by
    have q' : ((!d.own) && Y.flat ds) = true := q
    rw [Bool.and_eq_true] at q'
    exact ⟨v, r, e, (h.f (by simpa using q'.1)).1, t.flat q'.2⟩
theorem RepO.list {o : Bool} {xs : List D} {v : V} {f : AS} (h : RepO G Fz H (.lst o xs) v f) (q : Y.flat xs = true) : ∃ a vs, v = .ref a ∧ H a = some (.lst vs) ∧ RepFL G Fz H xs vs := by
  rcases h with ⟨_, a, vs, g, e, h, r, _⟩ | ⟨⟨_, a, vs, e, h, r⟩, _⟩
  · exact ⟨a, vs, e, h, r.flat q⟩
  · exact ⟨a, vs, e, h.2, r⟩
theorem RepFL.append : ∀ {xs ys : List D} {vs ws : List V}, RepFL G Fz H xs vs → RepFL G Fz H ys ws → RepFL G Fz H (xs ++ ys) (vs ++ ws)
  | [], _, _, _, h, h' => by rw [show _ = [] from h]; exact h'
  | _ :: _, _, _, _, ⟨v, r, e, h, t⟩, h' => by subst e; exact ⟨v, _, rfl, h, t.append h'⟩
theorem RepFL.length : ∀ {xs : List D} {vs : List V}, RepFL G Fz H xs vs → vs.length = xs.length
  | [], _, h => by rw [show _ = [] from h]; rfl
  | _ :: _, _, ⟨v, r, e, h, t⟩ => by subst e; simp [t.length]
theorem RepFL.get : ∀ {xs : List D} {vs : List V} {i : Nat} {d : D}, RepFL G Fz H xs vs → xs[i]? = some d → ∃ v, vs[i]? = some v ∧ RepF G Fz H d v
  | [], _, _, _, _, q => by simp at q
  | _ :: _, _, 0, _, ⟨v, r, e, h, t⟩, q => by subst e; simp at q; subst q; exact ⟨v, rfl, h⟩
  | _ :: _, _, i + 1, _, ⟨v, r, e, h, t⟩, q => by subst e; simp at q; simpa using t.get q
theorem RepOL.length : ∀ {xs : List D} {vs : List V} {f : AS}, RepOL G Fz H xs vs f → vs.length = xs.length
  | [], _, _, h => by rw [show _ = [] from h.1]; rfl
  | _ :: _, _, _, ⟨v, r, g1, g2, e, h, t, _⟩ => by subst e; simp [t.length]
theorem RepOL.get : ∀ {xs : List D} {vs : List V} {i : Nat} {d : D} {f : AS}, RepOL G Fz H xs vs f → xs[i]? = some d → ∃ v g, vs[i]? = some v ∧ RepO G Fz H d v g
  | [], _, _, _, _, _, q => by simp at q
  | _ :: _, _, 0, _, _, ⟨v, r, g1, g2, e, h, t, _⟩, q => by subst e; simp at q; subst q; exact ⟨v, _, rfl, h⟩
  | _ :: _, _, i + 1, _, _, ⟨v, r, g1, g2, e, h, t, _⟩, q => by subst e; simp at q; simpa using t.get q
theorem RepFL.o : ∀ {xs : List D} {vs : List V}, RepFL G Fz H xs vs → RepOL G Fz H xs vs nul
  | [], _, h => ⟨h, fun _ z => z⟩
  | _ :: _, _, ⟨v, r, e, h, t⟩ => ⟨v, r, nul, nul, e, h.o, t.o, fun _ z => z.elim, fun b => ⟨fun z => z.elim, fun z => z.elim id id⟩⟩
/-- a new list, a new tuple -/
theorem gives_lst {Q : VK} {xs : List D} {vs : List V} (g : Gives G Fz H Q (.lst true xs)) (h : RepFL G Fz H xs vs) : ∀ p, H p = none → Q (.ref p) (upd H p (.lst vs)) := fun p hp =>
  g _ _ (fun a => a = p) (ext_upd hp) (.inl ⟨rfl, p, vs, nul, rfl, upd_same, (h.mono ((ext_upd hp).kp _) fun _ z => z).o, fun z => z, fun b => ⟨.inl, fun z => z.elim id False.elim⟩⟩) fun a e => by rw [e]; exact hp
theorem gives_tup {Q : VK} {xs : List D} {vs : List V} (K : PySem.W.Frag) (g : Gives G Fz H Q (.tup xs)) (h : RepFL G Fz H xs vs) : ∀ p, H p = none → Q (.ref p) (upd H p (.tup vs)) := fun p hp =>
  g _ _ nul (ext_upd hp) ⟨⟨p, vs, rfl, SqT.of upd_same, h.mono ((ext_upd hp).kp _) fun _ z => z⟩, fun _ z => z⟩ fun _ z => z.elim
/-- the same heap -/
theorem gives_here {Q : VK} {d : D} {v : V} (g : Gives G Fz H Q d) (h : RepF G Fz H d v) : Q v H := g v H nul (fun _ _ z => z) h.o fun _ z => z.elim
theorem mkS_length (s : List Nat) : (mkS s).length = s.length := by unfold mkS Str.length; simp
theorem mkS_append (s t : List Nat) : mkS s ++ mkS t = mkS (s ++ t) := by
  apply TL.ext_tl
  rw [TL.tl_append]
  unfold mkS
  simp [TL.tl]
theorem tl_mkS (s : List Nat) : (mkS s).cps.toList = s := by unfold mkS; simp
end

/-! ### arithmetic -/
def pAdd : D → D → Option D
  | .int i, .int j => some (.int (i + j))
  | .str s, .str t => if s.length + t.length ≤ sizeLine then some (.str (s ++ t)) else none
  | .lst _ xs, .lst _ ys => if flat xs = true ∧ flat ys = true ∧ xs.length + ys.length ≤ sizeLine then some (.lst true (xs ++ ys)) else none
  | .tup (x :: xs), .tup ys => if xs.length + 1 + ys.length ≤ sizeLine then some (.tup (x :: xs ++ ys)) else none
  | _, _ => none
def rAddA (K : PySem.W.Frag) : R2 := fun x y H Q => ((((rI0 fun i j => .int (i + j)) x y H Q) ∨ (∃ i j, x = .str i ∧ y = .str j ∧ i.length + j.length ≤ sizeLine ∧ Q (.str (i ++ j)) H)) ∨ rCat x y H Q) ∨ rCatT K x y H Q
theorem op_addA {X : Cx} : OpR X (binaryOp .Add) (rAddA X.K) := ((op_add.or op_add_str).or op_cat).or op_catT
theorem pr_add {G : Gx} : Pr2 G (rAddA G.K) pAdd := by
  intro Fz H x y d v w f g Q hx hy hp hq
  unfold pAdd at hp
  split at hp
  · cases hp
    obtain ⟨rfl, _⟩ := hx
    obtain ⟨rfl, _⟩ := hy
    exact .inl (.inl (.inl ⟨_, _, rfl, rfl, gives_here hq rfl⟩))
  · split at hp
    · rename_i hl
      cases hp
      obtain ⟨rfl, _⟩ := hx
      obtain ⟨rfl, _⟩ := hy
      refine .inl (.inl (.inr ⟨_, _, rfl, rfl, by rw [mkS_length, mkS_length]; exact hl, ?_⟩))
      rw [mkS_append]
      exact gives_here hq rfl
    · cases hp
  · split at hp
    · rename_i hl
      cases hp
      obtain ⟨h1, h2, h3⟩ := hl
      obtain ⟨a, vs, rfl, ha, ra⟩ := hx.list h1
      obtain ⟨b, ws, rfl, hb, rb⟩ := hy.list h2
      exact .inl (.inr ⟨a, b, vs, ws, rfl, rfl, ha, hb, by rw [ra.length, rb.length]; exact h3, gives_lst hq (ra.append rb)⟩)
    · cases hp
  · split at hp
    · rename_i hl
      cases hp
      obtain ⟨⟨a, vs, rfl, ha, ra⟩, _⟩ := hx
      obtain ⟨⟨b, ws, rfl, hb, rb⟩, _⟩ := hy
      have l1 := ra.length
      have l2 := rb.length
      refine .inr ⟨a, b, vs, ws, rfl, rfl, ha, hb, ?_, by rw [l1, l2]; simpa using hl, fun e => ?_, fun _ => gives_tup G.K hq (ra.append rb)⟩
      · rintro rfl
        simp at l1
      · subst e
        have r2 := RepFL.append ra rb
        rw [List.append_nil] at r2
        exact gives_here hq ⟨a, vs, rfl, ha, r2⟩
    · cases hp
  · cases hp
def pI (C : Int → Int → Prop) [∀ i j, Decidable (C i j)] (g : Int → Int → Int) : D → D → Option D
  | .int i, .int j => if C i j then some (.int (g i j)) else none
  | _, _ => none
theorem pr_I {G : Gx} {C C' : Int → Int → Prop} [∀ i j, Decidable (C i j)] {g : Int → Int → Int} (hC : ∀ i j, C i j → C' i j) : Pr2 G (rI C' fun i j => .int (g i j)) (pI C g) := by
  intro Fz H x y d v w f g' Q hx hy hp hq
  unfold pI at hp
  split at hp
  · split at hp
    · rename_i hc
      cases hp
      obtain ⟨rfl, _⟩ := hx
      obtain ⟨rfl, _⟩ := hy
      exact ⟨_, _, rfl, rfl, hC _ _ hc, gives_here hq rfl⟩
    · cases hp
  · cases hp
def pSub : D → D → Option D
  | .int i, .int j => some (.int (i - j))
  | _, _ => none
theorem pr_sub {G : Gx} : Pr2 G (rI0 fun i j => .int (i - j)) pSub := by
  intro Fz H x y d v w f g' Q hx hy hp hq
  unfold pSub at hp
  split at hp
  · cases hp
    obtain ⟨rfl, _⟩ := hx
    obtain ⟨rfl, _⟩ := hy
    exact ⟨_, _, rfl, rfl, gives_here hq rfl⟩
  · cases hp
abbrev cMul (i j : Int) : Prop := (-18446744073709551616 < i ∧ i < 18446744073709551616) ∨ (-18446744073709551616 < j ∧ j < 18446744073709551616)
abbrev cDiv (_ j : Int) : Prop := 0 < j ∧ j < 18446744073709551616
abbrev cMod (_ j : Int) : Prop := 0 < j
def pMul := pI cMul fun i j => i * j
def pDiv := pI cDiv fun i j => i / j
def pMod := pI cMod fun i j => i % j
theorem pr_mul {G : Gx} : Pr2 G (rI CMul fun i j => .int (i * j)) pMul := pr_I fun _ _ h => h
theorem pr_mod {G : Gx} : Pr2 G (rI (fun _ j => 0 < j) fun i j => .int (i % j)) pMod := pr_I fun _ _ h => h
theorem pr_div {G : Gx} : Pr2 G (rI CDivW fun i j => .int (i / j)) pDiv := pr_I fun _ j h => wide_div (b := 64) h.1 (by have := h.1; have := h.2; omega) (by decide) (by decide)
def pNeg : D → Option D
  | .int i => some (.int (-i))
  | _ => none
theorem pr_neg {G : Gx} : Pr1 G (rU fun i => .int (-i)) pNeg := by
  intro Fz H x d v f Q hx hp hq
  unfold pNeg at hp
  split at hp
  · cases hp
    obtain ⟨rfl, _⟩ := hx
    exact ⟨_, rfl, gives_here hq rfl⟩
  · cases hp
/-! ### comparisons -/
def pCmp (g : Int → Int → Bool) : D → D → Option D
  | .int i, .int j => some (.bl (g i j))
  | _, _ => none
theorem pr_cmp {G : Gx} {g : Int → Int → Bool} : Pr2 G (rI0 fun i j => .bl (g i j)) (pCmp g) := by
  intro Fz H x y d v w f g' Q hx hy hp hq
  unfold pCmp at hp
  split at hp
  · cases hp
    obtain ⟨rfl, _⟩ := hx
    obtain ⟨rfl, _⟩ := hy
    exact ⟨_, _, rfl, rfl, gives_here hq rfl⟩
  · cases hp
def pLt := pCmp fun i j => decide (i < j)
def pLe := pCmp fun i j => decide (i ≤ j)
def pGt := pCmp fun i j => decide (j < i)
def pGe := pCmp fun i j => decide (j ≤ i)
/-- is None; is of bools -/
def isN : D → Bool
  | .non => true
  | _ => false
def pIs (ng : Bool) : D → D → Option D
  | x, .non => some (.bl (ng != isN x))
  | .bl a, .bl b => some (.bl (ng != (a == b)))
  | _, _ => none
def rIsA (ng : Bool) : R2 := fun x y H Q => (y = .non ∧ Q (.bl (ng != decide (x = .non))) H) ∨ ∃ a b : Bool, x = .bl a ∧ y = .bl b ∧ Q (.bl (ng != decide (a = b))) H
theorem op_isA {X : Cx} : OpR X (compareOp .Is) (rIsA false) := fun pins s σ H x y v u Q I rx ry h => (op_isN.or op_isBl) pins s σ H x y v u Q I rx ry (h.imp (fun ⟨a, b⟩ => ⟨a, by simpa using b⟩) fun ⟨a, b, c, d, e⟩ => ⟨a, b, c, d, by simpa using e⟩)
theorem op_isNotA {X : Cx} : OpR X (compareOp .IsNot) (rIsA true) := fun pins s σ H x y v u Q I rx ry h => (op_notN.or op_notBl) pins s σ H x y v u Q I rx ry (h.imp (fun ⟨a, b⟩ => ⟨a, by simpa using b⟩) fun ⟨a, b, c, d, e⟩ => ⟨a, b, c, d, by simpa using e⟩)
theorem RepO.isN {G : Gx} {Fz : AS} {H : Hp} : ∀ {d : D} {v : V} {f : AS}, RepO G Fz H d v f → Y.isN d = decide (v = .non)
  | .non, _, _, h => by rw [h.1]; rfl
  | .bl _, _, _, h => by rw [h.1]; rfl
  | .int _, _, _, h => by rw [h.1]; rfl
  | .str _, _, _, h => by rw [h.1]; rfl
  | .tup _, _, _, ⟨⟨_, _, e, _⟩, _⟩ => by rw [e]; rfl
  | .lst _ _, _, _, .inl ⟨_, _, _, _, e, _⟩ => by rw [e]; rfl
  | .lst _ _, _, _, .inr ⟨⟨_, _, _, e, _⟩, _⟩ => by rw [e]; rfl
  | .dct _ _, _, _, .inl ⟨_, _, _, _, e, _⟩ => by rw [e]; rfl
  | .dct _ _, _, _, .inr ⟨⟨_, _, _, e, _⟩, _⟩ => by rw [e]; rfl
  | .ins _ _ _, _, _, .inl ⟨_, _, _, _, _, e, _⟩ => by rw [e]; rfl
  | .ins _ _ _, _, _, .inr ⟨⟨_, _, _, _, e, _⟩, _⟩ => by rw [e]; rfl
  | .scr _, _, _, ⟨⟨_, e, _⟩, _⟩ => by rw [e]; rfl
theorem pr_is {G : Gx} {ng : Bool} : Pr2 G (rIsA ng) (pIs ng) := by
  intro Fz H x y d v w f g' Q hx hy hp hq
  unfold pIs at hp
  split at hp
  · cases hp
    obtain ⟨rfl, _⟩ := hy
    refine .inl ⟨rfl, ?_⟩
    rw [← hx.isN]
    exact gives_here hq rfl
  · cases hp
    obtain ⟨rfl, _⟩ := hx
    obtain ⟨rfl, _⟩ := hy
    refine .inr ⟨_, _, rfl, rfl, ?_⟩
    rw [← Bool.beq_eq_decide_eq]
    exact gives_here hq rfl
  · cases hp
/-! ### items -/
/-- the item's place; an owned part can't be handed out -/
def pIx : D → D → Option D
  | .lst _ xs, .int i => (atI xs i).bind fun d => if d.own = true then none else some d
  | .tup xs, .int i => atI xs i
  | .scr xs, .int i => (atI xs i).map D.int
  | .str s, .int i => if s.length ≤ sizeLine then (atI s i).map fun c => D.str [c] else none
  | _, _ => none
theorem atI_some {α : Type} {xs : List α} {i : Int} {d : α} (h : atI xs i = some d) : ∃ j, ixN xs.length i = some j ∧ xs[j]? = some d := by
  unfold atI at h
  cases e : ixN xs.length i with
  | none => rw [e] at h; cases h
  | some j => rw [e] at h; exact ⟨j, rfl, h⟩
theorem atI_of {α : Type} {xs : List α} {i : Int} {d : α} {j n : Nat} (hn : xs.length = n) (h : ixN n i = some j) (h2 : xs[j]? = some d) : atI xs i = some d := by
  unfold atI
  rw [hn, h]
  exact h2
theorem pr_ix {G : Gx} : Pr2 G (rIx G.K) pIx := by
  intro Fz H x y d v w f g' Q hx hy hp hq
  cases y with
  | int i =>
    obtain ⟨rfl, _⟩ := hy
    cases x with
    | lst o xs =>
      have hp : ((atI xs i).bind fun d => if d.own = true then none else some d) = some d := hp
      cases e : atI xs i with
      | none => rw [e] at hp; cases hp
      | some d' =>
        rw [e] at hp
        have hp' : (if d'.own = true then none else some d') = some d := hp
        split at hp'
        · cases hp'
        · rename_i ho
          cases hp'
          obtain ⟨j, hj, hd⟩ := atI_some e
          rcases hx with ⟨_, a, vs, g, rfl, h, r, _⟩ | ⟨⟨_, a, vs, rfl, h, r⟩, _⟩
          · obtain ⟨u, g2, hu, ru⟩ := r.get hd
            exact .inl ⟨a, vs, i, u, rfl, rfl, SqL.of h, atI_of r.length hj hu, gives_here hq (ru.f (by simpa using ho)).1⟩
          · obtain ⟨u, hu, ru⟩ := r.get hd
            exact .inl ⟨a, vs, i, u, rfl, rfl, h.sql, atI_of r.length hj hu, gives_here hq ru⟩
    | tup xs =>
      obtain ⟨⟨a, vs, rfl, h, r⟩, _⟩ := hx
      obtain ⟨j, hj, hd⟩ := atI_some (show atI xs i = some d from hp)
      obtain ⟨u, hu, ru⟩ := r.get hd
      exact .inr (.inl ⟨a, vs, _, u, rfl, rfl, h, atI_of r.length hj hu, gives_here hq ru⟩)
    | scr xs =>
      obtain ⟨⟨a, rfl, h⟩, _⟩ := hx
      have hp : (atI xs i).map D.int = some d := hp
      cases e : atI xs i with
      | none => rw [e] at hp; cases hp
      | some n =>
        rw [e] at hp
        cases hp
        obtain ⟨j, hj, hd⟩ := atI_some e
        exact .inl ⟨a, _, i, .int n, rfl, rfl, h.sql, atI_of (by simp) hj (by simp [hd]), gives_here hq rfl⟩
    | str s =>
      have hp : (if s.length ≤ sizeLine then (atI s i).map fun c => D.str [c] else none) = some d := hp
      split at hp
      · rename_i hl
        obtain ⟨rfl, _⟩ := hx
        cases e : atI s i with
        | none => rw [e] at hp; cases hp
        | some c =>
          rw [e] at hp
          cases hp
          exact .inr (.inr ⟨mkS s, i, c, rfl, rfl, by rw [mkS_length]; exact hl, by rw [tl_mkS]; exact e, gives_here hq rfl⟩)
      · cases hp
    | _ => simp [pIx] at hp
  | _ => cases x <;> simp [pIx] at hp
end Y

namespace Y
open PySem PySem.Spec PyProof.Rows L2

/-! ### frozen arguments -/
def mL : List (M D) → M (List D)
  | [] => mret []
  | f :: fs => bnd f fun d => bnd (mL fs) fun ds => mret (d :: ds)
abbrev EL (X : Cx) (G : Gx) (W : WX) (q : Bool) (es : List Expr) (f : M (List D)) : Prop := PA X es (tX G W (RL G) q f)
section
variable {X : Cx} {G : Gx} {W : WX} {q : Bool} {a b e : Expr} {es : List Expr} {fa fb : M D} {fs : List (M D)} {pos p : Pos}
theorem RL.hRR {own : Nat → AS} {Fz : AS} {H : Hp} {fr fr' : Fr} {d : List D} {v : List V} (h : RL G own Fz H fr d v) : RL G own Fz H fr' d v := h
theorem el_nil : EL X G W q [] (mL []) := PA.wk pa_nil fun σ H Q ⟨fr, env, Fz, own, qk, r, po⟩ => po [] H Fz own r rfl
theorem el_cons (ha : EF X G W q e fa) (hr : EL X G W q es (mL fs)) (hs : starEach (e :: es) X.env = (false, eval e X.env) :: starEach es X.env) : EL X G W q (e :: es) (mL (fa :: fs)) := PA.wk (pa_cons ha hr hs) fun σ H Q h => by
  have h1 : tX G W (RF G) q fa σ H _ := h.first
  refine h1.mono fun v H1 ⟨fr, d, env, Fz, own, qk, rl, hv, po⟩ => ?_
  have h2 := tX.then_ (RR := RL G) qk rl po (fun _ _ z => z)
  refine h2.mono fun vs H2 ⟨ds, env2, Fz2, own2, r2, nx, hvs, po2⟩ => ?_
  exact po2 (v :: vs) H2 Fz2 own2 r2 ⟨v, vs, rfl, nx.repF rl hv, hvs⟩
/-- a tuple, a list, written -/
def eTup (fs : List (M D)) : M D := bnd (mL fs) fun ds => mopt (if ds.length ≤ 1000 then some (.tup ds) else none)
def eLst (fs : List (M D)) : M D := bnd (mL fs) fun ds => mopt (if ds.length ≤ 1000 then some (.lst true ds) else none)
theorem line1000 : (1000 : Nat) ≤ sizeLine := by rw [sizeLine_eq]; decide
theorem eo_tup {k : Nat} (h : EL X G W q es (mL fs)) : EO X G W q (.Tuple es k pos) (eTup fs) := PE.wk (pe_tup h) fun σ H Q h => by
  have h1 : tX G W (RL G) q (mL fs) σ H _ := h.first
  refine h1.mono fun vs H1 ⟨fr, ds, env, Fz, own, qk, rl, hv, po⟩ => ?_
  obtain ⟨z, hz, po⟩ := opt_prim po
  split at hz
  · rename_i hl
    cases hz
    exact ⟨by rw [hv.length]; exact Nat.le_trans hl line1000, gives_tup G.K (fin_prim rl po) hv⟩
  · cases hz
theorem eo_lst (h : EL X G W q es (mL fs)) : EO X G W q (.List es pos) (eLst fs) := PE.wk (pe_lst h) fun σ H Q h => by
  have h1 : tX G W (RL G) q (mL fs) σ H _ := h.first
  refine h1.mono fun vs H1 ⟨fr, ds, env, Fz, own, qk, rl, hv, po⟩ => ?_
  obtain ⟨z, hz, po⟩ := opt_prim po
  split at hz
  · rename_i hl
    cases hz
    exact ⟨by rw [hv.length]; exact Nat.le_trans hl line1000, gives_lst (fin_prim rl po) hv⟩
  · cases hz

/-! ### calls of built-ins -/
variable {x : Str} {id T : String} {r : List V → Hp → VK → Prop}
theorem eo_callB1 {p1 : D → Option D} (hc : CallR X (.builtin id) r) (hp : Pr1 G (fun x H Q => r [x] H Q) p1) (hg : Gl X x) (hm : X.mg x = none) (hv : bootBuiltins x = some (.builtin id)) (hn : x ≠ "__name__") (hdb : (x == ("__debug__" : Str)) = false)
    (he : starEach [a] X.env = [(false, eval a X.env)]) (ha : EV X G W q a fa) : EO X G W q (.Call (.Name x p) [a] [] pos) (e1 p1 fa) :=
  PE.wk (pe_callB hc hg hm hv (pa_cons ha pa_nil he) hn hdb he rfl) fun σ H Q h => h.e1 hp
theorem eo_callT1 {p1 : D → Option D} (hc : CallR X (.type T) r) (hp : Pr1 G (fun x H Q => r [x] H Q) p1) (hg : Gl X x) (hm : X.mg x = none) (hv : bootBuiltins x = some (.type T)) (hn : x ≠ "__name__") (hdb : (x == ("__debug__" : Str)) = false)
    (he : starEach [a] X.env = [(false, eval a X.env)]) (ha : EV X G W q a fa) : EO X G W q (.Call (.Name x p) [a] [] pos) (e1 p1 fa) :=
  PE.wk (pe_callTy hc hg hm hv (pa_cons ha pa_nil he) hn hdb he rfl) fun σ H Q h => h.e1 hp
theorem eo_callB2 {p2 : D → D → Option D} (hc : CallR X (.builtin id) r) (hp : Pr2 G (fun x y H Q => r [x, y] H Q) p2) (hg : Gl X x) (hm : X.mg x = none) (hv : bootBuiltins x = some (.builtin id)) (hn : x ≠ "__name__") (hdb : (x == ("__debug__" : Str)) = false)
    (he : starEach [a, b] X.env = (false, eval a X.env) :: starEach [b] X.env) (he2 : starEach [b] X.env = [(false, eval b X.env)]) (ha : EF X G W q a fa) (hb : EV X G W q b fb) : EO X G W q (.Call (.Name x p) [a, b] [] pos) (e2 p2 fa fb) :=
  PE.wk (pe_callB hc hg hm hv (pa_cons ha (pa_cons hb pa_nil he2) he) hn hdb he (by rw [he2]; rfl)) fun σ H Q h => h.e2 hp
end
/-! ### a few built-ins -/
def pInt : D → Option D
  | .int i => some (.int i)
  | .bl b => some (.int (if b then 1 else 0))
  | _ => none
theorem pr_int {G : Gx} : Pr1 G (fun x H Q => (fun xs H Q => (∃ i, xs = [.int i] ∧ Q (.int i) H) ∨ ∃ k, xs = [.bl k] ∧ Q (.int (if k then 1 else 0)) H : List V → Hp → VK → Prop) [x] H Q) pInt := by
  intro Fz H x d v f Q hx hp hq
  unfold pInt at hp
  split at hp
  · cases hp
    obtain ⟨rfl, _⟩ := hx
    exact .inl ⟨_, rfl, gives_here hq rfl⟩
  · cases hp
    obtain ⟨rfl, _⟩ := hx
    exact .inr ⟨_, rfl, gives_here hq rfl⟩
  · cases hp
def pLen : D → Option D
  | .lst _ xs => some (.int xs.length)
  | .tup xs => some (.int xs.length)
  | .scr xs => some (.int xs.length)
  | .str s => if s.length ≤ sizeLine then some (.int s.length) else none
  | _ => none
theorem pr_len {G : Gx} : Pr1 G (fun x H Q => (fun xs H Q => ∃ x n, xs = [x] ∧ LenV G.K x H n ∧ Q (.int n) H : List V → Hp → VK → Prop) [x] H Q) pLen := by
  intro Fz H x d v f Q hx hp hq
  unfold pLen at hp
  split at hp
  · cases hp
    rcases hx with ⟨_, a, vs, g, rfl, h, r, _⟩ | ⟨⟨_, a, vs, rfl, h, r⟩, _⟩
    · exact ⟨_, _, rfl, .inl ⟨vs, SqL.of h, r.length.symm⟩, gives_here hq rfl⟩
    · exact ⟨_, _, rfl, .inl ⟨vs, h.sql, r.length.symm⟩, gives_here hq rfl⟩
  · cases hp
    obtain ⟨⟨a, vs, rfl, h, r⟩, _⟩ := hx
    exact ⟨_, _, rfl, .inr ⟨vs, h, r.length.symm⟩, gives_here hq rfl⟩
  · cases hp
    obtain ⟨⟨a, rfl, h⟩, _⟩ := hx
    exact ⟨_, _, rfl, .inl ⟨_, h.sql, (List.length_map _).symm⟩, gives_here hq rfl⟩
  · split at hp
    · rename_i hl
      cases hp
      obtain ⟨rfl, _⟩ := hx
      exact ⟨_, _, rfl, ⟨by rw [mkS_length]; exact hl, (mkS_length _).symm⟩, gives_here hq rfl⟩
    · cases hp
  · cases hp
def pMin : D → D → Option D
  | .int i, .int j => some (.int (min i j))
  | _, _ => none
def pMax : D → D → Option D
  | .int i, .int j => some (.int (max i j))
  | _, _ => none
theorem min_if (i j : Int) : (if j < i then j else i) = min i j := by
  split <;> omega
theorem max_if (i j : Int) : (if j > i then j else i) = max i j := by
  split <;> omega
theorem pr_min {G : Gx} : Pr2 G (fun x y H Q => (fun xs H Q => ∃ i j, xs = [.int i, .int j] ∧ Q (.int (if j < i then j else i)) H : List V → Hp → VK → Prop) [x, y] H Q) pMin := by
  intro Fz H x y d v w f g Q hx hy hp hq
  unfold pMin at hp
  split at hp
  · cases hp
    obtain ⟨rfl, _⟩ := hx
    obtain ⟨rfl, _⟩ := hy
    exact ⟨_, _, rfl, by rw [min_if]; exact gives_here hq rfl⟩
  · cases hp
theorem pr_max {G : Gx} : Pr2 G (fun x y H Q => (fun xs H Q => ∃ i j, xs = [.int i, .int j] ∧ Q (.int (if j > i then j else i)) H : List V → Hp → VK → Prop) [x, y] H Q) pMax := by
  intro Fz H x y d v w f g Q hx hy hp hq
  unfold pMax at hp
  split at hp
  · cases hp
    obtain ⟨rfl, _⟩ := hx
    obtain ⟨rfl, _⟩ := hy
    exact ⟨_, _, rfl, by rw [max_if]; exact gives_here hq rfl⟩
  · cases hp
/-! ### isinstance of built-in classes -/
/-- 0 int, 1 bool, 2 str, 3 list, 4 tuple, 5 dict -/
def tyN : Nat → String
  | 0 => "int"
  | 1 => "bool"
  | 2 => "str"
  | 3 => "list"
  | 4 => "tuple"
  | _ => "dict"
def tyD : D → Option Nat
  | .non => some 6
  | .bl _ => some 1
  | .int _ => some 0
  | .str _ => some 2
  | .tup _ => some 4
  | .lst _ _ => some 3
  | .scr _ => some 3
  | .dct _ _ => none
  | .ins _ _ _ => none
def isTy (t : Nat) (d : D) : Option Bool := (tyD d).map fun k => k == t || (t == 0 && k == 1)
def pIsi (t : Nat) : D → Option D := fun d => (isTy t d).map D.bl
def tyS : Nat → String
  | 6 => "NoneType"
  | k => tyN k
theorem kit_all {K : PySem.W.Frag} {k t : Nat} (hk : k < 7) (ht : t < 6) : PySem.W.kitOne K (.type (tyS k)) (.type (tyN t)) = some (k == t || (t == 0 && k == 1)) := by
  match k, t, hk, ht with
  | 0, 0, _, _ => exact kit_ty (by decide +kernel)
  | 0, 1, _, _ => exact kit_ty (by decide +kernel)
  | 0, 2, _, _ => exact kit_ty (by decide +kernel)
  | 0, 3, _, _ => exact kit_ty (by decide +kernel)
  | 0, 4, _, _ => exact kit_ty (by decide +kernel)
  | 0, 5, _, _ => exact kit_ty (by decide +kernel)
  | 1, 0, _, _ => exact kit_ty (by decide +kernel)
  | 1, 1, _, _ => exact kit_ty (by decide +kernel)
  | 1, 2, _, _ => exact kit_ty (by decide +kernel)
  | 1, 3, _, _ => exact kit_ty (by decide +kernel)
  | 1, 4, _, _ => exact kit_ty (by decide +kernel)
  | 1, 5, _, _ => exact kit_ty (by decide +kernel)
  | 2, 0, _, _ => exact kit_ty (by decide +kernel)
  | 2, 1, _, _ => exact kit_ty (by decide +kernel)
  | 2, 2, _, _ => exact kit_ty (by decide +kernel)
  | 2, 3, _, _ => exact kit_ty (by decide +kernel)
  | 2, 4, _, _ => exact kit_ty (by decide +kernel)
  | 2, 5, _, _ => exact kit_ty (by decide +kernel)
  | 3, 0, _, _ => exact kit_ty (by decide +kernel)
  | 3, 1, _, _ => exact kit_ty (by decide +kernel)
  | 3, 2, _, _ => exact kit_ty (by decide +kernel)
  | 3, 3, _, _ => exact kit_ty (by decide +kernel)
  | 3, 4, _, _ => exact kit_ty (by decide +kernel)
  | 3, 5, _, _ => exact kit_ty (by decide +kernel)
  | 4, 0, _, _ => exact kit_ty (by decide +kernel)
  | 4, 1, _, _ => exact kit_ty (by decide +kernel)
  | 4, 2, _, _ => exact kit_ty (by decide +kernel)
  | 4, 3, _, _ => exact kit_ty (by decide +kernel)
  | 4, 4, _, _ => exact kit_ty (by decide +kernel)
  | 4, 5, _, _ => exact kit_ty (by decide +kernel)
  | 5, 0, _, _ => exact kit_ty (by decide +kernel)
  | 5, 1, _, _ => exact kit_ty (by decide +kernel)
  | 5, 2, _, _ => exact kit_ty (by decide +kernel)
  | 5, 3, _, _ => exact kit_ty (by decide +kernel)
  | 5, 4, _, _ => exact kit_ty (by decide +kernel)
  | 5, 5, _, _ => exact kit_ty (by decide +kernel)
  | 6, 0, _, _ => exact kit_ty (by decide +kernel)
  | 6, 1, _, _ => exact kit_ty (by decide +kernel)
  | 6, 2, _, _ => exact kit_ty (by decide +kernel)
  | 6, 3, _, _ => exact kit_ty (by decide +kernel)
  | 6, 4, _, _ => exact kit_ty (by decide +kernel)
  | 6, 5, _, _ => exact kit_ty (by decide +kernel)
  | k + 7, _, h, _ => omega
  | _, t + 6, _, h => omega
theorem RepO.ty {G : Gx} {Fz : AS} {H : Hp} : ∀ {d : D} {v : V} {f : AS} {k : Nat}, RepO G Fz H d v f → tyD d = some k → k < 7 ∧ TyX G.K H v (.type (tyS k))
  | .non, _, _, _, h, e => by cases e; rw [h.1]; exact ⟨by decide, .base .non⟩
  | .bl _, _, _, _, h, e => by cases e; rw [h.1]; exact ⟨by decide, .base (.bl _)⟩
  | .int _, _, _, _, h, e => by cases e; rw [h.1]; exact ⟨by decide, .base (.int _)⟩
  | .str _, _, _, _, h, e => by cases e; rw [h.1]; exact ⟨by decide, .base (.str _)⟩
  | .tup _, _, _, _, ⟨⟨a, vs, q, h, r⟩, _⟩, e => by
    cases e
    subst q
    refine ⟨by decide, ?_⟩
    rcases h with (h | ⟨o, h⟩) | ⟨o, its, n, h, c, _⟩
    · exact .base (.tup h)
    · exact .fTuple h
    · exact .kTuple h c
  | .lst _ _, _, _, _, .inl ⟨_, a, vs, g, q, h, _⟩, e => by cases e; subst q; exact ⟨by decide, .base (.lst h)⟩
  | .lst _ _, _, _, _, .inr ⟨⟨_, a, vs, q, h, _⟩, _⟩, e => by cases e; subst q; exact ⟨by decide, .base (.lst h.2)⟩
  | .scr _, _, _, _, ⟨⟨a, q, h⟩, _⟩, e => by
    cases e
    subst q
    refine ⟨by decide, ?_⟩
    rcases h with ⟨o, h⟩ | ⟨o, its, n, h, c, _⟩
    · exact .base (.frz h)
    · exact .kList h c
  | .dct _ _, _, _, _, _, e => nomatch e
  | .ins _ _ _, _, _, _, _, e => nomatch e
theorem pr_isi {G : Gx} {t : Nat} (ht : t < 6) : Pr1 G (fun x H Q => rIsi G.K [x, .ty (tyN t)] H Q) (pIsi t) := by
  intro Fz H x d v f Q hx hp hq
  unfold pIsi isTy at hp
  cases e : tyD x with
  | none => rw [e] at hp; cases hp
  | some k =>
    rw [e] at hp
    cases hp
    obtain ⟨hk, hty⟩ := hx.ty e
    exact ⟨v, .ty (tyN t), _, _, _, rfl, .ty _, hty, kit_all hk ht, gives_here hq rfl⟩
section
variable {X : Cx} {G : Gx} {W : WX} {q : Bool} {a : Expr} {fa : M D} {pos p p2 : Pos}
theorem eo_isi {t : Nat} {z : Str} (ht : t < 6) (hK : G.K = X.K) (hg : Gl X "isinstance") (hm : X.mg "isinstance" = none) (hz : Gl X z) (hmz : X.mg z = none) (hv : bootBuiltins z = some (.type (tyN t))) (hn : z ≠ "__name__") (hdb : (z == ("__debug__" : Str)) = false)
    (he : starEach [a, .Name z p2] X.env = (false, eval a X.env) :: starEach [.Name z p2] X.env) (ha : EV X G W q a fa) : EO X G W q (.Call (.Name "isinstance" p) [a, .Name z p2] [] pos) (e1 (pIsi t) fa) := by
  exact PE.wk (pe_callB call_isi hg hm (by decide +kernel) (pa_cons ha (pa_cons (pe_bltn (v := .ty (tyN t)) hz hmz hv rfl hn hdb) pa_nil rfl) he) (by decide) (by decide) he rfl) fun σ H Q h => h.e1 (r := fun x H Q => rIsi X.K [x, .ty (tyN t)] H Q) (by rw [← hK]; exact pr_isi ht)
end
end Y

namespace Y
open PySem PySem.Spec PyProof.Rows L2

inductive CO where
  | ret (d : D) (fin : Env)
  | exc (x : Ex) (fin : Env)
  | bad
abbrev Fn := List D → CO
def CPost (G : Gx) (fr : Fr) (vs : List V) (Q : VK) (E : XK) : CO → Prop
  | .ret d fin => ∀ v H Fz own r, Rel G fr (vs.map some) H fin Fz own → RepO G Fz H d v r → Fresh own Fz fr r → Q v H
  | .exc x fin => ∀ cls dd H Fz own, Rel G fr (vs.map some) H fin Fz own → ExR G H x cls dd → E cls dd H
  | .bad => False
/-- a def's promise, by its function on data -/
def spD (G : Gx) (n : Nat) (F : Fn) : Sp := fun vs H Q E => ∃ fr Fz own ds, vs.length = n ∧ ds.length = n ∧ (∀ a, fr.Q a = none) ∧ (∀ i, fr.L i = none) ∧ Rel G fr (vs.map some) H (ds.map some) Fz own ∧ CPost G fr vs Q E (F ds)

/-! ### arguments: values, or places that are lent -/
inductive Arg where
  | v (f : M D)
  | pl (i : Nat)
def mA : List Arg → M (List (Option D))
  | [] => mret []
  | .v f :: r => bnd f fun d => bnd (mA r) fun ds => mret (some d :: ds)
  | .pl i :: r => bnd (vVar i) fun _ => bnd (mA r) fun ds => mret (none :: ds)
def RA (G : Gx) (σ : Slots) : List Arg → AS → Hp → List (Option D) → List V → Prop
  | [], _, _, ds, vs => ds = [] ∧ vs = []
  | .v _ :: r, Fz, H, ds, vs => ∃ d ds' v vs', ds = some d :: ds' ∧ vs = v :: vs' ∧ RepF G Fz H d v ∧ RA G σ r Fz H ds' vs'
  | .pl i :: r, Fz, H, ds, vs => ∃ ds' v vs', ds = none :: ds' ∧ vs = v :: vs' ∧ σ[i]? = some (some v) ∧ RA G σ r Fz H ds' vs'
def RRA (G : Gx) (σ : Slots) (as : List Arg) : RRt (List (Option D)) (List V) := fun _ Fz H _ ds vs => RA G σ as Fz H ds vs
def tA (G : Gx) (W : WX) (q : Bool) (as : List Arg) : TA := fun σ H Q => tX G W (RRA G σ as) q (mA as) σ H Q
abbrev EA (X : Cx) (G : Gx) (W : WX) (q : Bool) (es : List Expr) (as : List Arg) : Prop := PA X es (tA G W q as)
section
variable {X : Cx} {G : Gx} {W : WX} {q : Bool} {a b e : Expr} {es : List Expr} {fa : M D} {as : List Arg} {pos p : Pos}
theorem ea_nil : EA X G W q [] [] := PA.wk pa_nil fun σ H Q ⟨fr, env, Fz, own, qk, r, po⟩ => po [] H Fz own r ⟨rfl, rfl⟩
theorem ea_v (ha : EF X G W q e fa) (hr : EA X G W q es as) (hs : starEach (e :: es) X.env = (false, eval e X.env) :: starEach es X.env) : EA X G W q (e :: es) (.v fa :: as) := PA.wk (pa_cons ha hr hs) fun σ H Q h => by
  have h1 : tX G W (RF G) q fa σ H _ := tX.first h
  refine h1.mono fun v H1 ⟨fr, d, env, Fz, own, qk, rl, hv, po⟩ => ?_
  have h2 := tX.then_ (RR := RRA G σ as) qk rl po (fun _ _ z => z)
  refine tX.mono h2 fun vs H2 ⟨ds, env2, Fz2, own2, r2, nx, hvs, po2⟩ => ?_
  exact po2 (v :: vs) H2 Fz2 own2 r2 ⟨d, ds, v, vs, rfl, rfl, nx.repF rl hv, hvs⟩
theorem vVar_bnd {α β : Type} {RR : RRt α β} {σ : Slots} {fr : Fr} {Q : β → Hp → Prop} {i : Nat} {k : D → M α} {env : Env} (po : PostX G W σ fr RR Q (bnd (vVar i) k env)) : ∃ d, env[i]? = some (some d) ∧ PostX G W σ fr RR Q (k d env) := by
  unfold bnd vVar at po
  cases e : env[i]? with
  | none => rw [e] at po; exact po.elim
  | some o =>
    cases o with
    | none => rw [e] at po; exact po.elim
    | some d => rw [e] at po; exact ⟨d, rfl, po⟩
theorem ea_pl {i : Nat} {x : Str} (hN : X.N[i]? = some x) (hv : Vis X.env.scope x) (hd : (x == ("__debug__" : Str)) = false) (hcd : (x == ("__classdict__" : Str)) = false) (hr : EA X G W q es as)
    (hs : starEach (.Name x p :: es) X.env = (false, eval (.Name x p) X.env) :: starEach es X.env) : EA X G W q (.Name x p :: es) (.pl i :: as) := PA.wk (pa_cons (pe_var hN hv hd hcd) hr hs) fun σ H Q h => by
  obtain ⟨fr, env, Fz, own, qk, r, po⟩ := h
  obtain ⟨d, hed, po⟩ := vVar_bnd po
  obtain ⟨v, hv, _⟩ := r.rep i d hed
  refine ⟨v, hv, ?_⟩
  have h2 := tX.then_ (RR := RRA G σ as) (f := mA as) qk r po (fun _ _ z => z)
  refine tX.mono h2 fun vs H2 ⟨ds, env2, Fz2, own2, r2, nx, hvs, po2⟩ => ?_
  exact po2 (v :: vs) H2 Fz2 own2 r2 ⟨ds, v, vs, rfl, rfl, hv, hvs⟩
end

def takeA : List Arg → List (Option D) → Env → Option (List D × Env)
  | [], [], e => some ([], e)
  | .v _ :: as, some d :: ds, e => (takeA as ds e).map fun p => (d :: p.1, p.2)
  | .pl i :: as, none :: ds, e => match e[i]? with
    | some (some d) => (takeA as ds (e.set i none)).map fun p => (d :: p.1, p.2)
    | _ => none
  | _, _, _ => none
def putA : List Arg → Env → Env → Option Env
  | [], _, e => some e
  | .v _ :: as, _ :: fs, e => putA as fs e
  | .pl i :: as, some d :: fs, e => putA as fs (e.set i (some d))
  | _, _, _ => none
theorem take_ok {G : Gx} {fr : Fr} {σ : Slots} {H : Hp} {Fz : AS} {own : Nat → AS} : ∀ {as : List Arg} {ods : List (Option D)} {vs : List V} {e e1 : Env} {ds : List D},
    takeA as ods e = some (ds, e1) → RA G σ as Fz H ods vs → (∀ (i : Nat) (d : D), e[i]? = some (some d) → ∃ v, σ[i]? = some (some v) ∧ RepO G Fz H d v (own i)) →
    ds.length = as.length ∧ vs.length = as.length ∧ (∀ (k : Nat) (d : D), ds[k]? = some d → ∃ v, vs[k]? = some v ∧ ((∃ i : Nat, as[k]? = some (Arg.pl i) ∧ e[i]? = some (some d) ∧ σ[i]? = some (some v)) ∨ ((∀ (i : Nat), as[k]? ≠ some (Arg.pl i)) ∧ RepF G Fz H d v))) ∧
    (∀ (k k' i : Nat), as[k]? = some (Arg.pl i) → as[k']? = some (Arg.pl i) → k = k') ∧ (∀ (k i : Nat), as[k]? = some (Arg.pl i) → e1[i]? = some none ∧ ∃ d, e[i]? = some (some d)) ∧ (∀ (i : Nat), (∀ (k : Nat), as[k]? ≠ some (Arg.pl i)) → e1[i]? = e[i]?) := by
  intro as
  induction as with
  | nil =>
    intro ods vs e e1 ds h r hr
    cases ods with
    | nil =>
      cases h
      obtain ⟨_, rfl⟩ := r
      exact ⟨rfl, rfl, fun k d h => by simp at h, fun k k' i h => by simp at h, fun k i h => by simp at h, fun i _ => rfl⟩
    | cons o r => cases h
  | cons a as ih =>
    intro ods vs e e1 ds h r hr
    cases a with
    | v f =>
      obtain ⟨d, ds', v, vs', rfl, rfl, hd, r⟩ := r
      have h' : (takeA as ds' e).map (fun p => (d :: p.1, p.2)) = some (ds, e1) := h
      cases ht : takeA as ds' e with
      | none => rw [ht] at h'; cases h'
      | some p =>
        rw [ht] at h'
        cases h'
        obtain ⟨i1, i2, i3, i4, i5, i6⟩ := ih (ds := p.1) (e1 := p.2) ht r hr
        refine ⟨by simp [i1], by simp [i2], ?_, ?_, ?_, ?_⟩
        · intro k d' hk
          cases k with
          | zero => simp at hk; subst hk; exact ⟨v, rfl, .inr ⟨fun i z => by simp at z, hd⟩⟩
          | succ k => simp at hk; simpa using i3 k d' hk
        · intro k k' i h1 h2
          cases k with
          | zero => simp at h1
          | succ k => cases k' with
            | zero => simp at h2
            | succ k' => simp at h1 h2; rw [i4 k k' i h1 h2]
        · intro k i h1
          cases k with
          | zero => simp at h1
          | succ k => simp at h1; exact i5 k i h1
        · intro i h1
          exact i6 i fun k => by simpa using h1 (k + 1)
    | pl j =>
      obtain ⟨ds', v, vs', rfl, rfl, hv, r⟩ := r
      have h' : (match e[j]? with
        | some (some d) => (takeA as ds' (e.set j none)).map fun p => (d :: p.1, p.2)
        | _ => none) = some (ds, e1) := h
      cases ej : e[j]? with
      | none => rw [ej] at h'; cases h'
      | some o =>
        cases o with
        | none => rw [ej] at h'; cases h'
        | some d =>
          rw [ej] at h'
          have h' : (takeA as ds' (e.set j none)).map (fun p => (d :: p.1, p.2)) = some (ds, e1) := h'
          have hl : j < e.length := (List.getElem?_eq_some_iff.mp ej).1
          cases ht : takeA as ds' (e.set j none) with
          | none => rw [ht] at h'; cases h'
          | some p =>
            rw [ht] at h'
            cases h'
            have hr' : ∀ (i : Nat) (d : D), (e.set j none)[i]? = some (some d) → ∃ v, σ[i]? = some (some v) ∧ RepO G Fz H d v (own i) := fun i d' hi => by
              by_cases hij : i = j
              · subst hij
                rw [List.getElem?_set_self hl] at hi
                cases hi
              · rw [List.getElem?_set_ne (Ne.symm hij)] at hi
                exact hr i d' hi
            obtain ⟨i1, i2, i3, i4, i5, i6⟩ := ih (ds := p.1) (e1 := p.2) ht r hr'
            have nj : ∀ (k : Nat), as[k]? ≠ some (Arg.pl j) := fun k z => by
              obtain ⟨_, d', hd'⟩ := i5 k j z
              rw [List.getElem?_set_self hl] at hd'
              cases hd'
            refine ⟨by simp [i1], by simp [i2], ?_, ?_, ?_, ?_⟩
            · intro k d' hk
              cases k with
              | zero => simp at hk; subst hk; exact ⟨v, rfl, .inl ⟨j, rfl, ej, hv⟩⟩
              | succ k =>
                simp at hk
                obtain ⟨u, hu, hc⟩ := i3 k d' hk
                refine ⟨u, by simpa using hu, ?_⟩
                rcases hc with ⟨i, h1, h2, h3⟩ | ⟨h1, h2⟩
                · refine .inl ⟨i, by simpa using h1, ?_, h3⟩
                  have hij : i ≠ j := fun z => by subst z; exact nj k h1
                  rw [List.getElem?_set_ne (Ne.symm hij)] at h2
                  exact h2
                · exact .inr ⟨fun i => by simpa using h1 i, h2⟩
            · intro k k' i h1 h2
              cases k with
              | zero =>
                simp at h1
                subst h1
                cases k' with
                | zero => rfl
                | succ k' => simp at h2; exact (nj k' h2).elim
              | succ k => cases k' with
                | zero => simp at h2; subst h2; simp at h1; exact (nj k h1).elim
                | succ k' => simp at h1 h2; rw [i4 k k' i h1 h2]
            · intro k i h1
              cases k with
              | zero =>
                simp at h1
                subst h1
                exact ⟨by rw [i6 _ nj, List.getElem?_set_self hl], d, ej⟩
              | succ k =>
                simp at h1
                obtain ⟨a1, d', a2⟩ := i5 k i h1
                have hij : i ≠ j := fun z => by subst z; exact nj k h1
                rw [List.getElem?_set_ne (Ne.symm hij)] at a2
                exact ⟨a1, d', a2⟩
            · intro i h1
              have hij : i ≠ j := fun z => by subst z; exact h1 0 rfl
              rw [i6 i fun k => by simpa using h1 (k + 1), List.getElem?_set_ne (Ne.symm hij)]
theorem put_len : ∀ {as : List Arg} {fin e e2 : Env}, putA as fin e = some e2 → e2.length = e.length
  | [], _, _, _, h => by cases h; rfl
  | .v _ :: as, [], _, _, h => by cases h
  | .v _ :: as, _ :: fs, e, e2, h => put_len (as := as) h
  | .pl i :: as, [], _, _, h => by cases h
  | .pl i :: as, none :: fs, _, _, h => by cases h
  | .pl i :: as, some d :: fs, e, e2, h => by rw [put_len (as := as) (e := e.set i (some d)) h]; simp
theorem put_ok : ∀ {as : List Arg} {fin e e2 : Env}, putA as fin e = some e2 → (∀ (k k' i : Nat), as[k]? = some (Arg.pl i) → as[k']? = some (Arg.pl i) → k = k') → (∀ (k i : Nat), as[k]? = some (Arg.pl i) → i < e.length) →
    (∀ (k i : Nat), as[k]? = some (Arg.pl i) → ∃ d, fin[k]? = some (some d) ∧ e2[i]? = some (some d)) ∧ (∀ (i : Nat), (∀ (k : Nat), as[k]? ≠ some (Arg.pl i)) → e2[i]? = e[i]?)
  | [], _, _, _, h, _, _ => by cases h; exact ⟨fun k i h => by simp at h, fun i _ => rfl⟩
  | .v _ :: as, [], _, _, h, _, _ => by cases h
  | .v f :: as, o :: fs, e, e2, h, hd, hl => by
    obtain ⟨a, b⟩ := put_ok (as := as) (fin := fs) (e := e) (e2 := e2) h (fun k k' i h1 h2 => by have := hd (k + 1) (k' + 1) i (by simpa using h1) (by simpa using h2); omega) fun k i h1 => hl (k + 1) i (by simpa using h1)
    refine ⟨fun k i h1 => ?_, fun i h1 => b i fun k => by simpa using h1 (k + 1)⟩
    cases k with
    | zero => simp at h1
    | succ k => simp at h1; simpa using a k i h1
  | .pl j :: as, [], _, _, h, _, _ => by cases h
  | .pl j :: as, none :: fs, _, _, h, _, _ => by cases h
  | .pl j :: as, some d :: fs, e, e2, h, hd, hl => by
    obtain ⟨a, b⟩ := put_ok (as := as) (fin := fs) (e := e.set j (some d)) (e2 := e2) h (fun k k' i h1 h2 => by have := hd (k + 1) (k' + 1) i (by simpa using h1) (by simpa using h2); omega) fun k i h1 => by rw [List.length_set]; exact hl (k + 1) i (by simpa using h1)
    have lj : j < e.length := hl 0 j rfl
    have nj : ∀ (k : Nat), as[k]? ≠ some (Arg.pl j) := fun k z => by have := hd 0 (k + 1) j rfl (by simpa using z); omega
    refine ⟨fun k i h1 => ?_, fun i h1 => ?_⟩
    · cases k with
      | zero =>
        simp at h1
        subst h1
        exact ⟨d, rfl, by rw [b j nj, List.getElem?_set_self lj]⟩
      | succ k => simp at h1; simpa using a k i h1
    · have hij : i ≠ j := fun z => by subst z; exact h1 0 rfl
      rw [b i fun k => by simpa using h1 (k + 1), List.getElem?_set_ne (Ne.symm hij)]
def callM (q : Bool) (F : Fn) (as : List Arg) : M D := bnd (mA as) fun ods => fun e => match takeA as ods e with
  | none => .bad
  | some p => if q = true ∧ p.1.any D.own = true then .bad else match F p.1 with
    | .ret d fin => match putA as fin p.2 with
      | some e2 => .ok d e2
      | none => .bad
    | .exc x fin => match putA as fin p.2 with
      | some e2 => .exc x e2
      | none => .bad
    | .bad => .bad
section
variable {G : Gx} {W : WX} {q : Bool} {σ : Slots} {H : Hp}
/-- what the caller knows behind the call -/
theorem Rel.called {fr : Fr} {e e1 e2 : Env} {Fz : AS} {own : Nat → AS} {as : List Arg} {ods : List (Option D)} {vs : List V} {ds : List D} {fin : Env} {H' : Hp} {Fz' : AS} {own' : Nat → AS}
    (r : Rel G fr σ H e Fz own) (hra : RA G σ as Fz H ods vs) (ht : takeA as ods e = some (ds, e1)) (hp : putA as fin e1 = some e2)
    (hq : (∀ a, fr.Q a = none) ∨ ds.any D.own = false)
    (r' : Rel G ⟨mxF (fun (k : Nat) (a : Addr) => ∃ i : Nat, as[k]? = some (Arg.pl i) ∧ own i a) H, Fz, fun _ => none, fun _ => none, vs.length⟩ (vs.map some) H' fin Fz' own') :
    Rel G fr σ H' e2 Fz' (fun i a => (∃ k : Nat, as[k]? = some (Arg.pl i) ∧ own' k a) ∨ ((∀ (k : Nat), as[k]? ≠ some (Arg.pl i)) ∧ own i a)) ∧
    (∀ a, fr.F a ≠ none → mxF (fun (k : Nat) (a : Addr) => ∃ i : Nat, as[k]? = some (Arg.pl i) ∧ own i a) H a ≠ none) ∧ (∀ a i, own i a → (∀ (k : Nat), as[k]? ≠ some (Arg.pl i)) → mxF (fun (k : Nat) (a : Addr) => ∃ i : Nat, as[k]? = some (Arg.pl i) ∧ own i a) H a ≠ none) ∧
    (∀ a, fr.Q a ≠ none → mxF (fun (k : Nat) (a : Addr) => ∃ i : Nat, as[k]? = some (Arg.pl i) ∧ own i a) H a ≠ none) := by
  obtain ⟨t1, t2, t3, t4, t5, t6⟩ := take_ok (own := own) (fr := fr) ht hra r.rep
  have hlen : ∀ (k i : Nat), as[k]? = some (Arg.pl i) → i < e1.length := fun k i h => (List.getElem?_eq_some_iff.mp (t5 k i h).1).1
  obtain ⟨p1, p2⟩ := put_ok hp t4 hlen
  -- what the callee may not touch
  have kF : ∀ a o, H a = some o → (∀ i k, as[k]? = some (Arg.pl i) → ¬ own i a) → mxF (fun (k : Nat) (a : Addr) => ∃ i : Nat, as[k]? = some (Arg.pl i) ∧ own i a) H a = some o := fun a o h n => mxF_of h fun k ⟨i, h1, h2⟩ => n i k h1 h2
  have oth : ∀ a i, own i a → (∀ (k : Nat), as[k]? ≠ some (Arg.pl i)) → ∃ o, H a = some o ∧ mxF (fun (k : Nat) (a : Addr) => ∃ i : Nat, as[k]? = some (Arg.pl i) ∧ own i a) H a = some o := fun a i h n => by
    obtain ⟨o, ho⟩ := r.there h
    exact ⟨o, ho, kF a o ho fun j k h1 h2 => by have := r.dis i j a h h2; subst this; exact n k h1⟩
  have fF : ∀ a o, fr.F a = some o → mxF (fun (k : Nat) (a : Addr) => ∃ i : Nat, as[k]? = some (Arg.pl i) ∧ own i a) H a = some o := fun a o h => kF a o (r.kF a o h) fun i k _ h2 => by rw [r.oF i a h2] at h; cases h
  have qF : ∀ a o, fr.Q a = some o → mxF (fun (k : Nat) (a : Addr) => ∃ i : Nat, as[k]? = some (Arg.pl i) ∧ own i a) H a = some o := fun a o h => by
    rcases hq with hq | hq
    · rw [hq a] at h; cases h
    · refine kF a o (r.kQ a o h) fun i k h1 h2 => ?_
      have hk : k < as.length := (List.getElem?_eq_some_iff.mp h1).1
      obtain ⟨d, hd⟩ : ∃ d, ds[k]? = some d := ⟨ds[k]'(by omega), by simp⟩
      obtain ⟨v, hv, hc⟩ := t3 k d hd
      rcases hc with ⟨j, h3, h4, h5⟩ | ⟨h3, _⟩
      · rw [h1] at h3
        cases h3
        obtain ⟨u, hu, ho⟩ := r.rep i d h4
        have nd : d.own = false := by
          have := List.any_eq_false.mp hq d (List.mem_of_getElem? hd)
          simpa using this
        exact (ho.f nd).2 a h2
      · exact h3 i h1
  refine ⟨⟨?_, ?_, ?_, ?_, r'.fzd, ?_, ?_, ?_, ?_, ?_, r.lk, r.len⟩, ?_, ?_, ?_⟩
  · intro i d h
    by_cases hi : ∃ k : Nat, as[k]? = some (Arg.pl i)
    · obtain ⟨k, hk⟩ := hi
      obtain ⟨d', h1, h2⟩ := p1 k i hk
      rw [h] at h2
      cases h2
      obtain ⟨v, hv, ho⟩ := r'.rep k d h1
      -- the same value stands in the slot
      have hkl : k < as.length := (List.getElem?_eq_some_iff.mp hk).1
      obtain ⟨d0, hd0⟩ : ∃ d, ds[k]? = some d := ⟨ds[k]'(by omega), by simp⟩
      obtain ⟨v', hv', hc⟩ := t3 k d0 hd0
      rcases hc with ⟨j, h3, h4, h5⟩ | ⟨h3, _⟩
      · rw [hk] at h3
        cases h3
        have hvv : v = v' := by
          rw [List.getElem?_map, hv'] at hv
          simpa using hv.symm
        subst hvv
        refine ⟨v, h5, ?_⟩
        have e1 : (fun a => (∃ k : Nat, as[k]? = some (Arg.pl i) ∧ own' k a) ∨ ((∀ (k : Nat), as[k]? ≠ some (Arg.pl i)) ∧ own i a)) = own' k := by
          funext a
          apply propext
          constructor
          · rintro (⟨k', h1, h2⟩ | ⟨h1, _⟩)
            · rw [t4 k k' i hk h1]; exact h2
            · exact (h1 k hk).elim
          · intro h; exact .inl ⟨k, hk, h⟩
        rw [e1]
        exact ho
      · exact (h3 i hk).elim
    · have hn : ∀ (k : Nat), as[k]? ≠ some (Arg.pl i) := fun k z => hi ⟨k, z⟩
      rw [p2 i hn, t6 i hn] at h
      obtain ⟨v, hv, ho⟩ := r.rep i d h
      refine ⟨v, hv, ?_⟩
      have e1 : (fun a => (∃ k : Nat, as[k]? = some (Arg.pl i) ∧ own' k a) ∨ ((∀ (k : Nat), as[k]? ≠ some (Arg.pl i)) ∧ own i a)) = own i := by
        funext a
        apply propext
        constructor
        · rintro (⟨k', h1, h2⟩ | ⟨_, h1⟩)
          · exact (hn k' h1).elim
          · exact h1
        · intro h; exact .inr ⟨hn, h⟩
      rw [e1]
      refine ho.mono r'.zz fun a o ha c => r'.kF a o (kF a o ha fun j k h1 h2 => ?_)
      rcases c with (c | c) | c
      · exact r.nfz j a h2 c
      · have := r.dis i j a c h2
        subst this
        exact hn k h1
      · have := r.mut h2
        rw [ha] at this
        exact c this
  · rintro i a (⟨k, h1, h2⟩ | ⟨h1, h2⟩)
    · obtain ⟨d, _, h3⟩ := p1 k i h1
      exact ⟨d, h3⟩
    · obtain ⟨d, hd⟩ := r.non i a h2
      exact ⟨d, by rw [p2 i h1, t6 i h1]; exact hd⟩
  · rintro i j a (⟨k, h1, h2⟩ | ⟨h1, h2⟩) (⟨k', h3, h4⟩ | ⟨h3, h4⟩)
    · have := r'.dis k k' a h2 h4
      subst this
      rw [h1] at h3
      cases h3
      rfl
    · obtain ⟨o, _, ho⟩ := oth a j h4 h3
      have := r'.oF k a h2
      rw [show (Fr.F _) a = some o from ho] at this
      cases this
    · obtain ⟨o, _, ho⟩ := oth a i h2 h1
      have := r'.oF k' a h4
      rw [show (Fr.F _) a = some o from ho] at this
      cases this
    · exact r.dis i j a h2 h4
  · rintro i a (⟨k, h1, h2⟩ | ⟨h1, h2⟩) hz
    · exact r'.nfz k a h2 hz
    · obtain ⟨o, _, ho⟩ := oth a i h2 h1
      exact r.nfz i a h2 (r'.zF a o ho hz)
  · exact fun a o h => r'.kF a o (fF a o h)
  · exact fun a o h => r'.kF a o (qF a o h)
  · rintro i a (⟨k, h1, h2⟩ | ⟨h1, h2⟩)
    · cases hf : fr.F a with
      | none => rfl
      | some o =>
        have := r'.oF k a h2
        rw [show (Fr.F _) a = some o from fF a o hf] at this
        cases this
    · exact r.oF i a h2
  · exact fun a h => r'.zz a (r.zz a h)
  · exact fun a o h hz => r.zF a o h (r'.zF a o (fF a o h) hz)
  · intro a h
    cases hf : fr.F a with
    | none => exact (h hf).elim
    | some o => rw [fF a o hf]; simp
  · intro a i h n
    obtain ⟨o, _, ho⟩ := oth a i h n
    rw [ho]; simp
  · intro a h
    cases hf : fr.Q a with
    | none => exact (h hf).elim
    | some o => rw [qF a o hf]; simp
theorem tX.call {F : Fn} {as : List Arg} {n : Nat} (hn : as.length = n) {Q : VK} (h : tX G W (RO G) q (callM q F as) σ H Q) : tA G W q as σ H fun vs H1 => spD G n F vs H1 Q (WE W σ) := by
  have h1 : tX G W (RRA G σ as) q (mA as) σ H _ := h.first
  refine tX.mono h1 fun vs H1 ⟨fr, ods, e, Fz, own, qk, rl, hra, po⟩ => ?_
  have hra : RA G σ as Fz H1 ods vs := hra
  cases ht : takeA as ods e with
  | none => rw [ht] at po; exact po.elim
  | some p =>
    obtain ⟨ds, e1⟩ := p
    rw [ht] at po
    have po : PostX G W σ fr (RO G) Q (if q = true ∧ ds.any D.own = true then .bad else match F ds with
      | .ret d fin => match putA as fin e1 with
        | some e2 => .ok d e2
        | none => .bad
      | .exc x fin => match putA as fin e1 with
        | some e2 => .exc x e2
        | none => .bad
      | .bad => .bad) := po
    split at po
    · exact po.elim
    · rename_i hqo
      have hq : (∀ a, fr.Q a = none) ∨ ds.any D.own = false := by
        cases q with
        | false => exact .inl (qk rfl)
        | true =>
          refine .inr ?_
          cases hd : ds.any D.own with
          | false => rfl
          | true => exact (hqo ⟨rfl, hd⟩).elim
      obtain ⟨t1, t2, t3, t4, t5, t6⟩ := take_ok (own := own) (fr := fr) ht hra rl.rep
      refine ⟨⟨mxF (fun (k : Nat) (a : Addr) => ∃ i : Nat, as[k]? = some (Arg.pl i) ∧ own i a) H1, Fz, fun _ => none, fun _ => none, vs.length⟩, Fz, fun k a => ∃ i : Nat, as[k]? = some (Arg.pl i) ∧ own i a, ds, by omega, by omega, fun _ => rfl, fun _ => rfl, ?_, ?_⟩
      · refine ⟨?_, ?_, ?_, ?_, rl.fzd, fun a o h => (mxF_some (own := fun (k : Nat) (a : Addr) => ∃ i : Nat, as[k]? = some (Arg.pl i) ∧ own i a) h).1, fun a o h => (by cases h), fun k a h => mxF_own (own := fun (k : Nat) (a : Addr) => ∃ i : Nat, as[k]? = some (Arg.pl i) ∧ own i a) h, fun _ h => h, fun _ _ _ h => h, fun i v h => (by cases h), by simp⟩
        · intro k d hk
          rw [List.getElem?_map] at hk
          cases hd : ds[k]? with
          | none => rw [hd] at hk; cases hk
          | some d' =>
            rw [hd] at hk
            cases hk
            obtain ⟨v, hv, hc⟩ := t3 k d hd
            refine ⟨v, by rw [List.getElem?_map, hv]; rfl, ?_⟩
            rcases hc with ⟨i, h1, h2, h3⟩ | ⟨h1, h2⟩
            · obtain ⟨u, hu, ho⟩ := rl.rep i d h2
              have e1 : (fun a => ∃ i : Nat, as[k]? = some (Arg.pl i) ∧ own i a) = own i := by
                funext a
                apply propext
                constructor
                · rintro ⟨j, h4, h5⟩; rw [h1] at h4; cases h4; exact h5
                · intro h; exact ⟨i, h1, h⟩
              rw [e1]
              have : u = v := by rw [h3] at hu; simpa using hu.symm
              rw [← this]
              exact ho
            · have e1 : (fun a => ∃ i : Nat, as[k]? = some (Arg.pl i) ∧ own i a) = nul := by
                funext a
                apply propext
                constructor
                · rintro ⟨j, h4, h5⟩; exact (h1 j h4).elim
                · intro h; exact h.elim
              rw [e1]
              exact h2.o
        · rintro k a ⟨i, h1, h2⟩
          have hkl : k < as.length := (List.getElem?_eq_some_iff.mp h1).1
          refine ⟨ds[k]'(by omega), ?_⟩
          rw [List.getElem?_map, List.getElem?_eq_getElem (by omega)]
          rfl
        · rintro k k' a ⟨i, h1, h2⟩ ⟨j, h3, h4⟩
          have := rl.dis i j a h2 h4
          subst this
          exact t4 k k' i h1 h3
        · rintro k a ⟨i, h1, h2⟩
          exact rl.nfz i a h2
      · cases hF : F ds with
        | bad => rw [hF] at po; exact po.elim
        | ret d fin =>
          rw [hF] at po
          intro v H' Fz' own' r r' ho hf
          cases hp : putA as fin e1 with
          | none =>
            have po : PostX G W σ fr (RO G) Q (match putA as fin e1 with
              | some e2 => .ok d e2
              | none => .bad) := po
            rw [hp] at po
            exact po.elim
          | some e2 =>
            have po : PostX G W σ fr (RO G) Q (match putA as fin e1 with
              | some e2 => .ok d e2
              | none => .bad) := po
            rw [hp] at po
            obtain ⟨rr, c1, c2, c3⟩ := rl.called hra ht hp hq r'
            refine po v H' Fz' _ rr ⟨r, ho, fun a ra => ?_⟩
            obtain ⟨f1, f2, f3, f4⟩ := hf a ra
            refine ⟨?_, f2, ?_, ?_⟩
            · rintro i (⟨k, h1, h2⟩ | ⟨h1, h2⟩)
              · exact f1 k h2
              · exact c2 a i h2 h1 f3
            · cases hq1 : fr.F a with
              | none => rfl
              | some o => exact (c1 a (by rw [hq1]; simp) f3).elim
            · cases hq1 : fr.Q a with
              | none => rfl
              | some o => exact (c3 a (by rw [hq1]; simp) f3).elim
        | exc x fin =>
          rw [hF] at po
          intro cls dd H' Fz' own' r' ex
          have po : PostX G W σ fr (RO G) Q (match putA as fin e1 with
              | some e2 => .exc x e2
              | none => .bad) := po
          cases hp : putA as fin e1 with
          | none =>
            rw [hp] at po
            exact po.elim
          | some e2 =>
            rw [hp] at po
            obtain ⟨rr, c1, c2, c3⟩ := rl.called hra ht hp hq r'
            exact po cls dd H' Fz' _ rr ex
end
section
variable {X : Cx} {G : Gx} {W : WX} {q : Bool} {e : Expr} {es : List Expr} {as : List Arg} {pos p : Pos} {k n : Nat} {f : Addr} {fd : FuncData} {ps : List Str} {F : Fn} {x : Str}
/-- a call of an own def -/
theorem eo_call (Fk : FnOk X.prog X.w X.K X.mg X.base (CX X.prog X.w) k f fd ps (spD G n F)) (hn : as.length = n) (hr : Room k X.A) (hg : Gl X x) (hm : X.mg x = some (.ref f)) (hk : PySem.W.keepIn X.K (.ref f) = true) (hb : Binds X.K fd ps []) (tk : Takes X W)
    (ha : EA X G W q (e :: es) as) (hdb : (x == ("__debug__" : Str)) = false) (he : starEach (e :: es) X.env = (false, eval e X.env) :: starEach es X.env) (hpl : (backTo pos (starEach es X.env)).any (·.1) = false) :
    EO X G W q (.Call (.Name x p) (e :: es) [] pos) (callM q F as) := PE.wk (pe_callS Fk hr hg hm hk hb (passAt tk) ha hdb he hpl) fun σ H Q h => h.call hn
end

/-! ### calls whose arguments are all frozen -/
def app (F : Fn) (ds : List D) : M D := fun e => match F ds with
  | .ret d _ => .ok d e
  | .exc x _ => .exc x e
  | .bad => .bad
def callP (F : Fn) (fs : List (M D)) : M D := bnd (mL fs) (app F)
theorem mxF_nul {own : Nat → AS} {H : Hp} (h : ∀ i a, ¬ own i a) : mxF own H = H := by
  funext a
  cases e : H a with
  | none =>
    cases q : mxF own H a with
    | none => rfl
    | some o => rw [(mxF_some q).1] at e; cases e
  | some o => exact mxF_of e fun i => h i a
section
variable {G : Gx} {W : WX} {q : Bool} {σ : Slots} {H : Hp}
theorem tX.callP {F : Fn} {fs : List (M D)} {n : Nat} {Q : VK} (h : tX G W (RO G) q (Y.callP F fs) σ H Q) :
    tX G W (RL G) q (mL fs) σ H fun vs H1 => vs.length = n → spD G n F vs H1 Q (WE W σ) := by
  have h1 : tX G W (RL G) q (mL fs) σ H _ := h.first
  refine tX.mono h1 fun vs H1 ⟨fr, ds, env, Fz, own, qk, rl, hv, po⟩ => fun hl => ?_
  have hld : ds.length = n := by rw [← hl]; exact (RepFL.length hv).symm
  -- the callee's frame: all that is there
  refine ⟨⟨H1, Fz, fun _ => none, fun _ => none, vs.length⟩, Fz, fun _ => nul, ds, hl, hld, fun _ => rfl, fun _ => rfl, ⟨?_, fun i a z => z.elim, fun i j a z => z.elim, fun i a z => z.elim, rl.fzd, fun a o h => h, fun a o h => (by cases h), fun i a z => z.elim, fun _ h => h, fun _ _ _ h => h, fun i v h => (by cases h), by simp⟩, ?_⟩
  · intro i d hi
    rw [List.getElem?_map] at hi
    cases hd : ds[i]? with
    | none => rw [hd] at hi; cases hi
    | some d' =>
      rw [hd] at hi
      cases hi
      obtain ⟨v, hv', ro⟩ := RepFL.get hv hd
      exact ⟨v, by rw [List.getElem?_map, hv']; rfl, ro.o⟩
  · have fr' : ∀ {fin : Env} {H' : Hp} {Fz' : AS} {own' : Nat → AS}, Rel G ⟨H1, Fz, fun _ => none, fun _ => none, vs.length⟩ (vs.map some) H' fin Fz' own' → Ext H1 H' ∧ (∀ a, Fz a → Fz' a) ∧ (∀ a o, H1 a = some o → Fz' a → Fz a) := fun r' => ⟨r'.kF, r'.zz, r'.zF⟩
    have po : PostX G W σ fr (RO G) Q (app F ds env) := po
    unfold app at po
    have back : ∀ {fin : Env} {H' : Hp} {Fz' : AS} {own' : Nat → AS}, Rel G ⟨H1, Fz, fun _ => none, fun _ => none, vs.length⟩ (vs.map some) H' fin Fz' own' → Rel G fr σ H' env Fz' own := fun {fin H' Fz' own'} r' => by
      have ex : Ext H1 H' := r'.kF
      exact ⟨fun i d h => let ⟨v, hv, ho⟩ := rl.rep i d h; ⟨v, hv, ho.mono r'.zz (ex.kp _)⟩, rl.non, rl.dis, fun i a h z => by
          obtain ⟨u, hu⟩ := rl.there h
          exact rl.nfz i a h (r'.zF a u hu z), r'.fzd, fun a o h => ex a o (rl.kF a o h), fun a o h => ex a o (rl.kQ a o h), rl.oF, fun a h => r'.zz a (rl.zz a h), fun a o h z => rl.zF a o h (r'.zF a o (rl.kF a o h) z), rl.lk, rl.len⟩
    cases hF : F ds with
    | bad => rw [hF] at po; exact po.elim
    | ret d fin =>
      rw [hF] at po
      intro v H' Fz' own' r r' ho hf
      refine po v H' Fz' own (back r') ⟨r, ho, fun a ra => ?_⟩
      obtain ⟨f1, f2, f3, f4⟩ := hf a ra
      have f3 : H1 a = none := f3
      have := rl.fresh (f := fun b => b = a) (fun b e => by rw [e]; exact f3) a rfl
      exact ⟨this.1, f2, this.2.2.1, this.2.2.2⟩
    | exc x fin =>
      rw [hF] at po
      intro cls dd H' Fz' own' r' ex
      exact po cls dd H' Fz' own (back r') ex
end
section
variable {X : Cx} {G : Gx} {W : WX} {q : Bool} {e : Expr} {es : List Expr} {fs : List (M D)} {pos p : Pos} {k n : Nat} {f : Addr} {fd : FuncData} {ps : List Str} {F : Fn} {x : Str}
theorem mL_len {fs : List (M D)} {env e : Env} {ds : List D} : mL fs env = .ok ds e → ds.length = fs.length := by
  induction fs generalizing env e ds with
  | nil => intro h; cases h; rfl
  | cons f fs ih =>
    intro h
    simp only [mL, bnd] at h
    split at h
    · split at h
      · rename_i e2
        cases h
        simp [ih e2]
      · cases h
      · cases h
    · cases h
    · cases h
theorem eo_callP (Fk : FnOk X.prog X.w X.K X.mg X.base (CX X.prog X.w) k f fd ps (spD G n F)) (hn : fs.length = n) (hr : Room k X.A) (hg : Gl X x) (hm : X.mg x = some (.ref f)) (hk : PySem.W.keepIn X.K (.ref f) = true) (hb : Binds X.K fd ps []) (tk : Takes X W)
    (ha : EL X G W q (e :: es) (mL fs)) (hdb : (x == ("__debug__" : Str)) = false) (he : starEach (e :: es) X.env = (false, eval e X.env) :: starEach es X.env) (hpl : (backTo pos (starEach es X.env)).any (·.1) = false) :
    EO X G W q (.Call (.Name x p) (e :: es) [] pos) (callP F fs) := PE.wk (pe_callS Fk hr hg hm hk hb (passAt tk) ha hdb he hpl) fun σ H Q h => by
  have h1 := tX.callP (n := n) h
  obtain ⟨fr, env, Fz, own, qk, r, po⟩ := h1
  refine ⟨fr, env, Fz, own, qk, r, ?_⟩
  cases em : mL fs env with
  | ok ds env1 =>
    rw [em] at po
    intro vs H1 Fz1 own1 r1 rr
    exact po vs H1 Fz1 own1 r1 rr (by rw [RepFL.length rr, mL_len em, hn])
  | exc x env1 => rw [em] at po; exact po
  | bad => rw [em] at po; exact po
end
end Y

namespace Y
open PySem PySem.Spec PyProof.Rows L2

inductive SO where
  | nx (e : Env)
  | rt (d : D) (e : Env)
  | bk (e : Env)
  | ct (e : Env)
  | exc (x : Ex) (e : Env)
  | bad
abbrev SM := Env → SO
/-- the slots that are not stored to; how many slots there are -/
structure Sk where
  lk : Nat → Bool
  n : Nat
def PostS (G : Gx) (W : WX) (fr : Fr) (D : Ends) : SO → Prop
  | .nx e => ∀ σ H Fz own, Rel G fr σ H e Fz own → D.nx σ H
  | .bk e => ∀ σ H Fz own, Rel G fr σ H e Fz own → D.bk σ H
  | .ct e => ∀ σ H Fz own, Rel G fr σ H e Fz own → D.ct σ H
  | .rt d e => ∀ v σ H Fz own r, Rel G fr σ H e Fz own → RepO G Fz H d v r → Fresh own Fz fr r → D.rt v H
  | .exc x e => ∀ cls dd σ H Fz own, Rel G fr σ H e Fz own → ExR G H x cls dd → W cls dd σ H
  | .bad => False
structure Sok (sk : Sk) (fr : Fr) : Prop where
  lk : ∀ i, sk.lk i = false → fr.L i = none
  n : fr.n = sk.n
  q : ∀ a, fr.Q a = none
def tS (G : Gx) (W : WX) (sk : Sk) (f : SM) : TS := fun D σ H => ∃ fr env Fz own, Sok sk fr ∧ Rel G fr σ H env Fz own ∧ PostS G W fr D (f env)
abbrev SS (X : Cx) (G : Gx) (W : WX) (sk : Sk) (st : Stmt) (f : SM) : Prop := PS X st (tS G W sk f)
abbrev SSs (X : Cx) (G : Gx) (W : WX) (sk : Sk) (st : List Stmt) (f : SM) : Prop := PSs X st (tS G W sk f)

/-! ### combinators -/
@[inline] def sNx : SM := fun e => .nx e
@[inline] def sBk : SM := fun e => .bk e
@[inline] def sCt : SM := fun e => .ct e
@[inline] def sBad : SM := fun _ => .bad
/-- behind an expression -/
@[inline] def sX {α : Type} (f : M α) (k : α → SM) : SM := fun e => match f e with
  | .ok a e' => k a e'
  | .exc x e' => .exc x e'
  | .bad => .bad
@[inline] def sSeq (f g : SM) : SM := fun e => match f e with
  | .nx e' => g e'
  | o => o
def sIf (c : M Bool) (f g : SM) : SM := sX c fun b => if b = true then f else g
def sDrop (f : M D) : SM := sX f fun _ => sNx
def sRet (f : M D) : SM := sX f fun d e => .rt d e
def sRetN : SM := fun e => .rt .non e
section
variable {G : Gx} {W : WX} {sk : Sk} {D : Ends} {σ : Slots} {H : Hp}
/-- the first, an expression -/
theorem tS.first {α β : Type} {RR : RRt α β} {f : M α} {k : α → SM} (h : tS G W sk (sX f k) D σ H) :
    tX G W RR false f σ H fun v H1 => ∃ fr d env Fz own, Sok sk fr ∧ Rel G fr σ H1 env Fz own ∧ RR own Fz H1 fr d v ∧ PostS G W fr D (k d env) := by
  obtain ⟨fr, env, Fz, own, qk, r, p⟩ := h
  refine ⟨fr, env, Fz, own, fun _ => qk.q, r, ?_⟩
  unfold sX at p
  cases e : f env with
  | ok d env1 =>
    rw [e] at p
    intro v H1 Fz1 own1 r1 rr
    exact ⟨fr, d, env1, Fz1, own1, qk, r1, rr, p⟩
  | exc x env1 =>
    rw [e] at p
    exact fun cls dd H1 Fz1 own1 r1 ex => p cls dd σ H1 Fz1 own1 r1 ex
  | bad =>
    rw [e] at p
    exact p
theorem tS.seq {f g : SM} (h : tS G W sk (sSeq f g) D σ H) : tSeq (tS G W sk f) (tS G W sk g) D σ H := by
  obtain ⟨fr, env, Fz, own, qk, r, p⟩ := h
  refine ⟨fr, env, Fz, own, qk, r, ?_⟩
  unfold sSeq at p
  cases e : f env with
  | nx env1 =>
    rw [e] at p
    intro σ1 H1 Fz1 own1 r1
    exact ⟨fr, env1, Fz1, own1, qk, r1, p⟩
  | rt d env1 => rw [e] at p; exact p
  | bk env1 => rw [e] at p; exact p
  | ct env1 => rw [e] at p; exact p
  | exc x env1 => rw [e] at p; exact p
  | bad => rw [e] at p; exact p
theorem tS.mono {f : SM} {D' : Ends} (h : tS G W sk f D σ H) (m : D.nx = D'.nx) (m2 : D.rt = D'.rt) (m3 : D.bk = D'.bk) (m4 : D.ct = D'.ct) : tS G W sk f D' σ H := by
  cases D; cases D'; cases m; cases m2; cases m3; cases m4; exact h
/-- a slot is stored -/
theorem Rel.store {fr : Fr} {env : Env} {Fz : AS} {own : Nat → AS} {i : Nat} {d : Y.D} {v : V} {r : AS} (h : Rel G fr σ H env Fz own) (ho : RepO G Fz H d v r) (hf : Fresh own Fz fr r) (hl : fr.L i = none) (hi : i < fr.n) :
    Rel G fr (σ.set i (some v)) H (env.set i (some d)) Fz (fun j a => (j = i ∧ i < env.length ∧ r a) ∨ (j ≠ i ∧ own j a)) where
  rep := fun j e he => by
    by_cases hj : j = i
    · subst hj
      have hl2 : j < env.length := by
        have := (List.getElem?_eq_some_iff.mp he).1
        simpa using this
      rw [List.getElem?_set_self hl2] at he
      cases he
      refine ⟨v, by rw [List.getElem?_set_self (by rw [h.len]; exact hi)], ?_⟩
      have e1 : (fun a => (j = j ∧ j < env.length ∧ r a) ∨ (j ≠ j ∧ own j a)) = r := by
        funext a
        simp [hl2]
      rw [e1]
      exact ho
    · rw [List.getElem?_set_ne (Ne.symm hj)] at he
      obtain ⟨u, hu, hr⟩ := h.rep j e he
      refine ⟨u, by rw [List.getElem?_set_ne (Ne.symm hj)]; exact hu, ?_⟩
      have e1 : (fun a => (j = i ∧ i < env.length ∧ r a) ∨ (j ≠ i ∧ own j a)) = own j := by
        funext a
        simp [hj]
      rw [e1]
      exact hr
  non := fun j a he => by
    rcases he with ⟨e1, e2, _⟩ | ⟨e1, e2⟩
    · subst e1
      exact ⟨d, List.getElem?_set_self e2⟩
    · obtain ⟨e, he⟩ := h.non j a e2
      exact ⟨e, by rw [List.getElem?_set_ne (Ne.symm e1)]; exact he⟩
  dis := fun j k a h1 h2 => by
    rcases h1 with ⟨e1, _, e3⟩ | ⟨e1, e2⟩
    · rcases h2 with ⟨f1, _⟩ | ⟨f1, f2⟩
      · rw [e1, f1]
      · exact ((hf a e3).1 k f2).elim
    · rcases h2 with ⟨f1, _, f3⟩ | ⟨f1, f2⟩
      · exact ((hf a f3).1 j e2).elim
      · exact h.dis j k a e2 f2
  nfz := fun j a h1 => by
    rcases h1 with ⟨_, _, e3⟩ | ⟨_, e2⟩
    · exact (hf a e3).2.1
    · exact h.nfz j a e2
  fzd := h.fzd
  kF := h.kF
  kQ := h.kQ
  oF := fun j a h1 => by
    rcases h1 with ⟨_, _, e3⟩ | ⟨_, e2⟩
    · exact (hf a e3).2.2.1
    · exact h.oF j a e2
  zz := h.zz
  zF := h.zF
  lk := fun j v' e => by
    have hj : j ≠ i := fun z => by subst z; rw [hl] at e; cases e
    rw [List.getElem?_set_ne (Ne.symm hj)]
    exact h.lk j v' e
  len := by rw [List.length_set]; exact h.len
/-- a slot is let go -/
theorem Rel.drop {fr : Fr} {env : Env} {Fz : AS} {own : Nat → AS} {i : Nat} (h : Rel G fr σ H env Fz own) : Rel G fr σ H (env.set i none) Fz (fun j a => j ≠ i ∧ own j a) where
  rep := fun j e he => by
    have hj : j ≠ i := fun z => by
      subst z
      have hl2 : j < env.length := by
        have := (List.getElem?_eq_some_iff.mp he).1
        simpa using this
      rw [List.getElem?_set_self hl2] at he
      cases he
    rw [List.getElem?_set_ne (Ne.symm hj)] at he
    obtain ⟨u, hu, hr⟩ := h.rep j e he
    refine ⟨u, hu, ?_⟩
    have e1 : (fun a => j ≠ i ∧ own j a) = own j := by
      funext a
      simp [hj]
    rw [e1]
    exact hr
  non := fun j a he => by
    obtain ⟨e, he'⟩ := h.non j a he.2
    exact ⟨e, by rw [List.getElem?_set_ne (Ne.symm he.1)]; exact he'⟩
  dis := fun j k a h1 h2 => h.dis j k a h1.2 h2.2
  nfz := fun j a h1 => h.nfz j a h1.2
  fzd := h.fzd
  kF := h.kF
  kQ := h.kQ
  oF := fun j a h1 => h.oF j a h1.2
  zz := h.zz
  zF := h.zF
  lk := h.lk
  len := h.len
end
section
variable {X : Cx} {G : Gx} {W : WX} {sk : Sk} {e : Expr} {st : Stmt} {sts a b : List Stmt} {f g : SM} {fe : M D} {fb : M Bool} {pos p : Pos}
theorem ss_nil : SSs X G W sk [] sNx := PSs.wk pss_nil fun D σ H ⟨fr, env, Fz, own, qk, r, p⟩ => p σ H Fz own r
theorem ss_cons (h1 : SS X G W sk st f) (h2 : SSs X G W sk sts g) : SSs X G W sk (st :: sts) (sSeq f g) := PSs.wk (pss_cons h1 h2) fun D σ H h => h.seq
theorem ss_one (h1 : SS X G W sk st f) : SSs X G W sk [st] f := pss_one h1
theorem ss_pass : SS X G W sk (.Pass pos) sNx := PS.wk ps_pass fun D σ H ⟨fr, env, Fz, own, qk, r, p⟩ => p σ H Fz own r
theorem ss_break : SS X G W sk (.Break pos) sBk := PS.wk ps_break fun D σ H ⟨fr, env, Fz, own, qk, r, p⟩ => p σ H Fz own r
theorem ss_continue : SS X G W sk (.Continue pos) sCt := PS.wk ps_continue fun D σ H ⟨fr, env, Fz, own, qk, r, p⟩ => p σ H Fz own r
theorem ss_doc {x j pos pos'} : SS X G W sk (.Expr (.Constant (.str x) j pos) pos') sNx := PS.wk ps_doc fun D σ H ⟨fr, env, Fz, own, qk, r, p⟩ => p σ H Fz own r
theorem ss_bad : SS X G W sk st sBad := PS.wk ps_never fun D σ H ⟨fr, env, Fz, own, qk, r, p⟩ => p
theorem sss_bad : SSs X G W sk sts sBad := PSs.wk pss_never fun D σ H ⟨fr, env, Fz, own, qk, r, p⟩ => p
theorem ss_expr (he : EO X G W false e fe) (hs : swapsWith e none pos.line X.env = pure false) : SS X G W sk (.Expr e pos) (sDrop fe) := PS.wk (ps_expr he hs) fun D σ H h => by
  refine (tS.first (RR := RO G) h).mono fun v H1 ⟨fr, d, env, Fz, own, qk, rl, rr, p⟩ => p σ H1 Fz own rl
theorem ss_ret (he : EO X G W false e fe) : SS X G W sk (.Return (some e) pos) (sRet fe) := PS.wk (ps_ret he) fun D σ H h => by
  refine (tS.first (RR := RO G) h).mono fun v H1 ⟨fr, d, env, Fz, own, qk, rl, ⟨r, ho, hf⟩, p⟩ => p v σ H1 Fz own r rl ho hf
theorem ss_retN : SS X G W sk (.Return none pos) sRetN := PS.wk ps_retN fun D σ H ⟨fr, env, Fz, own, qk, r, p⟩ => p .non σ H Fz own nul r ⟨rfl, fun _ z => z⟩ fun _ z => z.elim
theorem ss_if (hc : EB X G W false e fb) (ha : SSs X G W sk a f) (hb : SSs X G W sk b g) : SS X G W sk (.If e a b pos) (sIf fb f g) := PS.wk (ps_if hc ha hb) fun D σ H h => by
  refine (tS.first (RR := RB) h).mono fun v H1 ⟨fr, d, env, Fz, own, qk, rl, rr, p⟩ => ?_
  cases (show d = v from rr)
  cases v with
  | true => exact ⟨fr, env, Fz, own, qk, rl, p⟩
  | false => exact ⟨fr, env, Fz, own, qk, rl, p⟩
/-- `return x` of an own name: what it owns goes along -/
def eMove (i : Nat) : M D := fun e => match e[i]? with
  | some (some d) => .ok d (e.set i none)
  | _ => .bad
theorem tX.move {G : Gx} {W : WX} {σ : Slots} {H : Hp} {i : Nat} {Q : VK} (h : tX G W (RO G) false (eMove i) σ H Q) : tVar i σ H Q := by
  obtain ⟨fr, env, Fz, own, qk, r, p⟩ := h
  unfold eMove at p
  cases e : env[i]? with
  | none => rw [e] at p; exact p.elim
  | some o =>
    cases o with
    | none => rw [e] at p; exact p.elim
    | some d =>
      rw [e] at p
      obtain ⟨v, hv, ho⟩ := r.rep i d e
      refine ⟨v, hv, p v H _ _ r.drop ⟨_, ho, fun a ha => ⟨fun j z => z.1 (r.dis j i a z.2 ha), r.nfz i a ha, r.oF i a ha, qk rfl a⟩⟩⟩
theorem eo_move {i : Nat} {x : Str} (hN : X.N[i]? = some x) (hv : Vis X.env.scope x) (hd : (x == ("__debug__" : Str)) = false) (hcd : (x == ("__classdict__" : Str)) = false) : EO X G W false (.Name x pos) (eMove i) := PE.wk (pe_var hN hv hd hcd) fun _ _ _ h => h.move
end

/-! ### stores -/
def sSet (i : Nat) (f : M D) : SM := sX f fun d e => .nx (e.set i (some d))
/-- a target takes a datum -/
abbrev Tg := D → Env → Option Env
def gSet (i : Nat) : Tg := fun d e => some (e.set i (some d))
def gL : List Tg → List D → Env → Option Env
  | [], [], e => some e
  | g :: gs, d :: ds, e => match g d e with
    | some e' => gL gs ds e'
    | none => none
  | _, _, _ => none
def gTupM (gs : List Tg) : Tg := fun d e => match d with
  | .tup ds => gL gs ds e
  | _ => none
def sTgt (g : Tg) (f : M D) : SM := sX f fun d e => match g d e with
  | some e' => .nx e'
  | none => .bad
/-- a target's reading -/
def tG (G : Gx) (sk : Sk) (g : Tg) : TG := fun v σ H Q => ∃ fr env Fz own d r env', Sok sk fr ∧ Rel G fr σ H env Fz own ∧ RepO G Fz H d v r ∧ Fresh own Fz fr r ∧ g d env = some env' ∧
  ∀ σ' own', Rel G fr σ' H env' Fz own' → Q σ' H
/-- several, of what is frozen -/
def tGs (G : Gx) (sk : Sk) (gs : List Tg) : TGs := fun vs σ H Q => ∃ fr env Fz own ds env', Sok sk fr ∧ Rel G fr σ H env Fz own ∧ RepFL G Fz H ds vs ∧ gL gs ds env = some env' ∧
  ∀ σ' own', Rel G fr σ' H env' Fz own' → Q σ' H
theorem PG.wk {X : Cx} {e : Expr} {t t' : TG} (h : PG X e t) (w : ∀ v σ H Q, t' v σ H Q → t v σ H Q) : PG X e t' := ⟨fun pins s σ H v u Q I r hw => h.run pins s σ H v u Q I r (w v σ H Q hw)⟩
theorem PGs.wk {X : Cx} {e : List Expr} {t t' : TGs} (h : PGs X e t) (w : ∀ v σ H Q, t' v σ H Q → t v σ H Q) : PGs X e t' := ⟨fun pins s σ H v u Q I r hw => h.run pins s σ H v u Q I r (w v σ H Q hw)⟩
section
variable {X : Cx} {G : Gx} {W : WX} {sk : Sk} {e tg : Expr} {es : List Expr} {f : M D} {g : Tg} {gs : List Tg} {pos p p' : Pos}
theorem sg_name {i : Nat} {x : Str} (hN : X.N.Nodup) (hi : X.N[i]? = some x) (hx : Loc X.env.scope x) (hf : X.fn x = true ∨ X.env.scope.names.lookup x = some .local) (hl : sk.lk i = false) (hn : i < sk.n) : PG X (.Name x pos) (tG G sk (gSet i)) :=
  PG.wk (pg_name hN hi hx hf) fun v σ H Q ⟨fr, env, Fz, own, d, r, env', so, rl, ho, hf, hg, hq⟩ => by
    cases hg
    exact hq _ _ (rl.store ho hf (so.lk i hl) (by rw [so.n]; exact hn))
theorem sgs_nil : PGs X [] (tGs G sk []) := PGs.wk pgs_nil fun vs σ H Q ⟨fr, env, Fz, own, ds, env', so, rl, ho, hg, hq⟩ => by
  cases ds with
  | nil => cases hg; exact ⟨ho, hq σ own rl⟩
  | cons d ds => cases hg
theorem sgs_cons (h1 : PG X e (tG G sk g)) (h2 : PGs X es (tGs G sk gs)) (hs : (assignEach (e :: es) X.env).map (·.2) = assign e X.env :: (assignEach es X.env).map (·.2)) : PGs X (e :: es) (tGs G sk (g :: gs)) :=
  PGs.wk (pgs_cons h1 h2 hs) fun vs σ H Q ⟨fr, env, Fz, own, ds, env', so, rl, ho, hg, hq⟩ => by
    cases ds with
    | nil => cases hg
    | cons d ds =>
      obtain ⟨v, r, rfl, hv, hr⟩ := ho
      have hg : (match g d env with
        | some e' => gL gs ds e'
        | none => none) = some env' := hg
      cases hgd : g d env with
      | none => rw [hgd] at hg; cases hg
      | some e1 =>
        rw [hgd] at hg
        refine ⟨v, r, rfl, fr, env, Fz, own, d, nul, e1, so, rl, hv.o, fun _ z => z.elim, hgd, fun σ' own' r' => ?_⟩
        exact ⟨fr, e1, Fz, own', ds, env', so, r', hr, hg, hq⟩
theorem sg_tup {k n : Nat} (hK : G.K = X.K) (hc : X.calm = true) (h : PGs X es (tGs G sk gs)) (hn : (assignEach es X.env).length = n) (hl : gs.length = n) (hst : (assignEach es X.env).findIdx? (·.1) = none) : PG X (.Tuple es k pos) (tG G sk (gTupM gs)) :=
  PG.wk (pg_tup hc h hn hst) fun v σ H Q ⟨fr, env, Fz, own, d, r, env', so, rl, ho, hf, hg, hq⟩ => by
    cases d with
    | tup ds =>
      obtain ⟨⟨a, vs, rfl, ha, hvs⟩, _⟩ := ho
      have hg : gL gs ds env = some env' := hg
      have hlen : ∀ {gs : List Tg} {ds : List D} {e e' : Env}, gL gs ds e = some e' → ds.length = gs.length := by
        intro gs
        induction gs with
        | nil => intro ds e e' h; cases ds with
          | nil => rfl
          | cons d ds => cases h
        | cons g gs ih => intro ds e e' h; cases ds with
          | nil => cases h
          | cons d ds =>
            have h : (match g d e with
              | some e' => gL gs ds e'
              | none => none) = some e' := h
            cases hgd : g d e with
            | none => rw [hgd] at h; cases h
            | some e1 => rw [hgd] at h; simp [ih h]
      exact ⟨a, vs, rfl, by rw [← hK]; exact ha, by rw [hvs.length, hlen hg, hl], fr, env, Fz, own, ds, env', so, rl, hvs, hg, hq⟩
    | _ => cases hg
theorem ss_set {i : Nat} {x : Str} (hN : X.N.Nodup) (hi : X.N[i]? = some x) (hx : Loc X.env.scope x) (hf : X.fn x = true ∨ X.env.scope.names.lookup x = some .local) (hl : sk.lk i = false) (hn : i < sk.n) (he : EO X G W false e f)
    (hs : swapsWith e (some (.Name x p')) pos.line X.env = pure false) : SS X G W sk (.Assign [.Name x p'] e pos) (sSet i f) := PS.wk (ps_set hN hi hx he hs hf) fun D σ H h => by
  refine (tS.first (RR := RO G) h).mono fun v H1 ⟨fr, d, env, Fz, own, so, rl, ⟨r, ho, hfr⟩, p⟩ => ?_
  exact p _ _ _ _ (rl.store ho hfr (so.lk i hl) (by rw [so.n]; exact hn))
theorem ss_tgt (he : EO X G W false e f) (hg : PG X tg (tG G sk g)) (hs : swapsWithSole [tg] e pos.line X.env = pure false) (hw : swappedStores [tg] e X.env = pure none) (h1 : (assignEach [tg] X.env).map (·.2) = [assign tg X.env]) :
    SS X G W sk (.Assign [tg] e pos) (sTgt g f) := PS.wk (ps_asg he hg hs hw h1) fun D σ H h => by
  refine (tS.first (RR := RO G) h).mono fun v H1 ⟨fr, d, env, Fz, own, so, rl, ⟨r, ho, hfr⟩, p⟩ => ?_
  cases hgd : g d env with
  | none => rw [hgd] at p; exact p.elim
  | some e1 =>
    rw [hgd] at p
    exact ⟨fr, env, Fz, own, d, r, e1, so, rl, ho, hfr, hgd, fun σ' own' r' => p σ' H1 Fz own' r'⟩
/-- x op= e, of what is not owned -/
def sAug (p : D → D → Option D) (i : Nat) (f : M D) : SM := fun e => match e[i]? with
  | some (some x) => if x.own = true then .bad else sX f (fun y e => match p x y with
    | some z => .nx (e.set i (some z))
    | none => .bad) e
  | _ => .bad
theorem tS.aug {p : D → D → Option D} {r : R2} (hp : Pr2 G r p) {i : Nat} {D : Ends} {σ : Slots} {H : Hp} (hl : sk.lk i = false) (hn : i < sk.n) (h : tS G W sk (sAug p i f) D σ H) : tAug i (tX G W (RV G) false f) r D σ H := by
  obtain ⟨fr, env, Fz, own, so, rl, po⟩ := h
  unfold sAug at po
  cases e : env[i]? with
  | none => rw [e] at po; exact po.elim
  | some o =>
    cases o with
    | none => rw [e] at po; exact po.elim
    | some x =>
      rw [e] at po
      obtain ⟨v, hv, ho⟩ := rl.rep i x e
      refine ⟨v, hv, ?_⟩
      have po : PostS G W fr D (if x.own = true then SO.bad else sX f (fun y e => match p x y with
        | some z => SO.nx (e.set i (some z))
        | none => SO.bad) env) := po
      split at po
      · exact po.elim
      · rename_i hx
        have hxf := (ho.f (by simpa using hx)).1
        -- all that nobody owns stays
        refine ⟨mx fr own Fz H fr.Q, env, Fz, own, fun _ => so.q, rl.max rl.kQ, ?_⟩
        unfold sX at po
        cases ef : f env with
        | ok d env1 =>
          rw [ef] at po
          have po : PostS G W fr D (match p x d with
            | some z => SO.nx (env1.set i (some z))
            | none => SO.bad) := po
          intro w H1 Fz1 own1 r1 ⟨g, hw⟩
          have rb := rl.back r1 fun _ _ h => h
          cases hz : p x d with
          | none => rw [hz] at po; exact po.elim
          | some z =>
            rw [hz] at po
            refine hp Fz1 H1 x d z v w nul g _ (r1.nxt.repF rl hxf).o hw hz fun u H2 f2 ex hu hfn => ?_
            exact po _ _ _ _ ((rb.ext ex).store hu (rb.fresh hfn) (so.lk i hl) (by rw [so.n]; exact hn))
        | exc x1 env1 =>
          rw [ef] at po
          intro cls dd H1 Fz1 own1 r1 ex
          exact po cls dd σ H1 Fz1 own1 (rl.back r1 fun _ _ h => h) ex
        | bad =>
          rw [ef] at po
          exact po
theorem ss_aug {i : Nat} {x : Str} {op : Operator} {r : R2} {p : D → D → Option D} (hop : OpR X (inplaceOp op) r) (hp : Pr2 G r p) (hN : X.N.Nodup) (hi : X.N[i]? = some x) (hx : Loc X.env.scope x) (hf : X.fn x = true ∨ X.env.scope.names.lookup x = some .local)
    (hl : sk.lk i = false) (hn : i < sk.n) (he : EV X G W false e f) : SS X G W sk (.AugAssign (.Name x p') op e pos) (sAug p i f) := PS.wk (ps_aug hN hi hx he hop hf) fun D σ H h => h.aug hp hl hn
end

/-! ### loops -/
/-- while; the fuel is no more than a bound -/
def sWhile (c : M Bool) (b : SM) : Nat → SM
  | 0 => sBad
  | n + 1 => sX c fun k => if k = true then (fun e => match b e with
      | .nx e' => sWhile c b n e'
      | .ct e' => sWhile c b n e'
      | .bk e' => .nx e'
      | o => o) else sNx
/-- what a loop walks: while what is frozen stays, it gives the data ds -/
structure WkD (G : Gx) (Fz0 : AS) (H0 : Hp) (J : It) (ds : List D) : Prop where
  goes : ∀ i H, i < ds.length → Kp Fz0 H0 H → J.go i H
  stops : ∀ H, Kp Fz0 H0 H → J.stop ds.length H
  yields : ∀ i H x H', i < ds.length → Kp Fz0 H0 H → J.yld i H x H' → Ext H H' ∧ ∃ d, ds[i]? = some d ∧ ∀ Fz, (∀ a, Fz0 a → Fz a) → RepF G Fz H' d x
def RW (G : Gx) : RRt (List D) It := fun _ Fz H _ ds J => WkD G Fz H J ds
abbrev EI (X : Cx) (G : Gx) (W : WX) (tg e : Expr) (f : M (List D)) : Prop := PI X tg e (tX G W (RW G) false f)
def sLoop (g : Tg) (b : SM) : List D → SM
  | [] => sNx
  | d :: ds => fun e => match g d e with
    | none => .bad
    | some e1 => match b e1 with
      | .nx e' => sLoop g b ds e'
      | .ct e' => sLoop g b ds e'
      | .bk e' => .nx e'
      | o => o
def sFor (it : M (List D)) (g : Tg) (b : SM) : SM := sX it fun ds => sLoop g b ds
section
variable {X : Cx} {G : Gx} {W : WX} {sk : Sk} {D : Ends} {σ : Slots} {H : Hp} {c : M Bool} {b : SM} {g : Tg} {it : M (List Y.D)} {pos : Pos}
theorem PostS.back {fr : Fr} {env : Env} {Fz : AS} {own : Nat → AS} {o : SO} (r : Rel G fr σ H env Fz own) (p : PostS G W fr D o) : PostS G W (mx fr own Fz H fr.Q) D o := by
  cases o with
  | nx e => exact fun σ' H' Fz' own' r' => p σ' H' Fz' own' (r.back r' fun _ _ h => h)
  | bk e => exact fun σ' H' Fz' own' r' => p σ' H' Fz' own' (r.back r' fun _ _ h => h)
  | ct e => exact fun σ' H' Fz' own' r' => p σ' H' Fz' own' (r.back r' fun _ _ h => h)
  | rt d e =>
    refine fun v σ' H' Fz' own' r1 r' ho hf => p v σ' H' Fz' own' r1 (r.back r' fun _ _ h => h) ho fun a ra => ?_
    obtain ⟨f1, f2, f3, f4⟩ := hf a ra
    refine ⟨f1, f2, ?_, f4⟩
    cases q1 : fr.F a with
    | none => rfl
    | some o =>
      rw [show (mx fr own Fz H fr.Q).F a = some o from mxF_of (r.kF a o q1) fun i z => by rw [r.oF i a z] at q1; cases q1] at f3
      cases f3
  | exc x e => exact fun cls dd σ' H' Fz' own' r' => p cls dd σ' H' Fz' own' (r.back r' fun _ _ h => h)
  | bad => exact p
theorem Sok.mx {fr : Fr} (so : Sok sk fr) {own : Nat → AS} {Fz : AS} {H : Hp} : Sok sk (Y.mx fr own Fz H fr.Q) := ⟨so.lk, so.n, so.q⟩
theorem tS.while_ {n : Nat} (h : tS G W sk (sWhile c b n) D σ H) : tWhile (tX G W RB false c) (tS G W sk b) D σ H := by
  refine ⟨fun m σ H => tS G W sk (sWhile c b m) D σ H, ⟨n, h⟩, fun m σ H h => ?_⟩
  cases m with
  | zero => obtain ⟨fr, env, Fz, own, so, rl, po⟩ := h; exact po.elim
  | succ m =>
    refine (tS.first (RR := RB) h).mono fun v H1 ⟨fr, d, env, Fz, own, so, rl, rr, po⟩ => ?_
    cases (show d = v from rr)
    cases v with
    | false => exact po σ H1 Fz own rl
    | true =>
      show ∃ N : Slots → Hp → Prop, _
      refine ⟨fun σ' H' => tS G W sk (sWhile c b m) D σ' H', fun σ' H' h => ⟨m, Nat.lt_succ_self m, h⟩, fr, env, Fz, own, so, rl, ?_⟩
      have po : PostS G W fr D (match b env with
        | .nx e' => sWhile c b m e'
        | .ct e' => sWhile c b m e'
        | .bk e' => .nx e'
        | o => o) := po
      cases eb : b env with
      | nx e1 => rw [eb] at po; exact fun σ' H' Fz' own' r' => ⟨fr, e1, Fz', own', so, r', po⟩
      | ct e1 => rw [eb] at po; exact fun σ' H' Fz' own' r' => ⟨fr, e1, Fz', own', so, r', po⟩
      | bk e1 => rw [eb] at po; exact po
      | rt d e1 => rw [eb] at po; exact po
      | exc x e1 => rw [eb] at po; exact po
      | bad => rw [eb] at po; exact po
theorem tS.for_ (h : tS G W sk (sFor it g b) D σ H) : tFor (tX G W (RW G) false it) (tG G sk g) (tS G W sk b) D σ H := by
  refine (tS.first (RR := RW G) h).mono fun J H1 ⟨fr, ds, env, Fz, own, so, rl, wk, po⟩ => ?_
  refine ⟨fun i m σ' H' => m + i = ds.length ∧ ∃ e1 Fz1 own1, Rel G fr σ' H' e1 Fz1 own1 ∧ Kp Fz H1 H' ∧ (∀ a, Fz a → Fz1 a) ∧ PostS G W fr D (sLoop g b (ds.drop i) e1), ⟨ds.length, rfl, env, Fz, own, rl, Kp.refl _ _, fun _ z => z, po⟩, fun i m σ' H' ⟨hm, e1, Fz1, own1, r1, k1, z1, p1⟩ => ?_⟩
  by_cases hi : i < ds.length
  · refine .inr ⟨wk.goes i H' hi k1, fun σ2 H2 => (m - 1) + (i + 1) = ds.length ∧ ∃ e1 Fz1 own1, Rel G fr σ2 H2 e1 Fz1 own1 ∧ Kp Fz H1 H2 ∧ (∀ a, Fz a → Fz1 a) ∧ PostS G W fr D (sLoop g b (ds.drop (i + 1)) e1), fun σ2 H2 h => ⟨m - 1, by omega, h⟩, fun x H2 hy => ?_⟩
    obtain ⟨ex, d, hd, hr⟩ := wk.yields i H' x H2 hi k1 hy
    have hdrop : ds.drop i = d :: ds.drop (i + 1) := by
      rw [List.drop_eq_getElem_cons hi]
      rw [List.getElem?_eq_getElem hi] at hd
      cases hd
      rfl
    rw [hdrop] at p1
    have r2 := r1.ext ex
    have k2 : Kp Fz H1 H2 := fun a o h c => ex a o (k1 a o h c)
    -- the body's frame: all that nobody owns
    have rm := r2.max (Q := fr.Q) r2.kQ
    have p1 : PostS G W fr D (match g d e1 with
      | none => .bad
      | some e1 => match b e1 with
        | .nx e' => sLoop g b (ds.drop (i + 1)) e'
        | .ct e' => sLoop g b (ds.drop (i + 1)) e'
        | .bk e' => .nx e'
        | o => o) := p1
    cases hg : g d e1 with
    | none => rw [hg] at p1; exact p1.elim
    | some e2 =>
      rw [hg] at p1
      have p1 : PostS G W fr D (match b e2 with
        | .nx e' => sLoop g b (ds.drop (i + 1)) e'
        | .ct e' => sLoop g b (ds.drop (i + 1)) e'
        | .bk e' => .nx e'
        | o => o) := p1
      refine ⟨mx fr own1 Fz1 H2 fr.Q, e1, Fz1, own1, d, nul, e2, so.mx, rm, (hr Fz1 z1).o, fun _ z => z.elim, hg, fun σ3 own3 r3 => ?_⟩
      refine ⟨mx fr own1 Fz1 H2 fr.Q, e2, Fz1, own3, so.mx, r3, ?_⟩
      have nxt : ∀ {e' : Env} {D' : Ends} (_ : PostS G W fr D (sLoop g b (ds.drop (i + 1)) e')) σ4 H4 Fz4 own4, Rel G (mx fr own1 Fz1 H2 fr.Q) σ4 H4 e' Fz4 own4 →
          (m - 1) + (i + 1) = ds.length ∧ ∃ e1 Fz1 own1, Rel G fr σ4 H4 e1 Fz1 own1 ∧ Kp Fz H1 H4 ∧ (∀ a, Fz a → Fz1 a) ∧ PostS G W fr D (sLoop g b (ds.drop (i + 1)) e1) := fun {e' D'} pp σ4 H4 Fz4 own4 r4 => by
        refine ⟨by omega, e', Fz4, own4, r2.back r4 fun _ _ h => h, ?_, fun a z => r4.zz a (z1 a z), pp⟩
        have kp := r4.nxt.kp r2
        exact fun a o h c => kp a o (k2 a o h c) (c.imp (z1 a) id)
      cases eb : b e2 with
      | nx e' => rw [eb] at p1; exact fun σ4 H4 Fz4 own4 r4 => nxt (D' := D) p1 σ4 H4 Fz4 own4 r4
      | ct e' => rw [eb] at p1; exact fun σ4 H4 Fz4 own4 r4 => nxt (D' := D) p1 σ4 H4 Fz4 own4 r4
      | bk e' => rw [eb] at p1; exact PostS.back (W := W) r2 (o := .nx e') p1
      | rt d e' => rw [eb] at p1; exact PostS.back (W := W) r2 (o := .rt d e') p1
      | exc x e' => rw [eb] at p1; exact PostS.back (W := W) r2 (o := .exc x e') p1
      | bad => rw [eb] at p1; exact p1.elim
  · have hi' : i = ds.length := by omega
    subst hi'
    rw [List.drop_length] at p1
    exact .inl ⟨wk.stops H' k1, p1 σ' H' Fz1 own1 r1⟩
theorem ss_while {e : Expr} {body : List Stmt} {n : Nat} (hp : PassesOwn (model X.prog X.w) X.A X.env X.xe) (hc : EB X G W false e c) (hb : SSs X G W sk body b) : SS X G W sk (.While e body [] pos) (sWhile c b n) := PS.wk (ps_while hp hc hb) fun D σ H h => h.while_
theorem ss_for {tg iter : Expr} {body : List Stmt} (hp : PassesOwn (model X.prog X.w) X.A X.env X.xe) (hc : X.calm = true) (hi : EI X G W tg iter it) (hg : PG X tg (tG G sk g)) (hb : SSs X G W sk body b) (hs : ∀ x, foldedSetIterable iter X.env x = pure x) :
    SS X G W sk (.For tg iter body [] pos) (sFor it g b) := PS.wk (ps_for hp hc hi hg hb hs) fun D σ H h => h.for_
end
end Y

namespace Y
open PySem PySem.Spec PyProof.Rows L2

/-! ### walks -/
section
variable {G : Gx} {Fz : AS} {H : Hp} {J : It} {n : Nat} {Gd : Hp → Prop} {Yd : Nat → Hp → V → Hp → Prop} {ds : List D}
theorem WkD.of (w : Walk J n Gd Yd) (hn : ds.length = n) (hg : ∀ H', Kp Fz H H' → Gd H') (hy : ∀ i H1 x H', i < n → Kp Fz H H1 → Yd i H1 x H' → Ext H1 H' ∧ ∃ d, ds[i]? = some d ∧ ∀ Fz', (∀ a, Fz a → Fz' a) → RepF G Fz' H' d x) : WkD G Fz H J ds where
  goes := fun i H' hi k => w.goes i H' (by omega) (hg H' k)
  stops := fun H' k => by rw [hn]; exact w.stops H' (hg H' k)
  yields := fun i H' x H2 hi k y => hy i H' x H2 (by omega) k (w.yields i H' x H2 (by omega) (hg H' k) y)
theorem Kp.sql {K : PySem.W.Frag} {Fz : AS} {H H' : Hp} (k : Kp Fz H H') {a : Addr} {vs : List V} (h : LF Fz H a vs) : SqL K H' a vs := (k.lf (fun _ z => z) h).sql
theorem wkd_lst {o : Bool} {a : Addr} (h : RepF G Fz H (.lst o ds) (.ref a)) : WkD G Fz H (Itl G.K a) ds := by
  obtain ⟨_, a', vs, e, ha, r⟩ := h
  cases e
  refine .of walk_list r.length.symm (fun H' k => k.sql ha) fun i H1 x H' hi k ⟨e, hx⟩ => ?_
  subst e
  obtain ⟨d, hd⟩ : ∃ d, ds[i]? = some d := ⟨ds[i]'(by rw [← r.length]; exact hi), by simp⟩
  obtain ⟨v, hv, rv⟩ := r.get hd
  rw [hx] at hv
  cases hv
  exact ⟨fun _ _ z => z, d, hd, fun Fz' z => rv.mono k z⟩
theorem wkd_tup {a : Addr} (h : RepF G Fz H (.tup ds) (.ref a)) : WkD G Fz H (Itt G.K a) ds := by
  obtain ⟨a', vs, e, ha, r⟩ := h
  cases e
  refine .of walk_tup r.length.symm (fun H' k => k.sqt ha) fun i H1 x H' hi k ⟨e, hx⟩ => ?_
  subst e
  obtain ⟨d, hd⟩ : ∃ d, ds[i]? = some d := ⟨ds[i]'(by rw [← r.length]; exact hi), by simp⟩
  obtain ⟨v, hv, rv⟩ := r.get hd
  rw [hx] at hv
  cases hv
  exact ⟨fun _ _ z => z, d, hd, fun Fz' z => rv.mono k z⟩
theorem wkd_scr {ns : List Int} {a : Addr} (h : RepF G Fz H (.scr ns) (.ref a)) : WkD G Fz H (Itl G.K a) (ns.map D.int) := by
  obtain ⟨a', e, ha⟩ := h
  cases e
  refine .of walk_list (by simp) (fun H' k => (k.sc ha).sql) fun i H1 x H' hi k ⟨e, hx⟩ => ?_
  subst e
  rw [List.getElem?_map] at hx
  cases hn : ns[i]? with
  | none => rw [hn] at hx; cases hx
  | some m =>
    rw [hn] at hx
    cases hx
    exact ⟨fun _ _ z => z, .int m, by rw [List.getElem?_map, hn]; rfl, fun Fz' z => rfl⟩
theorem wkd_str {s : List Nat} : WkD G Fz H (Its (mkS s)) (s.map fun c => .str [c]) := by
  refine .of walk_str (by simp [mkS]) (fun _ _ => trivial) fun i H1 x H' hi k ⟨e, c, hc, hx⟩ => ?_
  subst e hx
  refine ⟨fun _ _ z => z, .str [c], ?_, fun Fz' z => rfl⟩
  have : s[i]? = some c := by
    have : (mkS s).cps[i]? = some c := hc
    unfold mkS at this
    simpa using this
  rw [List.getElem?_map, this]
  rfl
theorem wkd_range {lo : Int} {n : Nat} : WkD G Fz H (Itr lo n) ((List.range n).map fun i => .int (lo + (i : Nat))) := by
  refine .of walk_range (by simp) (fun _ _ => trivial) fun i H1 x H' hi k ⟨e, hx⟩ => ?_
  subst e hx
  exact ⟨fun _ _ z => z, .int (lo + i), by simp [hi], fun Fz' z => rfl⟩
theorem wkd_rangeC {lo c : Int} {n : Nat} : WkD G Fz H (Itc lo c n) ((List.range n).map fun i => .int (lo + (i : Nat) * c)) := by
  refine .of walk_rangeC (by simp) (fun _ _ => trivial) fun i H1 x H' hi k ⟨e, hx⟩ => ?_
  subst e hx
  exact ⟨fun _ _ z => z, .int (lo + (i : Nat) * c), by simp [hi], fun Fz' z => rfl⟩
end
/-- what can be walked -/
def seqD : D → Option (List D)
  | .lst _ xs => some xs
  | .tup xs => some xs
  | .scr ns => some (ns.map D.int)
  | .str s => some (s.map fun c => .str [c])
  | _ => none
def iSeq (f : M D) : M (List D) := bnd f fun d => mopt (seqD d)
def i62 : Int := 4611686018427387904
def rngD1 : List D → Option (List D)
  | [.int j] => if -i62 ≤ j ∧ j < i62 then some ((List.range j.toNat).map fun i => .int (0 + (i : Nat))) else none
  | _ => none
def rngD2 : List D → Option (List D)
  | [.int i, .int j] => if -i62 ≤ i ∧ i < i62 ∧ -i62 ≤ j ∧ j < i62 then some ((List.range (j - i).toNat).map fun k => .int (i + (k : Nat))) else none
  | _ => none
def rngD3 : List D → Option (List D)
  | [.int i, .int j, .int c] => if c = -1 ∧ -i62 ≤ i ∧ i < i62 ∧ -i62 ≤ j ∧ j < i62 then some ((List.range (i - j).toNat).map fun k => .int (i + (k : Nat) * -1)) else none
  | _ => none
def iRng (r : List D → Option (List D)) (fs : List (M D)) : M (List D) := bnd (mL fs) fun ds => mopt (r ds)
def rSeqI (K : PySem.W.Frag) : V → Hp → (It → Hp → Prop) → Prop := fun x H R => (∃ a xs, x = .ref a ∧ SqL K H a xs ∧ R (Itl K a) H) ∨ (∃ a xs, x = .ref a ∧ SqT K H a xs ∧ R (Itt K a) H) ∨ ∃ z, x = .str z ∧ R (Its z) H
section
variable {X : Cx} {G : Gx} {W : WX} {tg e a b c : Expr} {f fa fb fc : M D} {pos p : Pos}
theorem pi_seqA {te : TE} (he : PE X e te) : PI X tg e (fun σ H R => te σ H fun v H1 => rSeqI X.K v H1 R) := by
  refine ⟨fun pins s σ H R I h => ?_⟩
  refine thn (he.run pins s σ H _ I h) fun v s1 ⟨y, H1, I1, r1, q⟩ => ?_
  rcases q with ⟨a, xs, rfl, hq, q⟩ | ⟨a, xs, rfl, hq, q⟩ | ⟨x, rfl, q⟩
  · cases r1
    obtain ⟨its, rv, p, hz⟩ := I1.list hq
    refine wpAny_pyIter_list p.isList ?_
    exact pi_one (tk := s1.toks) I1 _ (turn_list a _) ⟨_, Heap.get?_push_size _ rfl, rfl, rfl⟩ q
  · cases r1
    obtain ⟨its, rv, p, hz⟩ := I1.tuple hq
    refine wpAny_pyIter_tuple (show s1.heap.IsTuple a its.toArray from p) ?_
    exact pi_one (tk := s1.toks) I1 _ (turn_tuple a _) ⟨_, Heap.get?_push_size _ rfl, rfl, rfl⟩ q
  · obtain ⟨t, rfl⟩ := r1
    cases ha : x.cps.all (· < 128)
    · exact wpAny_pyIter_wide ha (pi_one (tk := s1.toks) I1 _ (turn_str _ x t "str_iterator" (.inr rfl)) ⟨_, Heap.get?_push_size _ rfl, rfl, rfl⟩ q)
    · exact wpAny_pyIter_ascii ha (pi_one (tk := s1.toks) I1 _ (turn_str _ x t "str_ascii_iterator" (.inl rfl)) ⟨_, Heap.get?_push_size _ rfl, rfl, rfl⟩ q)
theorem PI.wk {t t' : TI} (h : PI X tg e t) (w : ∀ σ H R, t' σ H R → t σ H R) : PI X tg e t' := ⟨fun pins s σ H R I hw => h.run pins s σ H R I (w σ H R hw)⟩
theorem opt_RW {σ : Slots} {fr : Fr} {env : Env} {Q : It → Hp → Prop} {o : Option (List D)} (p : PostX G W σ fr (RW G) Q (mopt o env)) : ∃ d, o = some d ∧ PostX G W σ fr (RW G) Q (.ok d env) := by
  unfold mopt at p
  cases o with
  | none => exact p.elim
  | some d => exact ⟨d, rfl, p⟩
theorem ei_seq (hK : G.K = X.K) (he : EF X G W false e f) : EI X G W tg e (iSeq f) := PI.wk (pi_seqA he) fun σ H R h => by
  have h1 : tX G W (RF G) false f σ H _ := h.first
  refine h1.mono fun v H1 ⟨fr, d, env, Fz, own, qk, rl, hv, po⟩ => ?_
  obtain ⟨ds, hd, po⟩ := opt_RW po
  rw [← hK]
  cases d with
  | lst o xs =>
    cases hd
    have hv : RepF G Fz H1 (.lst o ds) v := hv
    obtain ⟨_, a, vs, rfl, ha, r⟩ := id hv
    exact .inl ⟨a, vs, rfl, ha.sql, po _ H1 Fz own rl (wkd_lst hv)⟩
  | tup xs =>
    cases hd
    have hv : RepF G Fz H1 (.tup ds) v := hv
    obtain ⟨a, vs, rfl, ha, r⟩ := id hv
    exact .inr (.inl ⟨a, vs, rfl, ha, po _ H1 Fz own rl (wkd_tup hv)⟩)
  | scr xs =>
    cases hd
    have hv : RepF G Fz H1 (.scr xs) v := hv
    obtain ⟨a, rfl, ha⟩ := id hv
    exact .inl ⟨a, _, rfl, ha.sql, po _ H1 Fz own rl (wkd_scr hv)⟩
  | str s =>
    cases hd
    have hv : v = .str (mkS s) := hv
    subst hv
    exact .inr (.inr ⟨mkS s, rfl, po _ H1 Fz own rl wkd_str⟩)
  | _ => cases hd
theorem i62_eq : i62 = 2 ^ 62 := by decide
theorem ei_rng1 (hg : Gl X "range") (hm : X.mg "range" = none) (ha : EL X G W false [a] (mL [fa])) (hs : starEach [a] X.env = [(false, eval a X.env)]) : EI X G W tg (.Call (.Name "range" p) [a] [] pos) (iRng rngD1 [fa]) := PI.wk (pi_range1 hg hm ha hs) fun σ H R h => by
  have h1 : tX G W (RL G) false (mL [fa]) σ H _ := h.first
  refine h1.mono fun vs H1 ⟨fr, d, env, Fz, own, qk, rl, hv, po⟩ => ?_
  obtain ⟨ds, hd, po⟩ := opt_RW po
  unfold rngD1 at hd
  split at hd
  · rename_i j
    split at hd
    · rename_i hb
      cases hd
      obtain ⟨v, r, rfl, hv, hr⟩ := hv
      obtain rfl : r = [] := hr
      obtain rfl : v = .int j := hv
      rw [i62_eq] at hb
      exact ⟨j, rfl, hb.1, hb.2, po _ H1 Fz own rl wkd_range⟩
    · cases hd
  · cases hd
theorem ei_rng2 (hg : Gl X "range") (hm : X.mg "range" = none) (ha : EL X G W false [a, b] (mL [fa, fb])) (hs : starEach [a, b] X.env = [(false, eval a X.env), (false, eval b X.env)]) (hs2 : starEach [b] X.env = [(false, eval b X.env)]) :
    EI X G W tg (.Call (.Name "range" p) [a, b] [] pos) (iRng rngD2 [fa, fb]) := PI.wk (pi_range2 hg hm ha hs hs2) fun σ H R h => by
  have h1 : tX G W (RL G) false (mL [fa, fb]) σ H _ := h.first
  refine h1.mono fun vs H1 ⟨fr, d, env, Fz, own, qk, rl, hv, po⟩ => ?_
  obtain ⟨ds, hd, po⟩ := opt_RW po
  unfold rngD2 at hd
  split at hd
  · rename_i i j
    split at hd
    · rename_i hb
      cases hd
      obtain ⟨v, r, rfl, hv, w, r, rfl, hw, hr⟩ := hv
      obtain rfl : r = [] := hr
      obtain rfl : v = .int i := hv
      obtain rfl : w = .int j := hw
      rw [i62_eq] at hb
      exact ⟨i, j, rfl, hb, po _ H1 Fz own rl wkd_range⟩
    · cases hd
  · cases hd
theorem ei_rng3 (hg : Gl X "range") (hm : X.mg "range" = none) (ha : EL X G W false [a, b, c] (mL [fa, fb, fc])) (hs : starEach [a, b, c] X.env = (false, eval a X.env) :: starEach [b, c] X.env) (hpl : (backTo pos (starEach [b, c] X.env)).any (·.1) = false) :
    EI X G W tg (.Call (.Name "range" p) [a, b, c] [] pos) (iRng rngD3 [fa, fb, fc]) := PI.wk (pi_range3 hg hm ha hs hpl) fun σ H R h => by
  have h1 : tX G W (RL G) false (mL [fa, fb, fc]) σ H _ := h.first
  refine h1.mono fun vs H1 ⟨fr, d, env, Fz, own, qk, rl, hv, po⟩ => ?_
  obtain ⟨ds, hd, po2⟩ := opt_RW po
  unfold rngD3 at hd
  split at hd
  · rename_i i j c
    split at hd
    · rename_i hb
      cases hd
      obtain ⟨v, r, rfl, hv, w, r, rfl, hw, u, r, rfl, hu, hr⟩ := hv
      obtain rfl : r = [] := hr
      obtain rfl : v = .int i := hv
      obtain rfl : w = .int j := hw
      obtain rfl : u = .int c := hu
      rw [i62_eq] at hb
      obtain ⟨rfl, h1, h2, h3, h4⟩ := hb
      exact ⟨i, j, -1, _, rfl, RgC.neg h1 h2 h3 h4, po2 _ H1 Fz own rl wkd_rangeC⟩
    · cases hd
  · cases hd
end

/-! ### what changes a list in its place -/
/-- an object of a slot is written -/
theorem Rel.write {G : Gx} {fr : Fr} {σ : Slots} {H : Hp} {env : Env} {Fz : AS} {own : Nat → AS} {i : Nat} {a : Addr} {o : HO} {d d' : D} {v : V} {f' : AS} (r : Rel G fr σ H env Fz own) (hd : env[i]? = some (some d)) (ha : own i a) (hv : σ[i]? = some (some v))
    (hr : RepO G Fz (upd H a o) d' v f') (hf : ∀ b, f' b → own i b) (hq : ∀ b, fr.Q b = none) : Rel G fr σ (upd H a o) (env.set i (some d')) Fz (fun j b => (j = i ∧ f' b) ∨ (j ≠ i ∧ own j b)) := by
  have hl : i < env.length := (List.getElem?_eq_some_iff.mp hd).1
  have kp : ∀ j, j ≠ i → Kp (fun b => Fz b ∨ own j b) H (upd H a o) := fun j hj b u e c => by
    have : b ≠ a := fun z => by
      subst z
      rcases c with (c | c) | c
      · exact r.nfz i b ha c
      · exact hj (r.dis j i b c ha)
      · have := r.mut ha
        rw [e] at this
        exact c this
    rw [upd_ne this]
    exact e
  refine ⟨?_, ?_, ?_, ?_, ?_, ?_, ?_, ?_, r.zz, r.zF, r.lk, r.len⟩
  · intro j e he
    by_cases hj : j = i
    · subst hj
      rw [List.getElem?_set_self hl] at he
      cases he
      refine ⟨v, hv, ?_⟩
      have e1 : (fun b => (j = j ∧ f' b) ∨ (j ≠ j ∧ own j b)) = f' := by
        funext b
        simp
      rw [e1]
      exact hr
    · rw [List.getElem?_set_ne (Ne.symm hj)] at he
      obtain ⟨u, hu, ho⟩ := r.rep j e he
      refine ⟨u, hu, ?_⟩
      have e1 : (fun b => (j = i ∧ f' b) ∨ (j ≠ i ∧ own j b)) = own j := by
        funext b
        simp [hj]
      rw [e1]
      exact ho.mono (fun _ z => z) (kp j hj)
  · rintro j b (⟨e, h⟩ | ⟨e, h⟩)
    · subst e
      exact ⟨d', List.getElem?_set_self hl⟩
    · obtain ⟨e', he⟩ := r.non j b h
      exact ⟨e', by rw [List.getElem?_set_ne (Ne.symm e)]; exact he⟩
  · rintro j k b (⟨e, h⟩ | ⟨e, h⟩) (⟨e2, h2⟩ | ⟨e2, h2⟩)
    · rw [e, e2]
    · exact (e2 (r.dis k i b h2 (hf b h))).elim
    · exact (e (r.dis j i b h (hf b h2))).elim
    · exact r.dis j k b h h2
  · rintro j b (⟨e, h⟩ | ⟨e, h⟩)
    · exact r.nfz i b (hf b h)
    · exact r.nfz j b h
  · intro b hb
    obtain ⟨u, hu⟩ := r.fzd b hb
    by_cases z : b = a
    · subst z; exact ⟨o, upd_same⟩
    · exact ⟨u, by rw [upd_ne z]; exact hu⟩
  · intro b u hb
    have : b ≠ a := fun z => by subst z; rw [r.oF i b ha] at hb; cases hb
    rw [upd_ne this]
    exact r.kF b u hb
  · intro b u hb
    rw [hq b] at hb
    cases hb
  · rintro j b (⟨e, h⟩ | ⟨e, h⟩)
    · exact r.oF i b (hf b h)
    · exact r.oF j b h
/-- a list's method on a list: what it becomes, what is given -/
abbrev LMt := List D → List D → Option (List D × D)
def eMut (op : LMt) (i : Nat) (fs : List (M D)) : M D := bnd (vVar i) fun d0 => match d0 with
  | .lst true _ => bnd (mL fs) fun ds => fun e => match e[i]? with
    | some (some (.lst true xs)) => match op xs ds with
      | some (ys, z) => .ok z (e.set i (some (.lst true ys)))
      | none => .bad
    | _ => .bad
  | _ => mbad
/-- what a list's method does, by values: H1 the heap, a the list, vs the items, ws the arguments -/
def MtP (G : Gx) (r : V → List V → Hp → VK → Prop) (op : LMt) : Prop := ∀ (Fz : AS) (H : Hp) (a : Addr) (xs ys ds : List D) (z : D) (vs ws : List V) (g : AS) (Q : VK), H a = some (.lst vs) → RepOL G Fz H xs vs g → RepFL G Fz H ds ws → ¬ g a → ¬ Fz a → op xs ds = some (ys, z) →
  (∀ (us : List V) (u : V) (g' : AS) (r : AS), RepOL G Fz (upd H a (.lst us)) ys us g' → RepO G Fz (upd H a (.lst us)) z u r → (∀ b, g' b → g b) → (∀ b, r b → g b) → Dsj g' r → Q u (upd H a (.lst us))) → r (.ref a) ws H Q
theorem tX.mut {X : Cx} {G : Gx} {W : WX} (hK : G.K = X.K) {op : LMt} {r : V → List V → Hp → VK → Prop} (hp : MtP G r op) {i : Nat} {fs : List (M D)} {σ : Slots} {H : Hp} {Q : VK} (h : tX G W (RO G) false (eMut op i fs) σ H Q) :
    tBM X.K "list" r (tVar i) (tX G W (RL G) false (mL fs)) σ H Q := by
  obtain ⟨fr, env, Fz, own, qk, rl, po⟩ := h
  obtain ⟨d0, hd0, po⟩ := vVar_bnd po
  obtain ⟨v, hv, ho⟩ := rl.rep i d0 hd0
  refine ⟨v, hv, ?_⟩
  have nb : ∀ {o : Out D}, o = .bad → ¬ PostX G W σ fr (RO G) Q o := fun e => by rw [e]; exact id
  cases d0 with
  | lst o xs0 =>
    cases o with
    | false => exact po.elim
    | true =>
      have ty : tyV X.K "list" v H := by
        rcases ho with ⟨_, a, vs, g, rfl, ha, _⟩ | ⟨⟨hz, _⟩, _⟩
        · exact .inl ⟨rfl, vs, SqL.of ha⟩
        · cases hz
      refine ⟨ty, ?_⟩
      have h2 := tX.then_ (RR := RL G) (f := mL fs) qk rl po (fun _ _ z => z)
      refine h2.mono fun ws H1 ⟨ds, env1, Fz1, own1, r1, nx, hws, po⟩ => ?_
      have po : PostX G W σ fr (RO G) Q (match env1[i]? with
        | some (some (.lst true xs)) => match op xs ds with
          | some (ys, z) => .ok z (env1.set i (some (.lst true ys)))
          | none => .bad
        | _ => .bad) := po
      split at po
      · rename_i xs he
        obtain ⟨v', hv', ho'⟩ := r1.rep i _ he
        have : v' = v := by rw [hv'] at hv; simpa using hv
        subst this
        rcases ho' with ⟨_, a, vs, g, rfl, ha, rg, ng, q⟩ | ⟨⟨hz, _⟩, _⟩
        · have hown : own1 i a := (q a).mpr (.inl rfl)
          cases hop : op xs ds with
          | none => rw [hop] at po; exact po.elim
          | some p =>
            obtain ⟨ys, z⟩ := p
            rw [hop] at po
            refine hp Fz1 H1 a xs ys ds z vs ws g Q ha rg hws ng (r1.nfz i a hown) hop fun us u g' rr hys hz hg hr dj => ?_
            refine po u _ Fz1 _ (r1.write he hown hv (f' := fun b => b = a ∨ g' b) (.inl ⟨rfl, a, us, g', rfl, upd_same, hys, fun z => ng (hg a z), fun b => Iff.rfl⟩) (fun b hb => (q b).mpr (hb.imp id (hg b))) (qk rfl)) ⟨rr, hz, fun b hb => ?_⟩
            have ob : own1 i b := (q b).mpr (.inr (hr b hb))
            refine ⟨?_, r1.nfz i b ob, r1.oF i b ob, qk rfl b⟩
            rintro j (⟨rfl, rfl | h⟩ | ⟨hj, h⟩)
            · exact ng (hr b hb)
            · exact dj b h hb
            · exact hj (r1.dis j i b h ob)
        · cases hz
      · exact po.elim
  | _ => exact po.elim

/-! ### append, extend, pop, insert .. -/
section
variable {G : Gx} {Fz : AS} {H : Hp}
theorem RepOL.app : ∀ {xs ys : List D} {vs ws : List V} {g g' : AS}, RepOL G Fz H xs vs g → RepOL G Fz H ys ws g' → Dsj g g' → RepOL G Fz H (xs ++ ys) (vs ++ ws) (fun b => g b ∨ g' b)
  | [], ys, _, ws, g, g', h, h', _ => by
    obtain ⟨rfl, n⟩ := h
    have e1 : (fun b => g b ∨ g' b) = g' := by
      funext b
      simp [n b]
    rw [e1]
    exact h'
  | x :: xs, ys, _, ws, g, g', ⟨v, r, g1, g2, e, h, t, dj, q⟩, h', d => by
    subst e
    refine ⟨v, r ++ ws, g1, fun b => g2 b ∨ g' b, rfl, h, RepOL.app t h' fun b x y => d b ((q b).mpr (.inr x)) y, fun b x y => y.elim (dj b x) fun y => d b ((q b).mpr (.inl x)) y, fun b => ?_⟩
    show (g b ∨ g' b) ↔ (g1 b ∨ g2 b ∨ g' b)
    rw [q b, or_assoc]
theorem RepOL.upd {a : Addr} {o : HO} {xs : List D} {vs : List V} {g : AS} (h : RepOL G Fz H xs vs g) (hm : Mut (H a)) (hg : ¬ g a) (hz : ¬ Fz a) : RepOL G Fz (upd H a o) xs vs g :=
  h.mono (fun _ z => z) fun b u e c => by
    have : b ≠ a := fun z => by
      subst z
      rcases c with (c | c) | c
      · exact hz c
      · exact hg c
      · rw [e] at hm; exact c hm
    rw [upd_ne this]
    exact e
theorem RepFL.upd {a : Addr} {o : HO} {xs : List D} {vs : List V} (h : RepFL G Fz H xs vs) (hm : Mut (H a)) (hz : ¬ Fz a) : RepFL G Fz (L2.upd H a o) xs vs :=
  h.mono (fun b u e c => by
    have : b ≠ a := fun z => by
      subst z
      rcases c with c | c
      · exact hz c
      · rw [e] at hm; exact c hm
    rw [upd_ne this]
    exact e) fun _ z => z
def oAppend : LMt := fun xs ds => match ds with
  | [d] => if xs.length < 16777216 then some (xs ++ [d], .non) else none
  | _ => none
theorem line9 : (16777216 : Nat) ≤ sizeLine := by rw [sizeLine_eq]; decide
theorem mtp_append : MtP G rAppend oAppend := by
  intro Fz H a xs ys ds z vs ws g Q ha rx rd hg hz hop hq
  unfold oAppend at hop
  split at hop
  · split at hop
    · rename_i d hl
      cases hop
      obtain ⟨v, r, rfl, hv, hr⟩ := rd
      obtain rfl : r = [] := hr
      have hm : Mut (H a) := by rw [ha]; trivial
      refine ⟨a, vs, v, rfl, rfl, ha, by rw [rx.length]; exact Nat.lt_of_lt_of_le hl line9, hq _ .non g nul ?_ ⟨rfl, fun _ z => z⟩ (fun _ z => z) (fun _ z => z.elim) fun _ _ z => z⟩
      have h1 := RepOL.app (rx.upd (o := .lst (vs ++ [v])) hm hg hz) (RepFL.o (show RepFL G Fz (upd H a (.lst (vs ++ [v]))) [d] [v] from RepFL.upd (show RepFL G Fz H [d] [v] from ⟨v, [], rfl, hv, rfl⟩) hm hz)) fun _ _ z => z
      have e1 : (fun b => g b ∨ nul b) = g := by
        funext b
        simp
      rw [e1] at h1
      exact h1
    · cases hop
  · cases hop
end
end Y

namespace Y
open PySem PySem.Spec PyProof.Rows L2

/-! ### a def's body -/
def finE : List Bool → Env → Env
  | [], _ => []
  | _ :: _, [] => []
  | m :: ms, o :: e => (if m = true then o else none) :: finE ms e
theorem finE_get : ∀ {ms : List Bool} {e : Env} {i : Nat} {d : D}, (finE ms e)[i]? = some (some d) → ms[i]? = some true ∧ e[i]? = some (some d)
  | [], _, _, _, h => by simp [finE] at h
  | _ :: _, [], _, _, h => by simp [finE] at h
  | m :: ms, o :: e, 0, d, h => by
    cases m with
    | true => simp [finE] at h; simp [h]
    | false => simp [finE] at h
  | m :: ms, o :: e, i + 1, d, h => by
    simp [finE] at h
    simpa using finE_get h
def endO (ms : List Bool) : SO → CO
  | .nx e => .ret .non (finE ms e)
  | .rt d e => .ret d (finE ms e)
  | .exc x e => .exc x (finE ms e)
  | _ => .bad
/-- a def, as a function on data: ms the parameters that may be changed, n the number of its names -/
def runB (ms : List Bool) (n : Nat) (b : SM) : Fn := fun ds => endO ms (b (ds.map some ++ List.replicate (n - ds.length) none))
abbrev skOf (ms : List Bool) (n : Nat) : Sk := ⟨fun i => (ms[i]?).getD false, n⟩
section
variable {G : Gx} {H : Hp}
theorem Rel.fin {fr : Fr} {vs : List V} {σ : Slots} {e : Env} {Fz : AS} {own : Nat → AS} {ms : List Bool} {n : Nat} (h0 : fr.n = vs.length)
    (r : Rel G { fr with L := fun i => if (ms[i]?).getD false = true then vs[i]? else none, n := n } σ H e Fz own) (hl : ∀ i, fr.L i = none) (hm : ms.length ≤ vs.length) :
    Rel G fr (vs.map some) H (finE ms e) Fz (fun i a => (∃ d, (finE ms e)[i]? = some (some d)) ∧ own i a) where
  rep := fun i d h => by
    obtain ⟨h1, h2⟩ := finE_get h
    obtain ⟨v, hv, ho⟩ := r.rep i d h2
    have hi : i < vs.length := Nat.lt_of_lt_of_le (List.getElem?_eq_some_iff.mp h1).1 hm
    obtain ⟨u, hu⟩ : ∃ u, vs[i]? = some u := ⟨vs[i], by simp [hi]⟩
    have hL := r.lk i u (by show (if (ms[i]?).getD false = true then vs[i]? else none) = some u; rw [h1]; simpa using hu)
    rw [hv] at hL
    have : v = u := by simpa using hL
    subst this
    refine ⟨v, by rw [List.getElem?_map, hu]; rfl, ?_⟩
    have e1 : (fun a => (∃ d, (finE ms e)[i]? = some (some d)) ∧ own i a) = own i := by
      funext a
      exact propext ⟨fun z => z.2, fun z => ⟨⟨d, h⟩, z⟩⟩
    rw [e1]
    exact ho
  non := fun i a h => h.1
  dis := fun i j a h h' => r.dis i j a h.2 h'.2
  nfz := fun i a h => r.nfz i a h.2
  fzd := r.fzd
  kF := r.kF
  kQ := r.kQ
  oF := fun i a h => r.oF i a h.2
  zz := r.zz
  zF := r.zF
  lk := fun i v h => by rw [hl i] at h; cases h
  len := by rw [h0]; simp
theorem body_ok {W : WX} {N : List Str} {ms : List Bool} {b : SM} {vs : List V} {Q : VK} {E : XK} {n : Nat} (hW : ∀ c d σ H, W c d σ H ↔ E c d H) (hm : ms.length ≤ n) (hn : n ≤ N.length) (h : spD G n (runB ms N.length b) vs H Q E) :
    tS G W (skOf ms N.length) b { nx := fun _ H' => Q .non H', rt := Q } (L2.start N vs) H := by
  obtain ⟨fr, Fz, own, ds, hv, hd, hq, hl, r, po⟩ := h
  have h0 : fr.n = vs.length := by rw [← r.len]; simp
  refine ⟨{ fr with L := fun i => if (ms[i]?).getD false = true then vs[i]? else none, n := N.length }, ds.map some ++ List.replicate (N.length - ds.length) none, Fz, own, ⟨fun i h => by
    show (if (ms[i]?).getD false = true then vs[i]? else none) = none
    have h : (ms[i]?).getD false = false := h
    rw [h]; rfl, rfl, hq⟩, ?_, ?_⟩
  · refine ⟨?_, ?_, r.dis, r.nfz, r.fzd, r.kF, r.kQ, r.oF, r.zz, r.zF, ?_, ?_⟩
    · intro i d h
      have hi : i < ds.length := by
        by_cases z : i < ds.length
        · exact z
        · rw [List.getElem?_append_right (by simp; omega)] at h
          have := List.mem_of_getElem? h
          have := List.eq_of_mem_replicate this
          cases this
      rw [List.getElem?_append_left (by simpa using hi)] at h
      obtain ⟨v, hv', ho⟩ := r.rep i d h
      refine ⟨v, ?_, ho⟩
      unfold L2.start
      rw [List.getElem?_append_left (by simp; omega)]
      exact hv'
    · intro i a h
      obtain ⟨d, hd'⟩ := r.non i a h
      refine ⟨d, ?_⟩
      have hi : i < (ds.map some).length := (List.getElem?_eq_some_iff.mp hd').1
      rw [List.getElem?_append_left hi]
      exact hd'
    · intro i v h
      have h : (if (ms[i]?).getD false = true then vs[i]? else none) = some v := h
      split at h
      · unfold L2.start
        have hi : i < vs.length := (List.getElem?_eq_some_iff.mp h).1
        rw [List.getElem?_append_left (by simpa using hi), List.getElem?_map, h]
        rfl
      · cases h
    · show (L2.start N vs).length = N.length
      unfold L2.start
      simp
      omega
  · have po : CPost G fr vs Q E (endO ms (b (ds.map some ++ List.replicate (N.length - ds.length) none))) := po
    cases eb : b (ds.map some ++ List.replicate (N.length - ds.length) none) with
    | nx e =>
      rw [eb] at po
      exact fun σ H' Fz' own' r' => po .non H' Fz' _ nul (r'.fin h0 hl (by omega)) ⟨rfl, fun _ z => z⟩ fun _ z => z.elim
    | rt d e =>
      rw [eb] at po
      exact fun v σ H' Fz' own' rr r' ho hf => po v H' Fz' _ rr (r'.fin h0 hl (by omega)) ho fun a ra => ⟨fun i z => (hf a ra).1 i z.2, (hf a ra).2.1, (hf a ra).2.2.1, (hf a ra).2.2.2⟩
    | exc x e =>
      rw [eb] at po
      exact fun cls dd σ H' Fz' own' r' ex => (hW cls dd σ H').mpr (po cls dd H' Fz' _ (r'.fin h0 hl (by omega)) ex)
    | bk e => rw [eb] at po; exact po.elim
    | ct e => rw [eb] at po; exact po.elim
    | bad => rw [eb] at po; exact po.elim
end

/-! ### the context of a body -/

/-- an own def that may be called: by its name, its arity, its function -/
def CallOk (P : Program) (w : World) (K : PySem.W.Frag) (mg : Str → Option Value) (base : Heap) (G : Gx) (k : Nat) (x : Str) (ms : List Bool) (F : Fn) : Prop :=
  ∃ f fd ps, FnOk P w K mg base (CX P w) k f fd ps (spD G ms.length F) ∧ mg x = some (.ref f) ∧ PySem.W.keepIn K (.ref f) = true ∧ Binds K fd ps []
/-- the names that a body may use besides its own: its defs (level k), its data, the built-ins that are not shadowed -/
structure Cf where
  fns : List (Str × List Bool × Fn)
  gls : List (Str × D)
  blt : List Str
structure Md (P : Program) (w : World) (K : PySem.W.Frag) (mg : Str → Option Value) (base : Heap) (G : Gx) (k : Nat) (cf : Cf) : Prop where
  hK : G.K = K
  fns : ∀ x ms F, cf.fns.lookup x = some (ms, F) → CallOk P w K mg base G k x ms F
  gls : ∀ x d, cf.gls.lookup x = some d → ∃ v u, mg x = some u ∧ RelV v u ∧ ∀ Fz H, RepF G Fz H d v
  blt : ∀ x, x ∈ cf.blt → mg x = none
/-- the context within a body: N its names, sc its scope -/
structure Ct (X : Cx) (G : Gx) (W : WX) (cf : Cf) (k : Nat) (N : List Str) (sc : Scope) : Prop where
  md : Md X.prog X.w X.K X.mg X.base G k cf
  hN : X.N = N
  nd : N.Nodup
  hsc : X.env.scope = sc
  fn : ∀ x, L2.Loc sc x → X.fn x = true ∨ sc.names.lookup x = some .local
  calm : X.calm = true
  pass : PassesOwn (model X.prog X.w) X.A X.env X.xe
  tk : Takes X W
  rm : Room k X.A
theorem fn_okD {P : Program} {w : World} {K : PySem.W.Frag} {mg : Str → Option Value} {base : Heap} {G : Gx} {x qual : Str} {params : Arguments} {body : List Stmt} {scope : Scope} {kws : List (Str × V)} {f : Addr} {fd : FuncData} {N ps : List Str} {k : Nat} {cf : Cf} {ms : List Bool} {b : SM}
    (F : FunD K x qual params body scope [] kws f fd) (S : FnScope N ps scope) (hm : ms.length ≤ ps.length) (M : Md P w K mg base G k cf)
    (hb : ∀ (X : Cx) (W : WX), Ct X G W cf k N scope → SSs X G W (skOf ms N.length) body b) : FnOk P w K mg base (CX P w) (k + 1) f fd ps (spD G ps.length (runB ms N.length b)) := by
  refine F.ok S (fun vs H Q E h => ?_) fun cdv A outer s H vs Q E hr h => ⟨tS G (fun cls d _ H => E cls d H) (skOf ms N.length) b, ?_, ?_⟩
  · obtain ⟨fr, Fz, own, ds, hv, _⟩ := h
    exact hv
  · refine hb _ _ ⟨M, rfl, S.nd, rfl, fun _ _ => .inl rfl, rfl, passes_of rfl, takes_of rfl rfl rfl rfl, hr⟩
  · have hl : ps.length ≤ N.length := by
      have := S.pre
      have := congrArg List.length this
      rw [List.length_take] at this
      omega
    exact body_ok (fun _ _ _ _ => Iff.rfl) hm hl h
end Y

namespace Y
open PySem PySem.Spec PyProof.Rows L2

/-! ### small things -/
def gd {α : Type} (c : Bool) (o : Option α) : Option α := match c with
  | true => o
  | false => none
theorem gd_s {α : Type} {c : Bool} {o : Option α} {a : α} (h : gd c o = some a) : c = true ∧ o = some a := by
  cases c with
  | true => exact ⟨rfl, h⟩
  | false => cases h
def ob {α β : Type} (o : Option α) (f : α → Option β) : Option β := match o with
  | some a => f a
  | none => none
theorem ob_s {α β : Type} {o : Option α} {f : α → Option β} {b : β} (h : ob o f = some b) : ∃ a, o = some a ∧ f a = some b := by
  cases o with
  | some a => exact ⟨a, rfl, h⟩
  | none => cases h
def ixOf : List Str → Str → Option Nat
  | [], _ => none
  | y :: r, x => match decide (y = x) with
    | true => some 0
    | false => match ixOf r x with
      | some i => some (i + 1)
      | none => none
theorem ixOf_ok : ∀ {N : List Str} {x : Str} {i : Nat}, ixOf N x = some i → N[i]? = some x
  | [], _, _, h => by cases h
  | y :: r, x, i, h => by
    have h : (match decide (y = x) with
      | true => some 0
      | false => match ixOf r x with
        | some i => some (i + 1)
        | none => none) = some i := h
    by_cases e : y = x
    · rw [decide_eq_true e] at h
      cases h
      simp [e]
    · rw [decide_eq_false e] at h
      have h : (match ixOf r x with
        | some i => some (i + 1)
        | none => none) = some i := h
      cases e2 : ixOf r x with
      | none => rw [e2] at h; cases h
      | some j =>
        rw [e2] at h
        cases h
        simpa using ixOf_ok e2
def look {α : Type} : List (Str × α) → Str → Option α
  | [], _ => none
  | (y, a) :: r, x => match decide (y = x) with
    | true => some a
    | false => look r x
theorem look_eq {α : Type} : ∀ (l : List (Str × α)) (x : Str), look l x = l.lookup x
  | [], _ => rfl
  | (y, a) :: r, x => by
    show (match decide (y = x) with
      | true => some a
      | false => look r x) = _
    by_cases e : y = x
    · rw [decide_eq_true e, e]
      simp [List.lookup]
    · rw [decide_eq_false e]
      have e2 : (x == y) = false := by simpa using fun z => e z.symm
      show look r x = _
      rw [look_eq r x]
      simp [List.lookup, e2]
def ndbg (x : Str) : Bool := !(x == ("__debug__" : Str)) && !(x == ("__classdict__" : Str))
theorem ndbg_1 {x : Str} (h : ndbg x = true) : (x == ("__debug__" : Str)) = false ∧ (x == ("__classdict__" : Str)) = false := by
  unfold ndbg at h
  simpa using h
def visK : Option NameKind → Bool
  | some .local => true
  | some .cell => true
  | some .free => true
  | _ => false
def locK : Option NameKind → Bool
  | some .local => true
  | some .cell => true
  | _ => false
def glK : Option NameKind → Bool
  | some .globalImplicit => true
  | _ => false
def noStar : Expr → Bool
  | .Starred _ _ => false
  | _ => true
theorem star_cons {e : Expr} {es : List Expr} {env : PySem.Env} (h : noStar e = true) : starEach (e :: es) env = (false, eval e env) :: starEach es env := by
  cases e <;> first | rfl | cases h
theorem star_plain {es : List Expr} {env : PySem.Env} {pos : Pos} (h : es.all noStar = true) : (backTo pos (starEach es env)).any (·.1) = false := by
  induction es with
  | nil => rfl
  | cons e es ih =>
    rw [List.all_cons, Bool.and_eq_true] at h
    rw [star_cons h.1]
    have := ih h.2
    unfold backTo at this ⊢
    simpa using this
def noSlice : Expr → Bool
  | .Slice .. => false
  | _ => true
theorem plainIx_of {e : Expr} (h : noSlice e = true) : PlainIx e := fun o i => by
  cases e <;> first | rfl | cases h
def noSet : Expr → Bool
  | .Set .. => false
  | _ => true
theorem noMark {op : CmpOp} {e : Expr} (h : noSet e = true) : behindInMarks op e = false := by
  cases e <;> first | rfl | cases h
def noComp : Expr → Bool
  | .ListComp .. => false
  | .SetComp .. => false
  | .DictComp .. => false
  | _ => true
theorem noSwap {e : Expr} {t : Option Expr} {l : Nat} {env : PySem.Env} (h : noComp e = true) : swapsWith e t l env = pure false := by
  cases e <;> first | rfl | cases h
def valT : Expr → Bool
  | .UnaryOp .Not _ _ => false
  | .BoolOp .. => false
  | .IfExp .. => false
  | .Compare .. => false
  | _ => true
theorem valT_ok {e : Expr} {env : PySem.Env} (h : valT e = true) : ∀ whole, isTrue e env whole = (do let v ← whole; standAt e.pos; holding [v] (truthy v)) := fun whole => by
  cases e with
  | UnaryOp op x p => cases op <;> first | rfl | cases h
  | BoolOp => cases h
  | IfExp => cases h
  | Compare => cases h
  | _ => rfl
def noFold : Expr → Bool
  | .Set .. => false
  | _ => true
theorem noFold_ok {e : Expr} {env : PySem.Env} (h : noFold e = true) : ∀ x, foldedSetIterable e env x = pure x := fun x => by
  cases e <;> first | rfl | cases h
def isTup : Expr → Bool
  | .Tuple .. => true
  | .List .. => true
  | _ => false
/-- no call within -/
def calm0 : Nat → Expr → Bool
  | 0, _ => false
  | n + 1, e => match e with
    | .Name .. => true
    | .Constant .. => true
    | .BinOp a _ b _ => calm0 n a && calm0 n b
    | .UnaryOp _ a _ => calm0 n a
    | .Compare a _ bs _ => calm0 n a && bs.all (calm0 n)
    | .BoolOp _ es _ => es.all (calm0 n)
    | .Tuple es _ _ => es.all (calm0 n)
    | .List es _ => es.all (calm0 n)
    | .Subscript a b _ => calm0 n a && calm0 n b
    | .Attribute a _ _ => calm0 n a
    | _ => false

/-! ### tables -/
def binP : Operator → Option (D → D → Option D)
  | .Add => some pAdd
  | .Sub => some pSub
  | .Mult => some pMul
  | .FloorDiv => some pDiv
  | .Mod => some pMod
  | _ => none
def inpP : Operator → Option (D → D → Option D)
  | .Add => some (pAddI)
  | .Sub => some pSub
  | _ => none
where
  pAddI : D → D → Option D := fun x y => match x, y with
    | .int i, .int j => some (.int (i + j))
    | _, _ => none
def cmpP : CmpOp → Option (D → D → Option D)
  | .Eq => some (pEq false)
  | .NotEq => some (pEq true)
  | .Lt => some pLt
  | .LtE => some pLe
  | .Gt => some pGt
  | .GtE => some pGe
  | .Is => some (pIs false)
  | .IsNot => some (pIs true)
  | _ => none
section
variable {X : Cx} {G : Gx}
theorem binP_ok (hK : G.K = X.K) {op : Operator} {p : D → D → Option D} (h : binP op = some p) : ∃ r, OpR X (binaryOp op) r ∧ Pr2 G r p := by
  cases op <;> first | cases h | skip
  · exact ⟨_, op_addA, hK ▸ pr_add⟩
  · exact ⟨_, op_sub, pr_sub⟩
  · exact ⟨_, op_mul, pr_mul⟩
  · exact ⟨_, op_mod, pr_mod⟩
  · exact ⟨_, op_fdivW, pr_div⟩
theorem inpP_ok {op : Operator} {p : D → D → Option D} (h : inpP op = some p) : ∃ r, OpR X (inplaceOp op) r ∧ Pr2 G r p := by
  cases op <;> first | cases h | skip
  · refine ⟨_, iop_add, fun Fz H x y d v w f g Q hx hy hp hq => ?_⟩
    unfold inpP.pAddI at hp
    split at hp
    · cases hp
      obtain ⟨rfl, _⟩ := hx
      obtain ⟨rfl, _⟩ := hy
      exact ⟨_, _, rfl, rfl, gives_here hq rfl⟩
    · cases hp
  · exact ⟨_, iop_sub, pr_sub⟩
theorem cmpP_ok (hK : G.K = X.K) (hu : X.A.units + 64 < cLine) {op : CmpOp} {p : D → D → Option D} (h : cmpP op = some p) : ∃ r, OpR X (compareOp op) r ∧ Pr2 G r p := by
  cases op <;> first | cases h | skip
  · exact ⟨_, op_eqP hu, hK ▸ pr_eq⟩
  · exact ⟨_, op_neP hu, hK ▸ pr_eq⟩
  · exact ⟨_, op_lt, pr_cmp⟩
  · exact ⟨_, op_le, pr_cmp⟩
  · exact ⟨_, op_gt, pr_cmp⟩
  · exact ⟨_, op_ge, pr_cmp⟩
  · exact ⟨_, op_isA, pr_is⟩
  · exact ⟨_, op_isNotA, pr_is⟩
end

/-! ### the denotation -/
/-- the statics of a body -/
structure Bd where
  cf : Cf
  N : List Str
  sc : Scope
  ms : List Bool
abbrev DE := Bool → Expr → Option (M D)
abbrev DB := Bool → Expr → Option (M Bool)
section
variable (c : Bd)
/-- a name of the body's own -/
def nmD (x : Str) : Option Nat := gd (visK (look c.sc.names x) && ndbg x) (ixOf c.N x)
/-- a name to be stored -/
def stD (x : Str) : Option Nat := gd (locK (look c.sc.names x)) (ob (ixOf c.N x) fun i => gd (!(skOf c.ms c.N.length).lk i) (some i))
/-- a global name -/
def glD (x : Str) : Bool := glK (look c.sc.names x) && ndbg x && !(decide (x = "__name__"))
def nameD (x : Str) : Option (M D) := match nmD c x with
  | some i => some (eVar i)
  | none => gd (glD c x) (ob (look c.cf.gls x) fun d => some (mret d))
def bltD (x : Str) : Bool := glD c x && c.cf.blt.any fun y => decide (y = x)
def conD : Expr → Option D
  | .Constant k _ _ => (match k with
    | .int i => some (.int i)
    | .bool b => some (.bl b)
    | .none => some .non
    | .str s => some (.str s.cps.toList)
    | _ => none)
  | _ => none
/-- a frozen value -/
def frD (R : DE) (q : Bool) (e : Expr) : Option (M D) := match conD e with
  | some d => some (mret d)
  | none => ob (R q e) fun f => some (fz f)
def viewD (R : DE) (q : Bool) (e : Expr) : Option (M D) := match e with
  | .Name x _ => (match nmD c x with
    | some i => some (vVar i)
    | none => frD R q e)
  | _ => frD R q e
/-- two operands: the first looked at where the second is quiet -/
def twoD (R : DE) (q : Bool) (a b : Expr) (p : D → D → Option D) : Option (M D) := match calm0 20 b with
  | true => ob (viewD c R q a) fun fa => ob (viewD c R true b) fun fb => some (e2 p fa fb)
  | false => ob (frD R q a) fun fa => ob (viewD c R q b) fun fb => some (e2 p fa fb)
def argsD (R : DE) (q : Bool) : List Expr → Option (List (M D))
  | [] => some []
  | e :: es => gd (noStar e) (ob (frD R q e) fun f => ob (argsD R q es) fun fs => some (f :: fs))
def lendD (R : DE) (q : Bool) : List Bool → List Expr → Option (List Arg)
  | [], [] => some []
  | m :: ms, e :: es => gd (noStar e) (ob (match m, e with
    | true, .Name x _ => ob (nmD c x) fun i => some (.pl i)
    | _, _ => ob (frD R q e) fun f => some (.v f)) fun a => ob (lendD R q ms es) fun as => some (a :: as))
  | _, _ => none
def tyOf (x : Str) : Option Nat := if x = "int" then some 0 else if x = "bool" then some 1 else if x = "str" then some 2 else if x = "list" then some 3 else if x = "tuple" then some 4 else none
inductive B1 where
  | int | len
def b1D (x : Str) : Option B1 := if x = "int" then some .int else if x = "len" then some .len else none
inductive B2 where
  | min | max
def b2D (x : Str) : Option B2 := if x = "min" then some .min else if x = "max" then some .max else none
def B1.p : B1 → D → Option D
  | .int => pInt
  | .len => pLen
def B2.p : B2 → D → D → Option D
  | .min => pMin
  | .max => pMax
def callD (R : DE) (q : Bool) (x : Str) (es : List Expr) : Option (M D) := match look c.cf.fns x with
  | some (ms, F) => gd (glD c x && !es.isEmpty) (match ms.any id with
    | true => ob (lendD c R q ms es) fun as => some (callM q F as)
    | false => gd (decide (es.length = ms.length)) (ob (argsD R q es) fun fs => some (callP F fs)))
  | none => gd (bltD c x) (match es with
    | [a] => gd (noStar a) (ob (b1D x) fun b => ob (viewD c R q a) fun f => some (e1 b.p f))
    | [a, b] => (match decide (x = "isinstance"), b with
      | true, .Name z _ => gd (bltD c z && noStar a) (ob (tyOf z) fun t => ob (viewD c R q a) fun f => some (e1 (pIsi t) f))
      | _, _ => gd (noStar a && noStar b) (ob (b2D x) fun o => ob (frD R q a) fun fa => ob (viewD c R q b) fun fb => some (e2 o.p fa fb)))
    | _ => none)
inductive LM where
  | append
def lmD (x : Str) : Option LM := if x = "append" then some .append else none
def LM.op : LM → LMt
  | .append => oAppend
def methD (R : DE) (q : Bool) (o : Expr) (m : Str) (es : List Expr) (ok : Bool) : Option (M D) := match o, q with
  | .Name x _, false => gd (ok && es.all noStar && !es.isEmpty && decide (es.length ≤ 20)) (ob (nmD c x) fun i => ob (lmD m) fun l => ob (argsD R false es) fun fs => some (eMut l.op i fs))
  | _, _ => none
def chainM (p p' : D → D → Option D) (a b z : M D) : M D := bnd a fun x => bnd b fun y => bnd (mopt (p x y)) fun k => match k with
  | .bl true => bnd z fun w => mopt (p' y w)
  | .bl false => mret (.bl false)
  | _ => mbad
def bopD (op : BoolOp) (f g : M D) : M D := match op with
  | .And => eAndM f g
  | .Or => eOrM f g
def stepO (R : DE) (B : DB) (q : Bool) : Expr → Option (M D)
  | .Name x _ => nameD c x
  | .Constant k _ _ => (match k with
    | .int i => some (mret (.int i))
    | .bool b => some (mret (.bl b))
    | .none => some (mret .non)
    | .str s => some (mret (.str s.cps.toList))
    | _ => none)
  | .BinOp a op b _ => ob (binP op) fun p => twoD c R q a b p
  | .UnaryOp .USub a _ => ob (viewD c R q a) fun f => some (e1 pNeg f)
  | .UnaryOp .Not a _ => ob (R q a) fun f => some (eNotM f)
  | .Compare a [op] [b] _ => gd (noSet b) (ob (cmpP op) fun p => twoD c R q a b p)
  | .Compare a [op, op'] [b, z] _ => gd (noSet z) (ob (cmpP op) fun p => ob (cmpP op') fun p' => ob (frD R q a) fun fa => ob (frD R q b) fun fb => ob (viewD c R q z) fun fz' => some (chainM p p' fa fb fz'))
  | .BoolOp _ [a] _ => R q a
  | .BoolOp op (a :: b :: rest) pos => ob (R q a) fun f => ob (R q (.BoolOp op (b :: rest) pos)) fun g => some (bopD op f g)
  | .IfExp t a b _ => ob (B q t) fun ft => ob (R q a) fun fa => ob (R q b) fun fb => some (bnd ft fun k => if k = true then fa else fb)
  | .Tuple es _ _ => ob (argsD R q es) fun fs => some (eTup fs)
  | .List es _ => ob (argsD R q es) fun fs => some (eLst fs)
  | .Subscript a b _ => gd (noSlice b) (twoD c R q a b pIx)
  | .Call (.Name x _) es [] _ => callD c R q x es
  | .Call (.Attribute o m apos) es [] cpos => methD c R q o m es (apos.endLine == cpos.line)
  | _ => none
def wholeD (B : DB) (q : Bool) (op : BoolOp) : List Expr → Option (M Bool)
  | [] => none
  | [a] => B q a
  | a :: b :: rest => ob (B q a) fun f => ob (wholeD B q op (b :: rest)) fun g => some (match op with
    | .And => tAndM f g
    | .Or => tOrM f g)
def stepB (R : DE) (B : DB) (q : Bool) : Expr → Option (M Bool)
  | .UnaryOp .Not a _ => ob (B q a) fun f => some (tNotM f)
  | .BoolOp op es _ => wholeD B q op es
  | .Compare a [op] [b] _ => gd (noSet b) (ob (cmpP op) fun p => ob (twoD c R q a b p) fun f => some (tBl f))
  | .Compare a [op, op'] [b, z] _ => gd (noSet z) (ob (cmpP op) fun p => ob (cmpP op') fun p' => ob (frD R q a) fun fa => ob (frD R q b) fun fb => ob (viewD c R q z) fun fz' => some (tBl (chainM p p' fa fb fz')))
  | .Compare .. => none
  | .IfExp .. => none
  | e => ob (viewD c R q e) fun f => some (tTru f)
def denE : Nat → Bool → Expr → Option (M D) × Option (M Bool)
  | 0, _, _ => (none, none)
  | n + 1, q, e => (stepO c (fun q e => (denE n q e).1) (fun q e => (denE n q e).2) q e, stepB c (fun q e => (denE n q e).1) (fun q e => (denE n q e).2) q e)
end

/-! ### soundness -/
section
variable {X : Cx} {G : Gx} {W : WX} {k : Nat} {c : Bd} (ct : Ct X G W c.cf k c.N c.sc)
include ct
theorem vis_ok {x : Str} (h : visK (look c.sc.names x) = true) : Vis X.env.scope x := by
  unfold Vis
  rw [ct.hsc, ← look_eq]
  cases e : look c.sc.names x with
  | none => rw [e] at h; cases h
  | some v =>
    rw [e] at h
    cases v with
    | «local» => exact .inl rfl
    | cell => exact .inr (.inl rfl)
    | free => exact .inr (.inr rfl)
    | globalExplicit => cases h
    | globalImplicit => cases h
theorem loc_ok {x : Str} (h : locK (look c.sc.names x) = true) : L2.Loc X.env.scope x := by
  unfold L2.Loc
  rw [ct.hsc, ← look_eq]
  cases e : look c.sc.names x with
  | none => rw [e] at h; cases h
  | some v =>
    rw [e] at h
    cases v with
    | «local» => exact .inl rfl
    | cell => exact .inr rfl
    | free => cases h
    | globalExplicit => cases h
    | globalImplicit => cases h
theorem gl_ok {x : Str} (h : glK (look c.sc.names x) = true) : Gl X x := by
  unfold Gl PySem.Env.kindOf
  rw [ct.hsc, ← look_eq]
  cases e : look c.sc.names x with
  | none => rw [e] at h; cases h
  | some v =>
    rw [e] at h
    cases v with
    | «local» => cases h
    | cell => cases h
    | free => cases h
    | globalExplicit => cases h
    | globalImplicit => rfl
theorem nm_ok {x : Str} {i : Nat} (h : nmD c x = some i) : X.N[i]? = some x ∧ Vis X.env.scope x ∧ (x == ("__debug__" : Str)) = false ∧ (x == ("__classdict__" : Str)) = false := by
  obtain ⟨h1, h2⟩ := gd_s h
  rw [Bool.and_eq_true] at h1
  exact ⟨by rw [ct.hN]; exact ixOf_ok h2, vis_ok ct h1.1, ndbg_1 h1.2⟩
theorem st_ok {x : Str} {i : Nat} (h : stD c x = some i) : X.N.Nodup ∧ X.N[i]? = some x ∧ L2.Loc X.env.scope x ∧ (X.fn x = true ∨ X.env.scope.names.lookup x = some .local) ∧ (skOf c.ms c.N.length).lk i = false ∧ i < (skOf c.ms c.N.length).n := by
  obtain ⟨h1, h2⟩ := gd_s h
  obtain ⟨j, h3, h4⟩ := ob_s h2
  obtain ⟨h5, h6⟩ := gd_s h4
  cases h6
  have e := ixOf_ok h3
  have l := loc_ok ct h1
  refine ⟨by rw [ct.hN]; exact ct.nd, by rw [ct.hN]; exact e, l, ?_, by simpa using h5, (List.getElem?_eq_some_iff.mp e).1⟩
  rw [ct.hsc] at l ⊢
  exact ct.fn x l
theorem glD_ok {x : Str} (h : glD c x = true) : Gl X x ∧ (x == ("__debug__" : Str)) = false ∧ x ≠ "__name__" := by
  unfold glD at h
  rw [Bool.and_eq_true, Bool.and_eq_true] at h
  exact ⟨gl_ok ct h.1.1, (ndbg_1 h.1.2).1, by simpa using h.2⟩
theorem blt_ok {x : Str} (h : bltD c x = true) : Gl X x ∧ (x == ("__debug__" : Str)) = false ∧ x ≠ "__name__" ∧ X.mg x = none := by
  unfold bltD at h
  rw [Bool.and_eq_true] at h
  obtain ⟨g1, g2, g3⟩ := glD_ok ct h.1
  refine ⟨g1, g2, g3, ?_⟩
  obtain ⟨y, hy, e⟩ := List.any_eq_true.mp h.2
  have e : y = x := of_decide_eq_true e
  subst e
  exact ct.md.blt y hy
theorem name_ok {x : Str} {q : Bool} {f : M D} {pos : Pos} (h : nameD c x = some f) : EO X G W q (.Name x pos) f := by
  unfold nameD at h
  cases e : nmD c x with
  | some i =>
    rw [e] at h
    cases h
    obtain ⟨a1, a2, a3, a4⟩ := nm_ok ct e
    exact eo_var a1 a2 a3 a4
  | none =>
    rw [e] at h
    obtain ⟨h1, h2⟩ := gd_s h
    obtain ⟨d, h3, h4⟩ := ob_s h2
    cases h4
    obtain ⟨g1, g2, g3⟩ := glD_ok ct h1
    rw [look_eq] at h3
    obtain ⟨v, u, hm, hr, hf⟩ := ct.md.gls x d h3
    exact PE.wk (pe_glob g1 hm hr g2) fun _ _ _ h => tX.con hf h
variable {R : DE} {B : DB} (hR : ∀ q e f, R q e = some f → EO X G W q e f) (hB : ∀ q e f, B q e = some f → EB X G W q e f)
include hR
theorem fr_ok {q : Bool} {e : Expr} {f : M D} (h : frD R q e = some f) : EF X G W q e f := by
  unfold frD at h
  split at h
  · rename_i d hd
    cases h
    unfold conD at hd
    split at hd
    · split at hd
      · cases hd; exact PE.wk pe_int fun _ _ _ h => tX.conF (d := .int _) (v := .int _) (fun _ _ => rfl) h
      · cases hd; exact PE.wk pe_bl fun _ _ _ h => tX.conF (d := .bl _) (v := .bl _) (fun _ _ => rfl) h
      · cases hd; exact PE.wk pe_non fun _ _ _ h => tX.conF (d := .non) (v := .non) (fun _ _ => rfl) h
      · rename_i x
        cases hd
        refine PE.wk pe_str fun _ _ _ h => tX.conF (v := .str x) (fun _ _ => ?_) h
        show V.str x = V.str (mkS x.cps.toList)
        unfold mkS
        simp
      · cases hd
    · cases hd
  · obtain ⟨g, h1, h2⟩ := ob_s h
    cases h2
    exact (hR _ _ _ h1).f
theorem view_ok {q : Bool} {e : Expr} {f : M D} (h : viewD c R q e = some f) : EV X G W q e f := by
  unfold viewD at h
  split at h
  · split at h
    · rename_i x pos i e
      cases h
      obtain ⟨a1, a2, a3, a4⟩ := nm_ok ct e
      exact ev_var a1 a2 a3 a4
    · exact (fr_ok ct hR h).v
  · exact (fr_ok ct hR h).v
theorem two_ok {q : Bool} {a b : Expr} {p : D → D → Option D} {f : M D} (h : twoD c R q a b p = some f) :
    (∃ fa fb, f = e2 p fa fb ∧ EV X G W q a fa ∧ EV X G W true b fb) ∨ ∃ fa fb, f = e2 p fa fb ∧ EF X G W q a fa ∧ EV X G W q b fb := by
  unfold twoD at h
  split at h
  · obtain ⟨fa, h1, h⟩ := ob_s h
    obtain ⟨fb, h2, h⟩ := ob_s h
    cases h
    exact .inl ⟨fa, fb, rfl, view_ok ct hR h1, view_ok ct hR h2⟩
  · obtain ⟨fa, h1, h⟩ := ob_s h
    obtain ⟨fb, h2, h⟩ := ob_s h
    cases h
    exact .inr ⟨fa, fb, rfl, fr_ok ct hR h1, view_ok ct hR h2⟩
theorem args_ok {q : Bool} : ∀ {es : List Expr} {fs : List (M D)}, argsD R q es = some fs → es.all noStar = true ∧ EL X G W q es (mL fs)
  | [], _, h => by cases h; exact ⟨rfl, el_nil⟩
  | e :: es, fs, h => by
    obtain ⟨h0, h⟩ := gd_s h
    obtain ⟨f, h1, h⟩ := ob_s h
    obtain ⟨gs, h2, h⟩ := ob_s h
    cases h
    obtain ⟨i1, i2⟩ := args_ok h2
    exact ⟨by rw [List.all_cons, h0, i1]; rfl, el_cons (fr_ok ct hR h1) i2 (star_cons h0)⟩
omit ct hR in
theorem args_len {q : Bool} : ∀ {es : List Expr} {fs : List (M D)}, argsD R q es = some fs → fs.length = es.length
  | [], _, h => by cases h; rfl
  | e :: es, fs, h => by
    obtain ⟨h0, h⟩ := gd_s h
    obtain ⟨f, h1, h⟩ := ob_s h
    obtain ⟨gs, h2, h⟩ := ob_s h
    cases h
    simp [args_len h2]
theorem lend_ok {q : Bool} : ∀ {ms : List Bool} {es : List Expr} {as : List Arg}, lendD c R q ms es = some as → es.all noStar = true ∧ as.length = ms.length ∧ EA X G W q es as
  | [], [], _, h => by cases h; exact ⟨rfl, rfl, ea_nil⟩
  | [], _ :: _, _, h => by cases h
  | _ :: _, [], _, h => by cases h
  | m :: ms, e :: es, as, h => by
    obtain ⟨h0, h⟩ := gd_s h
    obtain ⟨a, h1, h⟩ := ob_s h
    obtain ⟨as', h2, h⟩ := ob_s h
    cases h
    obtain ⟨i1, i2, i3⟩ := lend_ok h2
    refine ⟨by rw [List.all_cons, h0, i1]; rfl, by simp [i2], ?_⟩
    split at h1
    · obtain ⟨i, h3, h4⟩ := ob_s h1
      cases h4
      obtain ⟨a1, a2, a3, a4⟩ := nm_ok ct h3
      exact ea_pl a1 a2 a3 a4 i3 (star_cons h0)
    · obtain ⟨f, h3, h4⟩ := ob_s h1
      cases h4
      exact ea_v (fr_ok ct hR h3) i3 (star_cons h0)
theorem tyOf_ok {z : Str} {t : Nat} (h : tyOf z = some t) : t < 6 ∧ bootBuiltins z = some (.type (tyN t)) := by
  unfold tyOf at h
  split at h
  · rename_i e; cases h; subst e; exact ⟨by decide, by decide +kernel⟩
  · split at h
    · rename_i e; cases h; subst e; exact ⟨by decide, by decide +kernel⟩
    · split at h
      · rename_i e; cases h; subst e; exact ⟨by decide, by decide +kernel⟩
      · split at h
        · rename_i e; cases h; subst e; exact ⟨by decide, by decide +kernel⟩
        · split at h
          · rename_i e; cases h; subst e; exact ⟨by decide, by decide +kernel⟩
          · cases h
end
theorem eo_bop {X : Cx} {G : Gx} {W : WX} {q : Bool} {op : BoolOp} {a b : Expr} {rest : List Expr} {pos : Pos} {f g : M D} (h1 : EO X G W q a f) (h2 : EO X G W q (.BoolOp op (b :: rest) pos) g) : EO X G W q (.BoolOp op (a :: b :: rest) pos) (bopD op f g) := by
  cases op with
  | And => exact eo_and h1 h2
  | Or => exact eo_or h1 h2
theorem tX.chain {G : Gx} {W : WX} {q : Bool} {σ : Slots} {H : Hp} {p p' : D → D → Option D} {r r' : R2} (hp : Pr2 G r p) (hp' : Pr2 G r' p') {a b z : M D} {Q : VK} (h : tX G W (RO G) q (chainM p p' a b z) σ H Q) :
    tChain r r' (tX G W (RF G) q a) (tX G W (RF G) q b) (tX G W (RV G) q z) σ H Q := by
  have h1 : tX G W (RF G) q a σ H _ := h.first
  refine h1.mono fun v H1 ⟨fr, d, env, Fz, own, qk, rl, hv, po⟩ => ?_
  have h2 := tX.then_ (RR := RF G) qk rl po (fun _ _ z => z)
  refine h2.mono fun w H2 ⟨d2, env2, Fz2, own2, r2, nx, hw, po2⟩ => ?_
  have po2 : PostX G W σ fr (RO G) Q (bnd (mopt (p d d2)) (fun k => match k with
    | .bl true => bnd z fun w => mopt (p' d2 w)
    | .bl false => mret (.bl false)
    | _ => mbad) env2) := po2
  cases hz : p d d2 with
  | none => rw [hz] at po2; exact po2.elim
  | some zd =>
    rw [hz] at po2
    refine hp Fz2 H2 d d2 zd v w nul nul _ (nx.repF rl hv).o (RepF.o hw) hz fun u H3 f ex hu hf => ?_
    have r3 := r2.ext ex
    cases zd with
    | bl k =>
      refine ⟨k, hu.1, ?_⟩
      cases k with
      | true =>
        have po3 : PostX G W σ fr (RO G) Q (bnd z (fun w => mopt (p' d2 w)) env2) := po2
        have h4 := tX.then_ (RR := RV G) qk r3 po3 (fun _ _ z => z)
        refine h4.mono fun w' H4 ⟨d4, env4, Fz4, own4, r4, nx4, ⟨g4, hw4⟩, po4⟩ => ?_
        obtain ⟨zz, hzz, po5⟩ := opt_prim po4
        exact hp' Fz4 H4 d2 d4 zz w w' nul g4 Q (nx4.repF r3 (RepF.mono (ex.kp _) (fun _ z => z) hw)).o hw4 hzz (fin_prim r4 po5)
      | false => exact po2 (.bl false) H3 Fz2 own2 r3 ⟨nul, ⟨rfl, fun _ z => z⟩, fun _ z => z.elim⟩
    | _ => exact po2.elim
theorem tX.ifE {G : Gx} {W : WX} {q : Bool} {σ : Slots} {H : Hp} {t : M Bool} {a b : M D} {Q : VK} (h : tX G W (RO G) q (bnd t fun k => if k = true then a else b) σ H Q) : tIf (tX G W RB q t) (tX G W (RO G) q a) (tX G W (RO G) q b) σ H Q := by
  have h1 : tX G W RB q t σ H _ := h.first
  refine h1.mono fun v H1 ⟨fr, d, env, Fz, own, qk, rl, hv, po⟩ => ?_
  cases (show d = v from hv)
  cases v with
  | true => exact ⟨fr, env, Fz, own, qk, rl, po⟩
  | false => exact ⟨fr, env, Fz, own, qk, rl, po⟩
section
variable {X : Cx} {G : Gx} {W : WX} {k : Nat} {c : Bd} (ct : Ct X G W c.cf k c.N c.sc)
variable {R : DE} {B : DB} (hR : ∀ q e f, R q e = some f → EO X G W q e f) (hB : ∀ q e f, B q e = some f → EB X G W q e f)
include ct hR
theorem bools2 {a b : Bool} (h : (a && b) = true) : a = true ∧ b = true := Bool.and_eq_true_iff.mp h
theorem call_ok {q : Bool} {x : Str} {es : List Expr} {f : M D} {pos p : Pos} (h : callD c R q x es = some f) : EO X G W q (.Call (.Name x p) es [] pos) f := by
  unfold callD at h
  split at h
  · rename_i ms F hl
    obtain ⟨h0, h⟩ := gd_s h
    obtain ⟨h0, he⟩ := Bool.and_eq_true_iff.mp h0
    rw [look_eq] at hl
    obtain ⟨fa, fd, ps, Fk, hm, hk, hb⟩ := ct.md.fns x ms F hl
    obtain ⟨g1, g2, g3⟩ := glD_ok ct h0
    split at h
    · obtain ⟨as, h1, h⟩ := ob_s h
      cases h
      obtain ⟨i1, i2, i3⟩ := lend_ok ct hR h1
      cases es with
      | nil => cases he
      | cons e es =>
        rw [List.all_cons, Bool.and_eq_true] at i1
        exact eo_call Fk i2 ct.rm g1 hm hk hb ct.tk i3 g2 (star_cons i1.1) (star_plain i1.2)
    · obtain ⟨hle, h⟩ := gd_s h
      have hle : es.length = ms.length := of_decide_eq_true hle
      obtain ⟨fs, h1, h⟩ := ob_s h
      cases h
      obtain ⟨i1, i2⟩ := args_ok ct hR h1
      have i3 := args_len h1
      cases es with
      | nil => cases he
      | cons e es =>
        rw [List.all_cons, Bool.and_eq_true] at i1
        exact eo_callP Fk (i3.trans hle) ct.rm g1 hm hk hb ct.tk i2 g2 (star_cons i1.1) (star_plain i1.2)
  · obtain ⟨h0, h⟩ := gd_s h
    obtain ⟨g1, g2, g3, g4⟩ := blt_ok ct h0
    split at h
    · rename_i a _
      obtain ⟨hs, h⟩ := gd_s h
      obtain ⟨b, h1, h⟩ := ob_s h
      obtain ⟨fa, h2, h⟩ := ob_s h
      cases h
      have st : starEach [a] X.env = [(false, eval a X.env)] := star_cons hs
      unfold b1D at h1
      split at h1
      · rename_i e
        cases h1
        subst e
        exact eo_callT1 call_int1 pr_int g1 g4 (by decide +kernel) g3 g2 st (view_ok ct hR h2)
      · split at h1
        · rename_i e
          cases h1
          subst e
          exact eo_callB1 call_len (ct.md.hK ▸ pr_len) g1 g4 (by decide +kernel) g3 g2 st (view_ok ct hR h2)
        · cases h1
    · rename_i a b
      split at h
      · rename_i z pz hx
        have hx : x = "isinstance" := of_decide_eq_true hx
        subst hx
        obtain ⟨h1, h⟩ := gd_s h
        obtain ⟨h1, hs⟩ := Bool.and_eq_true_iff.mp h1
        obtain ⟨t, h2, h⟩ := ob_s h
        obtain ⟨fa, h3, h⟩ := ob_s h
        cases h
        obtain ⟨z1, z2, z3, z4⟩ := blt_ok ct h1
        obtain ⟨t1, t2⟩ := tyOf_ok ct hR h2
        exact eo_isi t1 ct.md.hK g1 g4 z1 z4 t2 z3 z2 (star_cons hs) (view_ok ct hR h3)
      · obtain ⟨hs, h⟩ := gd_s h
        obtain ⟨hs, hs2⟩ := Bool.and_eq_true_iff.mp hs
        obtain ⟨o, h1, h⟩ := ob_s h
        obtain ⟨fa, h2, h⟩ := ob_s h
        obtain ⟨fb, h3, h⟩ := ob_s h
        cases h
        unfold b2D at h1
        split at h1
        · rename_i e
          cases h1
          subst e
          exact eo_callB2 (call_min2 ct.calm) pr_min g1 g4 (by decide +kernel) g3 g2 (star_cons hs) (star_cons hs2) (fr_ok ct hR h2) (view_ok ct hR h3)
        · split at h1
          · rename_i e
            cases h1
            subst e
            exact eo_callB2 (call_max2 ct.calm) pr_max g1 g4 (by decide +kernel) g3 g2 (star_cons hs) (star_cons hs2) (fr_ok ct hR h2) (view_ok ct hR h3)
          · cases h1
    · cases h
omit ct hR in
theorem star_all {es : List Expr} {env : PySem.Env} {pos : Pos} (h : es.all noStar = true) : (backTo pos (starEach es env)).all (fun x => !x.1) = true := by
  induction es with
  | nil => rfl
  | cons e es ih =>
    rw [List.all_cons, Bool.and_eq_true] at h
    rw [star_cons h.1]
    have := ih h.2
    unfold backTo at this ⊢
    simpa using this
omit ct hR in
theorem lm_ok {m : Str} {l : LM} (h : lmD m = some l) : ∃ id r, Slot "list" m id ∧ typeOf (.builtin id) = pure (.type "method_descriptor") ∧ MtR X id r ∧ MtP G r l.op := by
  unfold lmD at h
  split at h
  · rename_i e
    cases h
    subst e
    exact ⟨_, _, F.slot_list_append, type_list_append, mt_append, mtp_append⟩
  · cases h
theorem meth_ok {q b : Bool} {o : Expr} {m : Str} {es : List Expr} {f : M D} {apos cpos : Pos} (h : methD c R q o m es b = some f) (hb : b = (apos.endLine == cpos.line)) : EO X G W q (.Call (.Attribute o m apos) es [] cpos) f := by
  unfold methD at h
  split at h
  · rename_i x px
    obtain ⟨k0, h⟩ := gd_s h
    obtain ⟨k1, hn⟩ := Bool.and_eq_true_iff.mp k0
    obtain ⟨k2, he⟩ := Bool.and_eq_true_iff.mp k1
    obtain ⟨h0, hst⟩ := Bool.and_eq_true_iff.mp k2
    obtain ⟨i, h1, h⟩ := ob_s h
    obtain ⟨l, h2, h⟩ := ob_s h
    obtain ⟨fs, h3, h⟩ := ob_s h
    cases h
    obtain ⟨a1, a2, a3, a4⟩ := nm_ok ct h1
    obtain ⟨id, r, s1, s2, s3, s4⟩ := lm_ok (X := X) (G := G) h2
    obtain ⟨_, b2⟩ := args_ok ct hR h3
    have hn : es.length ≤ 20 := of_decide_eq_true hn
    cases es with
    | nil => cases he
    | cons e es =>
      rw [hb] at h0
      have hst2 : noStar e = true ∧ es.all noStar = true := by
        rw [List.all_cons, Bool.and_eq_true] at hst
        exact hst
      refine PE.wk (pe_bm F.plainAttrs_list s1 s2 s3 (pe_var a1 a2 a3 a4) b2 rfl ?_ h0 (star_cons hst2.1) (star_plain hst2.2)) fun σ H Q h => h.mut ct.md.hK s4
      rw [star_all hst]
      have : (e :: es).length + ([] : List Keyword).length + (if ([] : List Keyword).isEmpty then 0 else 1) < 30 := by
        show (e :: es).length + 0 + 0 < 30
        omega
      rw [decide_eq_true this]
      rfl
  · cases h
include hB
theorem stepO_ok {q : Bool} {e : Expr} {f : M D} (h : stepO c R B q e = some f) : EO X G W q e f := by
  unfold stepO at h
  split at h
  · exact name_ok ct h
  · split at h
    · cases h; exact eo_int
    · cases h; exact eo_bl
    · cases h; exact eo_non
    · cases h; exact eo_str
    · cases h
  · obtain ⟨p, h1, h⟩ := ob_s h
    obtain ⟨r, hr, hp⟩ := binP_ok (G := G) ct.md.hK h1
    rcases two_ok ct hR h with ⟨fa, fb, rfl, ha, hb⟩ | ⟨fa, fb, rfl, ha, hb⟩
    · exact eo_binq hr hp ha hb
    · exact eo_bin hr hp ha hb
  · obtain ⟨fa, h1, h⟩ := ob_s h
    cases h
    exact eo_un un_neg pr_neg (view_ok ct hR h1)
  · obtain ⟨fa, h1, h⟩ := ob_s h
    cases h
    exact eo_not (hR _ _ _ h1)
  · obtain ⟨hs, h⟩ := gd_s h
    obtain ⟨p, h1, h⟩ := ob_s h
    obtain ⟨r, hr, hp⟩ := cmpP_ok (G := G) ct.md.hK ct.rm.units h1
    rcases two_ok ct hR h with ⟨fa, fb, rfl, ha, hb⟩ | ⟨fa, fb, rfl, ha, hb⟩
    · exact eo_cmpq hr hp ha hb (noMark hs)
    · exact eo_cmp hr hp ha hb (noMark hs)
  · obtain ⟨hs, h⟩ := gd_s h
    obtain ⟨p, h1, h⟩ := ob_s h
    obtain ⟨p', h2, h⟩ := ob_s h
    obtain ⟨fa, h3, h⟩ := ob_s h
    obtain ⟨fb, h4, h⟩ := ob_s h
    obtain ⟨fz', h5, h⟩ := ob_s h
    cases h
    obtain ⟨r, hr, hp⟩ := cmpP_ok (G := G) ct.md.hK ct.rm.units h1
    obtain ⟨r', hr', hp'⟩ := cmpP_ok (G := G) ct.md.hK ct.rm.units h2
    exact PE.wk (pe_chain hr hr' (fr_ok ct hR h3) (fr_ok ct hR h4) (view_ok ct hR h5) (noMark hs)) fun σ H Q h => h.chain hp hp'
  · exact eo_one (hR _ _ _ h)
  · obtain ⟨fa, h1, h⟩ := ob_s h
    obtain ⟨fb, h2, h⟩ := ob_s h
    cases h
    exact eo_bop (hR _ _ _ h1) (hR _ _ _ h2)
  · obtain ⟨ft, h1, h⟩ := ob_s h
    obtain ⟨fa, h2, h⟩ := ob_s h
    obtain ⟨fb, h3, h⟩ := ob_s h
    cases h
    exact PE.wk (pe_ifExp (hB _ _ _ h1) (hR _ _ _ h2) (hR _ _ _ h3)) fun σ H Q h => h.ifE
  · obtain ⟨fs, h1, h⟩ := ob_s h
    cases h
    exact eo_tup (args_ok ct hR h1).2
  · obtain ⟨fs, h1, h⟩ := ob_s h
    cases h
    exact eo_lst (args_ok ct hR h1).2
  · obtain ⟨hs, h⟩ := gd_s h
    have hix : IxR X (rIx G.K) := by rw [ct.md.hK]; exact ix_seq
    rcases two_ok ct hR h with ⟨fa, fb, rfl, ha, hb⟩ | ⟨fa, fb, rfl, ha, hb⟩
    · exact eo_ixq hix pr_ix ha hb (plainIx_of hs)
    · exact eo_ix hix pr_ix ha hb (plainIx_of hs)
  · exact call_ok ct hR h
  · exact meth_ok ct hR h rfl
  · cases h
omit hR in
theorem whole_ok {q : Bool} {op : BoolOp} {pos : Pos} : ∀ {es : List Expr} {f : M Bool}, wholeD B q op es = some f → EBW X G W q (.BoolOp op es pos) f
  | [], _, h => by cases h
  | [a], f, h => by
    cases op with
    | And => exact ebw_and1 (hB _ _ _ h)
    | Or => exact ebw_or1 (hB _ _ _ h)
  | a :: b :: rest, f, h => by
    obtain ⟨fa, h1, h⟩ := ob_s h
    obtain ⟨fb, h2, h⟩ := ob_s h
    cases op with
    | And => cases h; exact ebw_and (hB _ _ _ h1) (whole_ok h2)
    | Or => cases h; exact ebw_or (hB _ _ _ h1) (whole_ok h2)
theorem stepB_ok {q : Bool} {e : Expr} {f : M Bool} (h : stepB c R B q e = some f) : EB X G W q e f := by
  unfold stepB at h
  split at h
  · obtain ⟨fa, h1, h⟩ := ob_s h
    cases h
    exact eb_not (hB _ _ _ h1)
  · exact eb_w (whole_ok ct hB h)
  · obtain ⟨hs, h⟩ := gd_s h
    obtain ⟨p, h1, h⟩ := ob_s h
    obtain ⟨g, h2, h⟩ := ob_s h
    cases h
    obtain ⟨r, hr, hp⟩ := cmpP_ok (G := G) ct.md.hK ct.rm.units h1
    rcases two_ok ct hR h2 with ⟨fa, fb, rfl, ha, hb⟩ | ⟨fa, fb, rfl, ha, hb⟩
    · exact eb_cmpq hr hp ha hb (noMark hs)
    · exact eb_cmp hr hp ha hb (noMark hs)
  · obtain ⟨hs, h⟩ := gd_s h
    obtain ⟨p, h1, h⟩ := ob_s h
    obtain ⟨p', h2, h⟩ := ob_s h
    obtain ⟨fa, h3, h⟩ := ob_s h
    obtain ⟨fb, h4, h⟩ := ob_s h
    obtain ⟨fz', h5, h⟩ := ob_s h
    cases h
    obtain ⟨r, hr, hp⟩ := cmpP_ok (G := G) ct.md.hK ct.rm.units h1
    obtain ⟨r', hr', hp'⟩ := cmpP_ok (G := G) ct.md.hK ct.rm.units h2
    exact PT.wk (pt_chain hr hr' (fr_ok ct hR h3) (fr_ok ct hR h4) (view_ok ct hR h5) (noMark hs)) fun σ H Q h => (tX.bl h).chain hp hp'
  · cases h
  · cases h
  · rename_i n1 n2 n3 n4 n5 n6
    obtain ⟨fa, h1, h⟩ := ob_s h
    cases h
    refine eb_tru ct.md.hK (view_ok ct hR h1) (valT_ok ?_)
    cases e with
    | UnaryOp op x p => cases op <;> first | rfl | exact (n1 _ _ rfl).elim
    | BoolOp op es p => exact (n2 _ _ _ rfl).elim
    | Compare a b cc p => exact (n5 _ _ _ _ rfl).elim
    | IfExp a b cc p => exact (n6 _ _ _ _ rfl).elim
    | _ => rfl
omit hR hB in
/-- THE RULE: what an expression denotes is what it does -/
theorem denE_ok : ∀ (n : Nat) (q : Bool) (e : Expr), (∀ f, (denE c n q e).1 = some f → EO X G W q e f) ∧ ∀ f, (denE c n q e).2 = some f → EB X G W q e f
  | 0, _, _ => ⟨fun _ h => (by cases h), fun _ h => (by cases h)⟩
  | n + 1, q, e => ⟨fun _ h => stepO_ok ct (fun q e f h => (denE_ok n q e).1 f h) (fun q e f h => (denE_ok n q e).2 f h) h, fun _ h => stepB_ok ct (fun q e f h => (denE_ok n q e).1 f h) (fun q e f h => (denE_ok n q e).2 f h) h⟩
end
end Y

namespace Y
open PySem PySem.Spec PyProof.Rows L2

/-! ### the denotation of statements -/
section
variable (c : Bd)
def oD (q : Bool) (e : Expr) : Option (M D) := (denE c 40 q e).1
def bD (e : Expr) : Option (M Bool) := (denE c 40 false e).2
def retD (e : Expr) : Option (M D) := match e with
  | .Name x _ => (match nmD c x with
    | some i => (match (skOf c.ms c.N.length).lk i with
      | true => some (eVar i)
      | false => some (eMove i))
    | none => oD c false e)
  | _ => oD c false e
def tgsD (T : Expr → Option Tg) : List Expr → Option (List Tg)
  | [] => some []
  | e :: es => gd (noStar e) (ob (T e) fun g => ob (tgsD T es) fun gs => some (g :: gs))
def tgD : Nat → Expr → Option Tg
  | 0, _ => none
  | n + 1, e => match e with
    | .Name x _ => ob (stD c x) fun i => some (gSet i)
    | .Tuple es _ _ => ob (tgsD (tgD n) es) fun gs => some (gTupM gs)
    | _ => none
def itD (e : Expr) : Option (M (List D)) := match e with
  | .Call (.Name x _) es [] _ => (match decide (x = "range") with
    | true => gd (bltD c x) (match es with
      | [a] => gd (noStar a) (ob (frD (oD c) false a) fun fa => some (iRng rngD1 [fa]))
      | [a, b] => gd (noStar a && noStar b) (ob (frD (oD c) false a) fun fa => ob (frD (oD c) false b) fun fb => some (iRng rngD2 [fa, fb]))
      | [a, b, z] => gd (noStar a && noStar b && noStar z) (ob (frD (oD c) false a) fun fa => ob (frD (oD c) false b) fun fb => ob (frD (oD c) false z) fun fz' => some (iRng rngD3 [fa, fb, fz']))
      | _ => none)
    | false => ob (oD c false e) fun f => some (iSeq (fz f)))
  | _ => ob (oD c false e) fun f => some (iSeq (fz f))
def isStrC : Expr → Bool
  | .Constant (.str _) _ _ => true
  | _ => false
def listD (S : Stmt → Option SM) : List Stmt → Option SM
  | [] => some sNx
  | [s] => S s
  | s :: r => ob (S s) fun f => ob (listD S r) fun g => some (sSeq f g)
def denS (fuel : Nat) : Nat → Stmt → Option SM
  | 0, _ => none
  | n + 1, s => match s with
    | .Pass _ => some sNx
    | .Break _ => some sBk
    | .Continue _ => some sCt
    | .Expr e _ => (match isStrC e with
      | true => some sNx
      | false => gd (noComp e) (ob (oD c false e) fun f => some (sDrop f)))
    | .Return none _ => some sRetN
    | .Return (some e) _ => ob (retD c e) fun f => some (sRet f)
    | .Assign [.Name x _] e _ => gd (noComp e) (ob (stD c x) fun i => ob (oD c false e) fun f => some (sSet i f))
    | .Assign [.Tuple es k p] e _ => gd (noComp e && !isTup e) (ob (tgD c 4 (.Tuple es k p)) fun g => ob (oD c false e) fun f => some (sTgt g f))
    | .AugAssign (.Name x _) op e _ => ob (stD c x) fun i => ob (inpP op) fun p => ob (viewD c (oD c) false e) fun f => some (sAug p i f)
    | .If t a b _ => ob (bD c t) fun ft => ob (listD (denS fuel n) a) fun f => ob (listD (denS fuel n) b) fun g => some (sIf ft f g)
    | .While t b [] _ => ob (bD c t) fun ft => ob (listD (denS fuel n) b) fun g => some (sWhile ft g fuel)
    | .For tg it b [] _ => gd (noFold it) (ob (tgD c 4 tg) fun g => ob (itD c it) fun fi => ob (listD (denS fuel n) b) fun f => some (sFor fi g f))
    | _ => none
end
section
variable {X : Cx} {G : Gx} {W : WX} {k : Nat} {c : Bd} (ct : Ct X G W c.cf k c.N c.sc)
include ct
theorem oD_ok {q : Bool} {e : Expr} {f : M D} (h : oD c q e = some f) : EO X G W q e f := (denE_ok ct 40 q e).1 f h
theorem frO_ok {q : Bool} {e : Expr} {f : M D} (h : frD (oD c) q e = some f) : EF X G W q e f := fr_ok ct (fun q e f h => oD_ok ct h) h
theorem bD_ok {e : Expr} {f : M Bool} (h : bD c e = some f) : EB X G W false e f := (denE_ok ct 40 false e).2 f h
theorem retD_ok {e : Expr} {f : M D} (h : retD c e = some f) : EO X G W false e f := by
  unfold retD at h
  split at h
  · split at h
    · rename_i x p i e
      obtain ⟨a1, a2, a3, a4⟩ := nm_ok ct e
      split at h
      · cases h
        exact eo_var a1 a2 a3 a4
      · cases h
        exact eo_move a1 a2 a3 a4
    · exact oD_ok ct h
  · exact oD_ok ct h
omit ct in
theorem asg_cons {e : Expr} {es : List Expr} {env : PySem.Env} (h : noStar e = true) : assignEach (e :: es) env = (false, assign e env) :: assignEach es env := by
  cases e <;> first | rfl | cases h
omit ct in
theorem asg_none {es : List Expr} {env : PySem.Env} (h : es.all noStar = true) : (assignEach es env).length = es.length ∧ (assignEach es env).findIdx? (·.1) = none := by
  induction es with
  | nil => exact ⟨rfl, rfl⟩
  | cons e es ih =>
    rw [List.all_cons, Bool.and_eq_true] at h
    rw [asg_cons h.1]
    obtain ⟨i1, i2⟩ := ih h.2
    refine ⟨by simp [i1], ?_⟩
    rw [List.findIdx?_cons]
    simp [i2]
theorem tgs_ok {T : Expr → Option Tg} (hT : ∀ e g, T e = some g → PG X e (tG G (skOf c.ms c.N.length) g)) : ∀ {es : List Expr} {gs : List Tg}, tgsD T es = some gs → es.all noStar = true ∧ gs.length = es.length ∧ PGs X es (tGs G (skOf c.ms c.N.length) gs)
  | [], _, h => by cases h; exact ⟨rfl, rfl, sgs_nil⟩
  | e :: es, gs, h => by
    obtain ⟨h0, h⟩ := gd_s h
    obtain ⟨g, h1, h⟩ := ob_s h
    obtain ⟨gs', h2, h⟩ := ob_s h
    cases h
    obtain ⟨i1, i2, i3⟩ := tgs_ok hT h2
    refine ⟨by rw [List.all_cons, h0, i1]; rfl, by simp [i2], sgs_cons (hT _ _ h1) i3 ?_⟩
    rw [asg_cons h0]
    rfl
theorem tgD_ok : ∀ (n : Nat) (e : Expr) (g : Tg), tgD c n e = some g → PG X e (tG G (skOf c.ms c.N.length) g)
  | 0, _, _, h => by cases h
  | n + 1, e, g, h => by
    unfold tgD at h
    split at h
    · obtain ⟨i, h1, h⟩ := ob_s h
      cases h
      obtain ⟨s1, s2, s3, s4, s5, s6⟩ := st_ok ct h1
      exact sg_name s1 s2 s3 s4 s5 s6
    · obtain ⟨gs, h1, h⟩ := ob_s h
      cases h
      obtain ⟨i1, i2, i3⟩ := tgs_ok ct (tgD_ok n) h1
      obtain ⟨a1, a2⟩ := asg_none (env := X.env) i1
      exact sg_tup ct.md.hK ct.calm i3 rfl (i2.trans a1.symm) a2
    · cases h
theorem itD_ok {tg e : Expr} {f : M (List D)} (h : itD c e = some f) : EI X G W tg e f := by
  have gen : ∀ {e : Expr} {f : M (List D)}, (ob (oD c false e) fun f => some (iSeq (fz f))) = some f → EI X G W tg e f := fun {e f} h => by
    obtain ⟨g, h1, h⟩ := ob_s h
    cases h
    exact ei_seq ct.md.hK (oD_ok ct h1).f
  unfold itD at h
  split at h
  · split at h
    · rename_i x p es pos _ hx
      have hx : x = "range" := of_decide_eq_true hx
      subst hx
      obtain ⟨h0, h⟩ := gd_s h
      obtain ⟨g1, g2, g3, g4⟩ := blt_ok ct h0
      split at h
      · obtain ⟨s1, h⟩ := gd_s h
        obtain ⟨fa, h1, h⟩ := ob_s h
        cases h
        exact ei_rng1 g1 g4 (el_cons (frO_ok ct h1) el_nil (star_cons s1)) (star_cons s1)
      · obtain ⟨s1, h⟩ := gd_s h
        obtain ⟨s1, s2⟩ := Bool.and_eq_true_iff.mp s1
        obtain ⟨fa, h1, h⟩ := ob_s h
        obtain ⟨fb, h2, h⟩ := ob_s h
        cases h
        exact ei_rng2 g1 g4 (el_cons (frO_ok ct h1) (el_cons (frO_ok ct h2) el_nil (star_cons s2)) (star_cons s1)) (by rw [star_cons s1, star_cons s2]; rfl) (star_cons s2)
      · obtain ⟨s1, h⟩ := gd_s h
        obtain ⟨s1, s3⟩ := Bool.and_eq_true_iff.mp s1
        obtain ⟨s1, s2⟩ := Bool.and_eq_true_iff.mp s1
        obtain ⟨fa, h1, h⟩ := ob_s h
        obtain ⟨fb, h2, h⟩ := ob_s h
        obtain ⟨fc, h3, h⟩ := ob_s h
        cases h
        exact ei_rng3 g1 g4 (el_cons (frO_ok ct h1) (el_cons (frO_ok ct h2) (el_cons (frO_ok ct h3) el_nil (star_cons s3)) (star_cons s2)) (star_cons s1)) (star_cons s1) (star_plain (by rw [List.all_cons, List.all_cons, s2, s3]; rfl))
      · cases h
    · exact gen h
  · exact gen h
theorem list_ok {S : Stmt → Option SM} (hS : ∀ s f, S s = some f → SS X G W (skOf c.ms c.N.length) s f) : ∀ {ss : List Stmt} {f : SM}, listD S ss = some f → SSs X G W (skOf c.ms c.N.length) ss f
  | [], _, h => by cases h; exact ss_nil
  | [s], _, h => ss_one (hS _ _ h)
  | s :: t :: r, f, h => by
    obtain ⟨f1, h1, h⟩ := ob_s h
    obtain ⟨g, h2, h⟩ := ob_s h
    cases h
    exact ss_cons (hS _ _ h1) (list_ok hS h2)
theorem denS_ok {fuel : Nat} : ∀ (n : Nat) (s : Stmt) (f : SM), denS c fuel n s = some f → SS X G W (skOf c.ms c.N.length) s f
  | 0, _, _, h => by cases h
  | n + 1, s, f, h => by
    have ih := fun {ss : List Stmt} {f : SM} (h : listD (denS c fuel n) ss = some f) => list_ok (W := W) ct (denS_ok n) h
    unfold denS at h
    split at h
    · cases h; exact ss_pass
    · cases h; exact ss_break
    · cases h; exact ss_continue
    · rename_i e p
      split at h
      · rename_i he
        cases h
        cases e with
        | Constant k j p => cases k with
          | str x => exact ss_doc
          | _ => cases he
        | _ => cases he
      · obtain ⟨h0, h⟩ := gd_s h
        obtain ⟨g, h1, h⟩ := ob_s h
        cases h
        exact ss_expr (oD_ok ct h1) (noSwap h0)
    · cases h; exact ss_retN
    · obtain ⟨g, h1, h⟩ := ob_s h
      cases h
      exact ss_ret (retD_ok ct h1)
    · obtain ⟨h0, h⟩ := gd_s h
      obtain ⟨i, h1, h⟩ := ob_s h
      obtain ⟨g, h2, h⟩ := ob_s h
      cases h
      obtain ⟨s1, s2, s3, s4, s5, s6⟩ := st_ok ct h1
      exact ss_set s1 s2 s3 s4 s5 s6 (oD_ok ct h2) (noSwap h0)
    · rename_i es k p e pos
      obtain ⟨h0, h⟩ := gd_s h
      obtain ⟨h0, ht⟩ := Bool.and_eq_true_iff.mp h0
      obtain ⟨g, h1, h⟩ := ob_s h
      obtain ⟨f2, h2, h⟩ := ob_s h
      cases h
      refine ss_tgt (oD_ok ct h2) (tgD_ok ct 4 _ _ h1) (show swapsWith e (some (.Tuple es k p)) pos.line X.env = pure false from noSwap h0) ?_ rfl
      cases e <;> first | rfl | cases ht
    · obtain ⟨i, h1, h⟩ := ob_s h
      obtain ⟨p, h2, h⟩ := ob_s h
      obtain ⟨g, h3, h⟩ := ob_s h
      cases h
      obtain ⟨s1, s2, s3, s4, s5, s6⟩ := st_ok ct h1
      obtain ⟨r, hr, hp⟩ := inpP_ok (X := X) (G := G) h2
      exact ss_aug hr hp s1 s2 s3 s4 s5 s6 (view_ok ct (fun q e f h => oD_ok ct h) h3)
    · obtain ⟨ft, h1, h⟩ := ob_s h
      obtain ⟨fa, h2, h⟩ := ob_s h
      obtain ⟨fb, h3, h⟩ := ob_s h
      cases h
      exact ss_if (bD_ok ct h1) (ih h2) (ih h3)
    · obtain ⟨ft, h1, h⟩ := ob_s h
      obtain ⟨fb, h3, h⟩ := ob_s h
      cases h
      exact ss_while ct.pass (bD_ok ct h1) (ih h3)
    · obtain ⟨h0, h⟩ := gd_s h
      obtain ⟨g, h1, h⟩ := ob_s h
      obtain ⟨fi, h2, h⟩ := ob_s h
      obtain ⟨fb, h3, h⟩ := ob_s h
      cases h
      exact ss_for ct.pass ct.calm (itD_ok ct h2) (tgD_ok ct 4 _ _ h1) (ih h3) (noFold_ok h0)
    · cases h
end
/-- the bound of a while's turns -/
abbrev fuel : Nat := 1000000
/-- a def's body, denoted -/
def bodyD (c : Bd) (fuel : Nat) (body : List Stmt) : Option SM := listD (denS c fuel 40) body
def fnD (c : Bd) (fuel : Nat) (body : List Stmt) : Option Fn := ob (bodyD c fuel body) fun b => some (runB c.ms c.N.length b)
theorem fnD_ok {P : Program} {w : World} {K : PySem.W.Frag} {mg : Str → Option Value} {base : Heap} {G : Gx} {x qual : Str} {params : Arguments} {body : List Stmt} {kws : List (Str × V)} {f : Addr} {fd : FuncData} {ps : List Str} {k : Nat} {c : Bd} {fuel : Nat} {Fn : Fn}
    (F : FunD K x qual params body c.sc [] kws f fd) (S : FnScope c.N ps c.sc) (hm : c.ms.length = ps.length) (M : Md P w K mg base G k c.cf) (h : fnD c fuel body = some Fn) : FnOk P w K mg base (CX P w) (k + 1) f fd ps (spD G c.ms.length Fn) := by
  obtain ⟨b, hb, h⟩ := ob_s h
  cases h
  rw [hm]
  exact fn_okD F S (Nat.le_of_eq hm) M fun X W ct => list_ok (k := k) (c := c) ct (denS_ok ct 40) hb
end Y

namespace Y
open PySem PySem.Spec PyProof.Rows L2

/-! ### the head: data of the module -/
section
variable (K : PySem.W.Frag)
mutual
def chkV : D → Value → Bool
  | .non, u => (match u with
    | .none => true
    | _ => false)
  | .bl b, u => (match u with
    | .bool c => b == c
    | _ => false)
  | .int i, u => (match u with
    | .int j _ => decide (j = i)
    | _ => false)
  | .str s, u => (match u with
    | .str x _ => decide (x = mkS s)
    | _ => false)
  | .tup ds, u => (match u with
    | .ref a => (match K.lookup a with
      | some ⟨.type c, _, .seq its _, _⟩ => decide (c = "tuple") && (decide (its.size ≤ sizeLine) && chkVs ds its.toList)
      | _ => false)
    | _ => false)
  | _, _ => false
def chkVs : List D → List Value → Bool
  | [], us => (match us with
    | [] => true
    | _ :: _ => false)
  | d :: ds, us => (match us with
    | [] => false
    | u :: us => chkV d u && chkVs ds us)
end
end
section
variable {K : PySem.W.Frag} {tb : Tb}
mutual
theorem chkV_ok : ∀ {d : D} {u : Value}, chkV K d u = true → ∃ v, RelV v u ∧ ∀ Fz H, RepF ⟨K, tb⟩ Fz H d v
  | .non, u, h => by
    cases u with
    | none => exact ⟨.non, rfl, fun _ _ => rfl⟩
    | _ => cases h
  | .bl b, u, h => by
    cases u with
    | bool c =>
      have e : b = c := eq_of_beq h
      subst e
      exact ⟨.bl b, rfl, fun _ _ => rfl⟩
    | _ => cases h
  | .int i, u, h => by
    cases u with
    | int j t =>
      have e : j = i := of_decide_eq_true h
      subst e
      exact ⟨.int j, ⟨t, rfl⟩, fun _ _ => rfl⟩
    | _ => cases h
  | .str s, u, h => by
    cases u with
    | str x t =>
      have e : x = mkS s := of_decide_eq_true h
      subst e
      exact ⟨.str (mkS s), ⟨t, rfl⟩, fun _ _ => rfl⟩
    | _ => cases h
  | .tup ds, u, h => by
    cases u with
    | ref a =>
      have h : (match K.lookup a with
        | some ⟨.type c, _, .seq its _, _⟩ => decide (c = "tuple") && (decide (its.size ≤ sizeLine) && chkVs K ds its.toList)
        | _ => false) = true := h
      split at h
      · rename_i c od its n sl q
        rw [Bool.and_eq_true, Bool.and_eq_true] at h
        obtain ⟨h1, h2, h3⟩ := h
        obtain ⟨vs, hv, hr⟩ := chkVs_ok h3
        have h1 : c = "tuple" := of_decide_eq_true h1
        exact ⟨.ref a, rfl, fun Fz H => ⟨a, vs, rfl, .inr ⟨_, its, n, q, congrArg Value.type h1, rfl, of_decide_eq_true h2, hv⟩, hr Fz H⟩⟩
      · cases h
    | _ => cases h
  | .lst _ _, _, h => by cases h
  | .dct _ _, _, h => by cases h
  | .ins _ _ _, _, h => by cases h
  | .scr _, _, h => by cases h
theorem chkVs_ok : ∀ {ds : List D} {us : List Value}, chkVs K ds us = true → ∃ vs, Vals vs us ∧ ∀ Fz H, RepFL ⟨K, tb⟩ Fz H ds vs
  | [], us, h => by
    cases us with
    | nil => exact ⟨[], .nil, fun _ _ => rfl⟩
    | cons u us => cases h
  | d :: ds, us, h => by
    cases us with
    | nil => cases h
    | cons u us =>
      have h : (chkV K d u && chkVs K ds us) = true := h
      rw [Bool.and_eq_true] at h
      obtain ⟨v, h1, h2⟩ := chkV_ok h.1
      obtain ⟨vs, h3, h4⟩ := chkVs_ok h.2
      exact ⟨v :: vs, .cons h1 h3, fun Fz H => ⟨v, vs, rfl, h2 Fz H, h4 Fz H⟩⟩
end
end
def gOk (K : PySem.W.Frag) (p : Str × D) : Bool := match PySem.W.nsIn K mainGlobals p.1 with
  | some (some u) => chkV K p.2 u
  | _ => false
theorem gOk_ok {K : PySem.W.Frag} {tb : Tb} {h : Heap} {mg : Str → Option Value} (X : K.In h) (G : h.Ns mainGlobals mg) {x : Str} {d : D} (c : gOk K (x, d) = true) : ∃ v u, mg x = some u ∧ RelV v u ∧ ∀ Fz H, RepF ⟨K, tb⟩ Fz H d v := by
  unfold gOk at c
  cases e : PySem.W.nsIn K mainGlobals x with
  | none => rw [e] at c; cases c
  | some o =>
    rw [e] at c
    cases o with
    | none => cases c
    | some u =>
      obtain ⟨v, h1, h2⟩ := chkV_ok (tb := tb) c
      exact ⟨v, u, PySem.W.mg_of X G e, h1, h2⟩
/-! ### the Hook -/
def obsC (chk : PySem.W.Frag → Bool) (fn : List He.DefD) (K : PySem.W.Frag) : He.AlD := (chk K && fn.all fun d => d.ok K, fn.map fun d => He.fnW K d.at_)
def valC (fn : List He.DefD) : He.AlD := (true, fn.map He.DefD.val)
def SaysC (chk : PySem.W.Frag → Bool) (fn : List He.DefD) (K : PySem.W.Frag) : Prop := obsC chk fn K = valC fn
def obsCG (n : Nat) (chk : PySem.W.Frag → Bool) (fn : List He.DefD) (g : Addr → Option Obj) : He.AlD := obsC chk fn (He.frG g (He.asD g n))
def hookC (n : Nat) (chk : PySem.W.Frag → Bool) (fn : List He.DefD) : PySem.W.Hook where
  α := He.AlD
  obs := fun s => obsCG n chk fn s.heap.get?
  val := fun _ => valC fn
  says := fun _ h => ∃ K : PySem.W.Frag, K.In h ∧ SaysC chk fn K
  of := fun _ _ e => ⟨_, He.frG_in, e⟩
  keeps := fun _ _ _ ⟨K, hK, c⟩ k => ⟨K, PySem.W.Frag.In.keeps hK k, c⟩
theorem obsCG_eq {n : Nat} {chk : PySem.W.Frag → Bool} {fn : List He.DefD} {g : Addr → Option Obj} {s : Shared} (h : ∀ a, g a = s.heap.get? a) : obsCG n chk fn g = (hookC n chk fn).obs s := by
  have e : g = s.heap.get? := funext h
  rw [e] <;> rfl
section
variable {chk : PySem.W.Frag → Bool} {fn : List He.DefD} {K : PySem.W.Frag}
theorem SaysC.ck (c : SaysC chk fn K) : chk K = true := (He.ba (show (chk K && fn.all fun d => d.ok K) = true from congrArg (fun z : He.AlD => z.1) c)).1
theorem SaysC.def_ (c : SaysC chk fn K) {d : He.DefD} (i : Nat) (h : fn[i]? = some d) : ∃ fd, FunD K d.name d.qual d.params d.body d.scope (d.dvs K) (d.kws K) (He.fAd K d.at_) fd := by
  have c2 := (He.ba (show (chk K && fn.all fun d => d.ok K) = true from congrArg (fun z : He.AlD => z.1) c)).2
  have e : fn.map (fun d => He.fnW K d.at_) = fn.map He.DefD.val := congrArg (fun z : He.AlD => z.2) c
  have e2 : (fn.map fun d => He.fnW K d.at_)[i]? = (fn.map He.DefD.val)[i]? := by rw [e]
  rw [List.getElem?_map, List.getElem?_map, h] at e2
  exact He.DefD.funD (Option.some.inj e2) (List.all_eq_true.mp c2 d (List.mem_of_getElem? h))
end
/-! ### the module's defs, one behind another -/
section
variable {P : Program} {w : World} {K : PySem.W.Frag} {mg : Str → Option Value} {base : Heap} {tb : Tb}
theorem CallOk.mono {G : Gx} {j k : Nat} {x : Str} {ms : List Bool} {F : Fn} (c : CallOk P w K mg base G j x ms F) (h : j ≤ k) : CallOk P w K mg base G k x ms F :=
  let ⟨f, fd, ps, a, b⟩ := c
  ⟨f, fd, ps, a.mono h, b⟩
theorem Md.nil {G : Gx} {cf : Cf} (hK : G.K = K) (hf : cf.fns = []) (hg : ∀ x d, cf.gls.lookup x = some d → ∃ v u, mg x = some u ∧ RelV v u ∧ ∀ Fz H, RepF G Fz H d v) (hb : ∀ x, x ∈ cf.blt → mg x = none) : Md P w K mg base G 0 cf :=
  ⟨hK, fun x ms F h => by rw [hf] at h; simp at h, hg, hb⟩
theorem Md.add {G : Gx} {cf : Cf} {j k : Nat} {x : Str} {ms : List Bool} {F : Fn} (m : Md P w K mg base G j cf) (c : CallOk P w K mg base G k x ms F) (h : j ≤ k) : Md P w K mg base G k ⟨(x, ms, F) :: cf.fns, cf.gls, cf.blt⟩ where
  hK := m.hK
  fns := fun y ms' F' e => by
    rw [← look_eq] at e
    have e : (match decide (x = y) with
      | true => some (ms, F)
      | false => look cf.fns y) = some (ms', F') := e
    by_cases z : x = y
    · rw [decide_eq_true z] at e
      cases e
      rw [← z]
      exact c
    · rw [decide_eq_false z] at e
      have e : look cf.fns y = some (ms', F') := e
      rw [look_eq] at e
      exact (m.fns y ms' F' e).mono h
  gls := m.gls
  blt := m.blt
end
/-- the next def -/
structure DY where
  d : He.DefD
  N : List Str
  ms : List Bool
  ps : List Str
  F : Fn
/-- what is to be computed of a def: nothing is to be shown of it -/
def DY.okB (gls : List (Str × D)) (blt : List Str) (fns : List (Str × List Bool × Fn)) (fuel : Nat) (y : DY) : Prop :=
  fnD ⟨⟨fns, gls, blt⟩, y.N, y.d.scope, y.ms⟩ fuel y.d.body = some y.F
/-- a scope, by computing -/
def scB (N P : List Str) (sc : Scope) : Bool := decide (sc.kind = .function) && (!sc.isCoroutine && (!sc.isGenerator && (decide (N.Nodup) && (decide (N.take P.length = P) && ((P.all fun x => locK (look sc.names x)) && sc.names.all fun y => decide (y.2 ≠ .free))))))
theorem scB_ok {N P : List Str} {sc : Scope} (h : scB N P sc = true) : FnScope N P sc := by
  unfold scB at h
  simp only [Bool.and_eq_true] at h
  obtain ⟨h1, h2, h3, h4, h5, h6, h7⟩ := h
  refine ⟨of_decide_eq_true h1, by simpa using h2, by simpa using h3, of_decide_eq_true h4, of_decide_eq_true h5, fun x hx => ?_, fun y hy => of_decide_eq_true (List.all_eq_true.mp h7 y hy)⟩
  have := List.all_eq_true.mp h6 x hx
  rw [look_eq] at this
  cases e : sc.names.lookup x with
  | none => rw [e] at this; cases this
  | some v =>
    rw [e] at this
    cases v with
    | «local» => exact .inl rfl
    | cell => exact .inr rfl
    | free => cases this
    | globalExplicit => cases this
    | globalImplicit => cases this
/-- plain parameters -/
def plA (ps : List Str) (a : Arguments) : Prop := ∀ (x qual : Str) (body : List Stmt) (sc : Scope) (kV doc pm : Value) (an : Option Addr) (cdv ct : Value) (us : List Value), us.length = ps.length →
  bindArgs (PySem.W.fnOf x qual a body sc .none kV doc pm an cdv ct) ⟨us, []⟩ = pure (ps.zip us)
theorem call_of {P : Program} {w : World} {K : PySem.W.Frag} {mg : Str → Option Value} {base : Heap} {G : Gx} {k : Nat} {c : Bd} {fuel : Nat} {d : He.DefD} {ps : List Str} {Fn : Fn} {fd : FuncData}
    (F : FunD K d.name d.qual d.params d.body d.scope (d.dvs K) (d.kws K) (He.fAd K d.at_) fd) (hd : d.dfl = []) (hsc : c.sc = d.scope) (hx : mg d.name = some (.ref (He.fAd K d.at_))) (S : scB c.N ps d.scope = true) (hm : c.ms.length = ps.length) (hp : plA ps d.params)
    (M : Md P w K mg base G k c.cf) (h : fnD c fuel d.body = some Fn) : CallOk P w K mg base G (k + 1) d.name c.ms Fn := by
  have e : d.dvs K = [] := by unfold He.DefD.dvs; rw [hd]; rfl
  rw [e] at F
  have F' := F
  rw [← hsc] at F'
  exact ⟨_, fd, ps, fnD_ok F' (hsc ▸ scB_ok S) hm M h, hx, F.kp, FunD.bindsN F fun kV doc pm an cdv ct us hl => hp _ _ _ _ _ _ _ _ _ _ us hl⟩
/-! ### the end -/
theorem only_sc {K : PySem.W.Frag} {H : Hp} {a : Addr} {ns : List Int} (hO : Only H) (h : SqL K H a (ns.map V.int)) : SC K H a ns := by
  rcases h with (h | h) | h
  · rcases hO a with z | ⟨o, xs, z⟩
    · rw [z] at h; cases h
    · rw [z] at h; cases h
  · exact .inl h
  · exact .inr h
theorem law_end {G : Gx} {F : Fn} {H : Hp} {a : Addr} {ns : List Int} (hO : Only H) (h : SqL G.K H a (ns.map V.int)) (hF : ∃ fin, F [.scr ns] = .ret (.bl true) fin) : spD G 1 F [.ref a] H (fun v _ => v = .bl true) fun _ _ _ => False := by
  obtain ⟨fin, hF⟩ := hF
  refine ⟨⟨fun _ => none, nul, fun _ => none, fun _ => none, 1⟩, nul, fun _ => nul, [.scr ns], rfl, rfl, fun _ => rfl, fun _ => rfl, ⟨?_, ?_, ?_, ?_, ?_, ?_, ?_, ?_, ?_, ?_, ?_, rfl⟩, ?_⟩
  · intro i d hi
    cases i with
    | zero => simp at hi; subst hi; exact ⟨.ref a, rfl, ⟨a, rfl, only_sc hO h⟩, fun _ z => z⟩
    | succ i => simp at hi
  · exact fun i b z => z.elim
  · exact fun i j b z => z.elim
  · exact fun i b z => z.elim
  · exact fun b z => z.elim
  · exact fun b o z => (by cases z)
  · exact fun b o z => (by cases z)
  · exact fun i b z => z.elim
  · exact fun b z => z.elim
  · exact fun b o z => (by cases z)
  · exact fun i v z => (by cases z)
  · rw [hF]
    intro v H' Fz own r _ ho _
    exact ho.1
end Y

namespace Y
open PySem PySem.Spec PyProof.Rows L2

/-- an equation that simp is to use by its proof -/
theorem nr {α : Type} {a b : α} (h : a = b) : a = b := h
/-! ### computing: what stands still is left as it is -/
section
variable {α β : Type}
def oBnd (k : α → M β) : Out α → Out β
  | .ok a e => k a e
  | .exc x e => .exc x e
  | .bad => .bad
theorem bnd_ap (f : M α) (k : α → M β) (e : Env) : bnd f k e = oBnd k (f e) := by unfold bnd oBnd; cases f e <;> rfl
@[simp] theorem oBnd_ok (k : α → M β) (a : α) (e : Env) : oBnd k (.ok a e) = k a e := nr rfl
@[simp] theorem oBnd_exc (k : α → M β) (x : Ex) (e : Env) : oBnd k (.exc x e) = .exc x e := nr rfl
@[simp] theorem mret_ap (a : α) (e : Env) : mret a e = .ok a e := nr rfl
@[simp] theorem mopt_some (a : α) (e : Env) : mopt (some a) e = .ok a e := nr rfl
def oFz : Out D → Out D
  | .ok d e => .ok d.frz e
  | .exc x e => .exc x e
  | .bad => .bad
@[simp] theorem fz_ap (f : M D) (e : Env) : fz f e = oFz (f e) := by unfold fz bnd oFz; cases f e <;> rfl
@[simp] theorem oFz_ok (d : D) (e : Env) : oFz (.ok d e) = .ok d.frz e := nr rfl
@[simp] theorem oFz_exc (x : Ex) (e : Env) : oFz (.exc x e) = .exc x e := nr rfl
def oV (e : Env) : Option (Option D) → Out D
  | some (some d) => .ok d e
  | _ => .bad
@[simp] theorem vVar_ap (i : Nat) (e : Env) : vVar i e = oV e e[i]? := by unfold vVar oV; cases e[i]? with
  | none => rfl
  | some o => cases o <;> rfl
@[simp] theorem oV_some (d : D) (e : Env) : oV e (some (some d)) = .ok d e := nr rfl
def oE (i : Nat) (e : Env) : Option (Option D) → Out D
  | some (some d) => (match d.own with
    | true => .ok d.frz (e.set i (some d.frz))
    | false => .ok d e)
  | _ => .bad
@[simp] theorem eVar_ap (i : Nat) (e : Env) : eVar i e = oE i e e[i]? := by unfold eVar oE; cases e[i]? with
  | none => rfl
  | some o =>
    cases o with
    | none => rfl
    | some d => dsimp only; cases d.own <;> rfl
@[simp] theorem oE_some (i : Nat) (d : D) (e : Env) : oE i e (some (some d)) = (match d.own with
    | true => .ok d.frz (e.set i (some d.frz))
    | false => .ok d e) := nr rfl
def oM (i : Nat) (e : Env) : Option (Option D) → Out D
  | some (some d) => .ok d (e.set i none)
  | _ => .bad
@[simp] theorem eMove_ap (i : Nat) (e : Env) : eMove i e = oM i e e[i]? := by unfold eMove oM; cases e[i]? with
  | none => rfl
  | some o => cases o <;> rfl
@[simp] theorem oM_some (i : Nat) (d : D) (e : Env) : oM i e (some (some d)) = .ok d (e.set i none) := nr rfl
def o1 (p : D → Option D) : Out D → Out D
  | .ok d e => mopt (p d) e
  | .exc x e => .exc x e
  | .bad => .bad
@[simp] theorem e1_ap (p : D → Option D) (a : M D) (e : Env) : e1 p a e = o1 p (a e) := by unfold e1 bnd o1; cases a e <;> rfl
@[simp] theorem o1_ok (p : D → Option D) (d : D) (e : Env) : o1 p (.ok d e) = mopt (p d) e := nr rfl
@[simp] theorem o1_exc (p : D → Option D) (x : Ex) (e : Env) : o1 p (.exc x e) = .exc x e := nr rfl
def o2 (p : D → D → Option D) (b : M D) : Out D → Out D
  | .ok d e => o1 (p d) (b e)
  | .exc x e => .exc x e
  | .bad => .bad
@[simp] theorem e2_ap (p : D → D → Option D) (a b : M D) (e : Env) : e2 p a b e = o2 p b (a e) := by
  unfold e2 bnd o2
  cases a e with
  | ok x e1 => dsimp only [o1, bnd]; cases b e1 <;> rfl
  | exc x e1 => rfl
  | bad => rfl
@[simp] theorem o2_ok (p : D → D → Option D) (b : M D) (d : D) (e : Env) : o2 p b (.ok d e) = o1 (p d) (b e) := nr rfl
@[simp] theorem o2_exc (p : D → D → Option D) (b : M D) (x : Ex) (e : Env) : o2 p b (.exc x e) = .exc x e := nr rfl
def lB (d : D) : Out (List D) → Out (List D)
  | .ok ds e => .ok (d :: ds) e
  | .exc x e => .exc x e
  | .bad => .bad
def lA (fs : List (M D)) : Out D → Out (List D)
  | .ok d e => lB d (mL fs e)
  | .exc x e => .exc x e
  | .bad => .bad
@[simp] theorem mL_nil (e : Env) : mL [] e = .ok [] e := nr rfl
@[simp] theorem mL_cons (f : M D) (fs : List (M D)) (e : Env) : mL (f :: fs) e = lA fs (f e) := by
  show bnd f _ e = _
  unfold bnd lA
  cases f e with
  | ok x e1 => dsimp only [lB, bnd]; cases mL fs e1 <;> rfl
  | exc x e1 => rfl
  | bad => rfl
@[simp] theorem lA_ok (fs : List (M D)) (d : D) (e : Env) : lA fs (.ok d e) = lB d (mL fs e) := nr rfl
@[simp] theorem lA_exc (fs : List (M D)) (x : Ex) (e : Env) : lA fs (.exc x e) = .exc x e := nr rfl
@[simp] theorem lB_ok (d : D) (ds : List D) (e : Env) : lB d (.ok ds e) = .ok (d :: ds) e := nr rfl
@[simp] theorem lB_exc (d : D) (x : Ex) (e : Env) : lB d (.exc x e) = .exc x e := nr rfl
def oL (p : List D → Option α) : Out (List D) → Out α
  | .ok ds e => mopt (p ds) e
  | .exc x e => .exc x e
  | .bad => .bad
@[simp] theorem oL_ok (p : List D → Option α) (ds : List D) (e : Env) : oL p (.ok ds e) = mopt (p ds) e := nr rfl
@[simp] theorem oL_exc (p : List D → Option α) (x : Ex) (e : Env) : oL p (.exc x e) = .exc x e := nr rfl
def pTup (ds : List D) : Option D := if ds.length ≤ 1000 then some (.tup ds) else none
def pLst (ds : List D) : Option D := if ds.length ≤ 1000 then some (.lst true ds) else none
@[simp] theorem pTup_ap (ds : List D) : pTup ds = if ds.length ≤ 1000 then some (.tup ds) else none := nr rfl
@[simp] theorem pLst_ap (ds : List D) : pLst ds = if ds.length ≤ 1000 then some (.lst true ds) else none := nr rfl
@[simp] theorem eTup_ap (fs : List (M D)) (e : Env) : eTup fs e = oL pTup (mL fs e) := by unfold eTup bnd oL pTup; cases mL fs e <;> rfl
@[simp] theorem eLst_ap (fs : List (M D)) (e : Env) : eLst fs e = oL pLst (mL fs e) := by unfold eLst bnd oL pLst; cases mL fs e <;> rfl
def oC (F : Fn) : Out (List D) → Out D
  | .ok ds e => app F ds e
  | .exc x e => .exc x e
  | .bad => .bad
@[simp] theorem callP_ap (F : Fn) (fs : List (M D)) (e : Env) : callP F fs e = oC F (mL fs e) := by unfold callP bnd oC; cases mL fs e <;> rfl
@[simp] theorem oC_ok (F : Fn) (ds : List D) (e : Env) : oC F (.ok ds e) = app F ds e := nr rfl
@[simp] theorem oC_exc (F : Fn) (x : Ex) (e : Env) : oC F (.exc x e) = .exc x e := nr rfl
theorem app_ret {F : Fn} {ds : List D} {d : D} {fin : Env} (h : F ds = .ret d fin) (e : Env) : app F ds e = .ok d e := by unfold app; rw [h]
theorem app_exc {F : Fn} {ds : List D} {x : Ex} {fin : Env} (h : F ds = .exc x fin) (e : Env) : app F ds e = .exc x e := by unfold app; rw [h]
def oBl : Out D → Out Bool
  | .ok (.bl b) e => .ok b e
  | .exc x e => .exc x e
  | _ => .bad
@[simp] theorem tBl_ap (a : M D) (e : Env) : tBl a e = oBl (a e) := by
  unfold tBl bnd oBl
  cases a e with
  | ok d e' => cases d <;> rfl
  | exc x e' => rfl
  | bad => rfl
@[simp] theorem oBl_ok (b : Bool) (e : Env) : oBl (.ok (.bl b) e) = .ok b e := nr rfl
@[simp] theorem oBl_exc (x : Ex) (e : Env) : oBl (.exc x e) = .exc x e := nr rfl
def oTr : Out D → Out Bool
  | .ok d e => mopt (truD d) e
  | .exc x e => .exc x e
  | .bad => .bad
@[simp] theorem tTru_ap (a : M D) (e : Env) : tTru a e = oTr (a e) := by unfold tTru bnd oTr; cases a e <;> rfl
@[simp] theorem oTr_ok (d : D) (e : Env) : oTr (.ok d e) = mopt (truD d) e := nr rfl
@[simp] theorem oTr_exc (x : Ex) (e : Env) : oTr (.exc x e) = .exc x e := nr rfl
def oAn (b : M Bool) : Out Bool → Out Bool
  | .ok true e => b e
  | .ok false e => .ok false e
  | .exc x e => .exc x e
  | .bad => .bad
@[simp] theorem tAndM_ap (a b : M Bool) (e : Env) : tAndM a b e = oAn b (a e) := by
  unfold tAndM bnd oAn
  cases a e with
  | ok d e' => cases d <;> rfl
  | exc x e' => rfl
  | bad => rfl
@[simp] theorem oAn_t (b : M Bool) (e : Env) : oAn b (.ok true e) = b e := nr rfl
@[simp] theorem oAn_f (b : M Bool) (e : Env) : oAn b (.ok false e) = .ok false e := nr rfl
@[simp] theorem oAn_exc (b : M Bool) (x : Ex) (e : Env) : oAn b (.exc x e) = .exc x e := nr rfl
def oOr (b : M Bool) : Out Bool → Out Bool
  | .ok false e => b e
  | .ok true e => .ok true e
  | .exc x e => .exc x e
  | .bad => .bad
@[simp] theorem tOrM_ap (a b : M Bool) (e : Env) : tOrM a b e = oOr b (a e) := by
  unfold tOrM bnd oOr
  cases a e with
  | ok d e' => cases d <;> rfl
  | exc x e' => rfl
  | bad => rfl
@[simp] theorem oOr_f (b : M Bool) (e : Env) : oOr b (.ok false e) = b e := nr rfl
@[simp] theorem oOr_t (b : M Bool) (e : Env) : oOr b (.ok true e) = .ok true e := nr rfl
@[simp] theorem oOr_exc (b : M Bool) (x : Ex) (e : Env) : oOr b (.exc x e) = .exc x e := nr rfl
def oNt : Out Bool → Out Bool
  | .ok b e => .ok (!b) e
  | .exc x e => .exc x e
  | .bad => .bad
@[simp] theorem tNotM_ap (a : M Bool) (e : Env) : tNotM a e = oNt (a e) := by unfold tNotM bnd oNt; cases a e <;> rfl
@[simp] theorem oNt_ok (b : Bool) (e : Env) : oNt (.ok b e) = .ok (!b) e := nr rfl
@[simp] theorem oNt_exc (x : Ex) (e : Env) : oNt (.exc x e) = .exc x e := nr rfl
def vAn (b : M D) : Out D → Out D
  | .ok (.bl true) e => b e
  | .ok (.bl false) e => .ok (.bl false) e
  | .exc x e => .exc x e
  | _ => .bad
@[simp] theorem eAndM_ap (a b : M D) (e : Env) : eAndM a b e = vAn b (a e) := by
  unfold eAndM bnd vAn
  cases a e with
  | ok d e' =>
    cases d with
    | bl b => cases b <;> rfl
    | _ => rfl
  | exc x e' => rfl
  | bad => rfl
@[simp] theorem vAn_t (b : M D) (e : Env) : vAn b (.ok (.bl true) e) = b e := nr rfl
@[simp] theorem vAn_f (b : M D) (e : Env) : vAn b (.ok (.bl false) e) = .ok (.bl false) e := nr rfl
@[simp] theorem vAn_exc (b : M D) (x : Ex) (e : Env) : vAn b (.exc x e) = .exc x e := nr rfl
def vOr (b : M D) : Out D → Out D
  | .ok (.bl false) e => b e
  | .ok (.bl true) e => .ok (.bl true) e
  | .exc x e => .exc x e
  | _ => .bad
@[simp] theorem eOrM_ap (a b : M D) (e : Env) : eOrM a b e = vOr b (a e) := by
  unfold eOrM bnd vOr
  cases a e with
  | ok d e' =>
    cases d with
    | bl b => cases b <;> rfl
    | _ => rfl
  | exc x e' => rfl
  | bad => rfl
@[simp] theorem vOr_f (b : M D) (e : Env) : vOr b (.ok (.bl false) e) = b e := nr rfl
@[simp] theorem vOr_t (b : M D) (e : Env) : vOr b (.ok (.bl true) e) = .ok (.bl true) e := nr rfl
@[simp] theorem vOr_exc (b : M D) (x : Ex) (e : Env) : vOr b (.exc x e) = .exc x e := nr rfl
def vNt : Out D → Out D
  | .ok (.bl b) e => .ok (.bl (!b)) e
  | .exc x e => .exc x e
  | _ => .bad
@[simp] theorem eNotM_ap (a : M D) (e : Env) : eNotM a e = vNt (a e) := by
  unfold eNotM bnd vNt
  cases a e with
  | ok d e' => cases d <;> rfl
  | exc x e' => rfl
  | bad => rfl
@[simp] theorem vNt_ok (b : Bool) (e : Env) : vNt (.ok (.bl b) e) = .ok (.bl (!b)) e := nr rfl
@[simp] theorem vNt_exc (x : Ex) (e : Env) : vNt (.exc x e) = .exc x e := nr rfl
/-- statements -/
def sQ (g : SM) : SO → SO
  | .nx e => g e
  | o => o
@[simp] theorem sSeq_ap (f g : SM) (e : Env) : sSeq f g e = sQ g (f e) := by unfold sSeq sQ; cases f e <;> rfl
@[simp] theorem sQ_nx (g : SM) (e : Env) : sQ g (.nx e) = g e := nr rfl
@[simp] theorem sQ_rt (g : SM) (d : D) (e : Env) : sQ g (.rt d e) = .rt d e := nr rfl
@[simp] theorem sQ_bk (g : SM) (e : Env) : sQ g (.bk e) = .bk e := nr rfl
@[simp] theorem sQ_ct (g : SM) (e : Env) : sQ g (.ct e) = .ct e := nr rfl
@[simp] theorem sQ_exc (g : SM) (x : Ex) (e : Env) : sQ g (.exc x e) = .exc x e := nr rfl
def sI (f g : SM) : Out Bool → SO
  | .ok true e => f e
  | .ok false e => g e
  | .exc x e => .exc x e
  | .bad => .bad
@[simp] theorem sIf_ap (c : M Bool) (f g : SM) (e : Env) : sIf c f g e = sI f g (c e) := by
  unfold sIf sX sI
  cases c e with
  | ok b e' => cases b <;> rfl
  | exc x e' => rfl
  | bad => rfl
@[simp] theorem sI_t (f g : SM) (e : Env) : sI f g (.ok true e) = f e := nr rfl
@[simp] theorem sI_f (f g : SM) (e : Env) : sI f g (.ok false e) = g e := nr rfl
@[simp] theorem sI_exc (f g : SM) (x : Ex) (e : Env) : sI f g (.exc x e) = .exc x e := nr rfl
@[simp] theorem sNx_ap (e : Env) : sNx e = .nx e := nr rfl
@[simp] theorem sBk_ap (e : Env) : sBk e = .bk e := nr rfl
@[simp] theorem sCt_ap (e : Env) : sCt e = .ct e := nr rfl
def sK {α : Type} (k : α → SM) : Out α → SO
  | .ok a e => k a e
  | .exc x e => .exc x e
  | .bad => .bad
@[simp] theorem sK_ok (k : α → SM) (a : α) (e : Env) : sK k (.ok a e) = k a e := nr rfl
@[simp] theorem sK_exc (k : α → SM) (x : Ex) (e : Env) : sK k (.exc x e) = .exc x e := nr rfl
theorem sX_ap (f : M α) (k : α → SM) (e : Env) : sX f k e = sK k (f e) := by unfold sX sK; cases f e <;> rfl
@[simp] theorem sDrop_ap (f : M D) (e : Env) : sDrop f e = sK (fun _ => sNx) (f e) := sX_ap ..
def kRt (d : D) : SM := fun e => .rt d e
@[simp] theorem kRt_ap (d : D) (e : Env) : kRt d e = .rt d e := nr rfl
@[simp] theorem sRet_ap (f : M D) (e : Env) : sRet f e = sK kRt (f e) := sX_ap ..
@[simp] theorem sRetN_ap (e : Env) : sRetN e = .rt .non e := nr rfl
def kSet (i : Nat) (d : D) : SM := fun e => .nx (e.set i (some d))
@[simp] theorem kSet_ap (i : Nat) (d : D) (e : Env) : kSet i d e = .nx (e.set i (some d)) := nr rfl
@[simp] theorem sSet_ap (i : Nat) (f : M D) (e : Env) : sSet i f e = sK (kSet i) (f e) := sX_ap ..
def oN : Option Env → SO
  | some e => .nx e
  | none => .bad
@[simp] theorem oN_some (e : Env) : oN (some e) = .nx e := nr rfl
def kTgt (g : Tg) (d : D) : SM := fun e => oN (g d e)
@[simp] theorem kTgt_ap (g : Tg) (d : D) (e : Env) : kTgt g d e = oN (g d e) := nr rfl
@[simp] theorem sTgt_ap (g : Tg) (f : M D) (e : Env) : sTgt g f e = sK (kTgt g) (f e) := by
  unfold sTgt
  rw [sX_ap]
  cases f e with
  | ok d e' => show (match g d e' with
      | some e1 => SO.nx e1
      | none => .bad) = oN (g d e'); cases g d e' <;> rfl
  | exc x e' => rfl
  | bad => rfl
@[simp] theorem gSet_ap (i : Nat) (d : D) (e : Env) : gSet i d e = some (e.set i (some d)) := nr rfl
@[simp] theorem gTup_ap (gs : List Tg) (ds : List D) (e : Env) : gTupM gs (.tup ds) e = gL gs ds e := nr rfl
@[simp] theorem gL_nil (e : Env) : gL [] [] e = some e := nr rfl
@[simp] theorem gL_cons (g : Tg) (gs : List Tg) (d : D) (ds : List D) (e : Env) : gL (g :: gs) (d :: ds) e = (g d e).bind (gL gs ds) := by
  show (match g d e with
    | some e' => gL gs ds e'
    | none => none) = _
  cases g d e <;> rfl
def kAug (p : D → D → Option D) (i : Nat) (x y : D) : SM := fun e => oN ((p x y).map fun z => e.set i (some z))
@[simp] theorem kAug_ap (p : D → D → Option D) (i : Nat) (x y : D) (e : Env) : kAug p i x y e = oN ((p x y).map fun z => e.set i (some z)) := nr rfl
def sU (p : D → D → Option D) (i : Nat) (f : M D) (e : Env) : Option (Option D) → SO
  | some (some x) => (match x.own with
    | true => .bad
    | false => sK (kAug p i x) (f e))
  | _ => .bad
@[simp] theorem sU_some (p : D → D → Option D) (i : Nat) (f : M D) (e : Env) (x : D) : sU p i f e (some (some x)) = (match x.own with
    | true => .bad
    | false => sK (kAug p i x) (f e)) := nr rfl
@[simp] theorem sAug_ap (p : D → D → Option D) (i : Nat) (f : M D) (e : Env) : sAug p i f e = sU p i f e e[i]? := by
  unfold sAug sU
  cases h : e[i]? with
  | none => rfl
  | some o =>
    cases o with
    | none => rfl
    | some x =>
      dsimp only
      cases hx : x.own with
      | true => rfl
      | false =>
        rw [if_neg (by simp), sX_ap]
        cases f e with
        | ok y e' =>
          show (match p x y with
            | some z => SO.nx (e'.set i (some z))
            | none => .bad) = oN ((p x y).map fun z => e'.set i (some z))
          cases p x y <;> rfl
        | exc x e' => rfl
        | bad => rfl
def kFor (g : Tg) (b : SM) (ds : List D) : SM := sLoop g b ds
@[simp] theorem kFor_ap (g : Tg) (b : SM) (ds : List D) (e : Env) : kFor g b ds e = sLoop g b ds e := nr rfl
@[simp] theorem sFor_ap (it : M (List D)) (g : Tg) (b : SM) (e : Env) : sFor it g b e = sK (kFor g b) (it e) := sX_ap ..
def oS : Out D → Out (List D)
  | .ok d e => mopt (seqD d) e
  | .exc x e => .exc x e
  | .bad => .bad
@[simp] theorem oS_ok (d : D) (e : Env) : oS (.ok d e) = mopt (seqD d) e := nr rfl
@[simp] theorem oS_exc (x : Ex) (e : Env) : oS (.exc x e) = .exc x e := nr rfl
@[simp] theorem iSeq_ap (f : M D) (e : Env) : iSeq f e = oS (f e) := by unfold iSeq bnd oS; cases f e <;> rfl
@[simp] theorem iRng_ap (r : List D → Option (List D)) (fs : List (M D)) (e : Env) : iRng r fs e = oL r (mL fs e) := by unfold iRng bnd oL; cases mL fs e <;> rfl
@[simp] theorem runB_ap (ms : List Bool) (n : Nat) (b : SM) (ds : List D) : runB ms n b ds = endO ms (b (ds.map some ++ List.replicate (n - ds.length) none)) := nr rfl
@[simp] theorem endO_nx (ms : List Bool) (e : Env) : endO ms (.nx e) = .ret .non (finE ms e) := nr rfl
@[simp] theorem endO_rt (ms : List Bool) (d : D) (e : Env) : endO ms (.rt d e) = .ret d (finE ms e) := nr rfl
@[simp] theorem endO_exc (ms : List Bool) (x : Ex) (e : Env) : endO ms (.exc x e) = .exc x (finE ms e) := nr rfl
@[simp] theorem finE_nil (e : Env) : finE [] e = [] := nr rfl
@[simp] theorem finE_cons (m : Bool) (ms : List Bool) (o : Option D) (e : Env) : finE (m :: ms) (o :: e) = (if m = true then o else none) :: finE ms e := nr rfl
def oP (i : Nat) (e : Env) : Option (List D × D) → Out D
  | some p => .ok p.2 (e.set i (some (.lst true p.1)))
  | none => .bad
@[simp] theorem oP_some (i : Nat) (e : Env) (ys : List D) (z : D) : oP i e (some (ys, z)) = .ok z (e.set i (some (.lst true ys))) := nr rfl
def oW (op : LMt) (i : Nat) (ds : List D) (e : Env) : Option (Option D) → Out D
  | some (some (.lst true xs)) => oP i e (op xs ds)
  | _ => .bad
@[simp] theorem oW_some (op : LMt) (i : Nat) (ds : List D) (e : Env) (xs : List D) : oW op i ds e (some (some (.lst true xs))) = oP i e (op xs ds) := nr rfl
def oY (op : LMt) (i : Nat) : Out (List D) → Out D
  | .ok ds e => oW op i ds e e[i]?
  | .exc x e => .exc x e
  | .bad => .bad
@[simp] theorem oY_ok (op : LMt) (i : Nat) (ds : List D) (e : Env) : oY op i (.ok ds e) = oW op i ds e e[i]? := nr rfl
@[simp] theorem oY_exc (op : LMt) (i : Nat) (x : Ex) (e : Env) : oY op i (.exc x e) = .exc x e := nr rfl
def oU (op : LMt) (i : Nat) (fs : List (M D)) (e : Env) : Option (Option D) → Out D
  | some (some (.lst true _)) => oY op i (mL fs e)
  | _ => .bad
@[simp] theorem oU_some (op : LMt) (i : Nat) (fs : List (M D)) (e : Env) (xs : List D) : oU op i fs e (some (some (.lst true xs))) = oY op i (mL fs e) := nr rfl
@[simp] theorem eMut_ap (op : LMt) (i : Nat) (fs : List (M D)) (e : Env) : eMut op i fs e = oU op i fs e e[i]? := by
  unfold eMut bnd vVar oU
  cases h : e[i]? with
  | none => rfl
  | some o =>
    cases o with
    | none => rfl
    | some d =>
      cases d with
      | lst o xs =>
        cases o with
        | false => rfl
        | true =>
          dsimp only [bnd]
          cases mL fs e with
          | ok ds e' =>
            show (match e'[i]? with
              | some (some (.lst true xs)) => match op xs ds with
                | some (ys, z) => Out.ok z (e'.set i (some (.lst true ys)))
                | none => .bad
              | _ => .bad) = oW op i ds e' e'[i]?
            cases e'[i]? with
            | none => rfl
            | some o =>
              cases o with
              | none => rfl
              | some d =>
                cases d with
                | lst o xs =>
                  cases o with
                  | false => rfl
                  | true =>
                    show (match op xs ds with
                      | some (ys, z) => Out.ok z (e'.set i (some (.lst true ys)))
                      | none => .bad) = oP i e' (op xs ds)
                    cases op xs ds <;> rfl
                | _ => rfl
          | exc x e' => rfl
          | bad => rfl
      | _ => rfl
end
/-! data -/
@[simp] theorem own_non : D.own .non = false := nr rfl
@[simp] theorem own_bl (b : Bool) : D.own (.bl b) = false := nr rfl
@[simp] theorem own_int (b : Int) : D.own (.int b) = false := nr rfl
@[simp] theorem own_str (b : List Nat) : D.own (.str b) = false := nr rfl
@[simp] theorem own_tup (b : List D) : D.own (.tup b) = false := nr rfl
@[simp] theorem own_scr (b : List Int) : D.own (.scr b) = false := nr rfl
@[simp] theorem own_lst (o : Bool) (b : List D) : D.own (.lst o b) = o := nr rfl
@[simp] theorem own_dct (o : Bool) (b : List (D × D)) : D.own (.dct o b) = o := nr rfl
@[simp] theorem own_ins (o : Bool) (c : Nat) (b : List (Nat × D)) : D.own (.ins o c b) = o := nr rfl
@[simp] theorem frz_non : D.frz .non = .non := nr rfl
@[simp] theorem frz_bl (b : Bool) : D.frz (.bl b) = .bl b := nr rfl
@[simp] theorem frz_int (b : Int) : D.frz (.int b) = .int b := nr rfl
@[simp] theorem frz_str (b : List Nat) : D.frz (.str b) = .str b := nr rfl
@[simp] theorem frz_tup (b : List D) : D.frz (.tup b) = .tup b := nr rfl
@[simp] theorem frz_scr (b : List Int) : D.frz (.scr b) = .scr b := nr rfl
@[simp] theorem frz_lst0 (b : List D) : D.frz (.lst false b) = .lst false b := nr rfl
@[simp] theorem frz_lst1 (b : List D) : D.frz (.lst true b) = .lst false (frzL b) := nr rfl
@[simp] theorem frz_dct0 (b : List (D × D)) : D.frz (.dct false b) = .dct false b := nr rfl
@[simp] theorem frz_dct1 (b : List (D × D)) : D.frz (.dct true b) = .dct false (frzK b) := nr rfl
@[simp] theorem frz_ins0 (c : Nat) (b : List (Nat × D)) : D.frz (.ins false c b) = .ins false c b := nr rfl
@[simp] theorem frz_ins1 (c : Nat) (b : List (Nat × D)) : D.frz (.ins true c b) = .ins false c (frzF b) := nr rfl
@[simp] theorem frzL_nil : frzL [] = [] := nr rfl
@[simp] theorem frzL_cons (d : D) (ds : List D) : frzL (d :: ds) = d.frz :: frzL ds := nr rfl
theorem frz_own : ∀ {d : D}, d.own = false → d.frz = d
  | .non, _ => rfl
  | .bl _, _ => rfl
  | .int _, _ => rfl
  | .str _, _ => rfl
  | .tup _, _ => rfl
  | .scr _, _ => rfl
  | .lst o _, h => by cases o with
    | false => rfl
    | true => cases h
  | .dct o _, h => by cases o with
    | false => rfl
    | true => cases h
  | .ins o _ _, h => by cases o with
    | false => rfl
    | true => cases h
theorem frzL_flat : ∀ {ds : List D}, flat ds = true → frzL ds = ds
  | [], _ => rfl
  | d :: ds, h => by
    have h : (!d.own && flat ds) = true := h
    rw [Bool.and_eq_true] at h
    rw [frzL_cons, frz_own (by simpa using h.1), frzL_flat h.2]
@[simp] theorem flat_nil : flat [] = true := nr rfl
@[simp] theorem flat_cons (d : D) (ds : List D) : flat (d :: ds) = (!d.own && flat ds) := nr rfl
theorem flat_map {α : Type} {f : α → D} (h : ∀ a, (f a).own = false) : ∀ xs : List α, flat (xs.map f) = true
  | [] => rfl
  | x :: xs => by rw [List.map_cons, flat_cons, h, flat_map h xs]; rfl
@[simp] theorem flat_int (xs : List Int) : flat (xs.map D.int) = true := flat_map (fun _ => rfl) xs
@[simp] theorem frzL_int (xs : List Int) : frzL (xs.map D.int) = xs.map D.int := frzL_flat (flat_int xs)
/-! primitives -/
@[simp] theorem pAdd_int (i j : Int) : pAdd (.int i) (.int j) = some (.int (i + j)) := nr rfl
@[simp] theorem pAddI_int (i j : Int) : inpP.pAddI (.int i) (.int j) = some (.int (i + j)) := nr rfl
@[simp] theorem pSub_int (i j : Int) : pSub (.int i) (.int j) = some (.int (i - j)) := nr rfl
@[simp] theorem pMul_int (i j : Int) : pMul (.int i) (.int j) = if (-18446744073709551616 < i ∧ i < 18446744073709551616) ∨ (-18446744073709551616 < j ∧ j < 18446744073709551616) then some (.int (i * j)) else none := nr rfl
@[simp] theorem pDiv_int (i j : Int) : pDiv (.int i) (.int j) = if 0 < j ∧ j < 18446744073709551616 then some (.int (i / j)) else none := nr rfl
@[simp] theorem pMod_int (i j : Int) : pMod (.int i) (.int j) = if 0 < j then some (.int (i % j)) else none := nr rfl
@[simp] theorem pNeg_int (i : Int) : pNeg (.int i) = some (.int (-i)) := nr rfl
@[simp] theorem pLt_int (i j : Int) : pLt (.int i) (.int j) = some (.bl (decide (i < j))) := nr rfl
@[simp] theorem pLe_int (i j : Int) : pLe (.int i) (.int j) = some (.bl (decide (i ≤ j))) := nr rfl
@[simp] theorem pGt_int (i j : Int) : pGt (.int i) (.int j) = some (.bl (decide (j < i))) := nr rfl
@[simp] theorem pGe_int (i j : Int) : pGe (.int i) (.int j) = some (.bl (decide (j ≤ i))) := nr rfl
@[simp] theorem pMin_int (i j : Int) : pMin (.int i) (.int j) = some (.int (min i j)) := nr rfl
@[simp] theorem pMax_int (i j : Int) : pMax (.int i) (.int j) = some (.int (max i j)) := nr rfl
@[simp] theorem pInt_int (i : Int) : pInt (.int i) = some (.int i) := nr rfl
@[simp] theorem pInt_bl (b : Bool) : pInt (.bl b) = some (.int (if b then 1 else 0)) := nr rfl
@[simp] theorem pLen_lst (o : Bool) (xs : List D) : pLen (.lst o xs) = some (.int xs.length) := nr rfl
@[simp] theorem pLen_tup (xs : List D) : pLen (.tup xs) = some (.int xs.length) := nr rfl
@[simp] theorem pLen_scr (xs : List Int) : pLen (.scr xs) = some (.int xs.length) := nr rfl
@[simp] theorem pLen_str (s : List Nat) : pLen (.str s) = if s.length ≤ sizeLine then some (.int s.length) else none := nr rfl
@[simp] theorem pIx_tup (xs : List D) (i : Int) : pIx (.tup xs) (.int i) = atI xs i := nr rfl
@[simp] theorem pIx_scr (xs : List Int) (i : Int) : pIx (.scr xs) (.int i) = (atI xs i).map D.int := nr rfl
@[simp] theorem pIx_lst (o : Bool) (xs : List D) (i : Int) : pIx (.lst o xs) (.int i) = (atI xs i).bind fun d => if d.own = true then none else some d := nr rfl
@[simp] theorem isN_non : isN .non = true := nr rfl
@[simp] theorem pIs_non (ng : Bool) (x : D) : pIs ng x .non = some (.bl (ng != isN x)) := by cases x <;> rfl
@[simp] theorem pIs_bl (ng : Bool) (a b : Bool) : pIs ng (.bl a) (.bl b) = some (.bl (ng != (a == b))) := nr rfl
@[simp] theorem isN_bl (b : Bool) : isN (.bl b) = false := nr rfl
@[simp] theorem isN_int (b : Int) : isN (.int b) = false := nr rfl
@[simp] theorem isN_str (b : List Nat) : isN (.str b) = false := nr rfl
@[simp] theorem isN_tup (b : List D) : isN (.tup b) = false := nr rfl
@[simp] theorem isN_lst (o : Bool) (b : List D) : isN (.lst o b) = false := nr rfl
@[simp] theorem truD_bl (b : Bool) : truD (.bl b) = some b := nr rfl
@[simp] theorem truD_non : truD .non = some false := nr rfl
@[simp] theorem truD_int (b : Int) : truD (.int b) = some (b != 0) := nr rfl
@[simp] theorem truD_lst (o : Bool) (b : List D) : truD (.lst o b) = some (!b.isEmpty) := nr rfl
@[simp] theorem truD_tup (b : List D) : truD (.tup b) = some (!b.isEmpty) := nr rfl
@[simp] theorem truD_scr (b : List Int) : truD (.scr b) = some (!b.isEmpty) := nr rfl
@[simp] theorem seqD_lst (o : Bool) (b : List D) : seqD (.lst o b) = some b := nr rfl
@[simp] theorem seqD_tup (b : List D) : seqD (.tup b) = some b := nr rfl
@[simp] theorem seqD_scr (b : List Int) : seqD (.scr b) = some (b.map D.int) := nr rfl
@[simp] theorem seqD_str (b : List Nat) : seqD (.str b) = some (b.map fun c => .str [c]) := nr rfl
@[simp] theorem oAppend_ap (xs : List D) (d : D) : oAppend xs [d] = if xs.length < 16777216 then some (xs ++ [d], .non) else none := nr rfl
/-! equality -/
@[simp] theorem pEq_ap (ng : Bool) (x y : D) : pEq ng x y = if okE x = true ∧ okE y = true then some (.bl (ng != eqD x y)) else none := by
  unfold pEq
  cases ng <;> simp
@[simp] theorem okE_ap (x : D) : okE x = (sh x 8 && pl x) := nr rfl
@[simp] theorem sh_non (n : Nat) : sh .non n = true := nr rfl
@[simp] theorem sh_bl (b : Bool) (n : Nat) : sh (.bl b) n = true := nr rfl
@[simp] theorem sh_int (b : Int) (n : Nat) : sh (.int b) n = true := nr rfl
@[simp] theorem sh_str (b : List Nat) (n : Nat) : sh (.str b) n = true := nr rfl
@[simp] theorem sh_tup (b : List D) (n : Nat) : sh (.tup b) (n + 1) = shL b n := nr rfl
@[simp] theorem sh_lst (o : Bool) (b : List D) (n : Nat) : sh (.lst o b) (n + 1) = shL b n := nr rfl
@[simp] theorem shL_nil (n : Nat) : shL [] n = true := nr rfl
@[simp] theorem shL_cons (d : D) (b : List D) (n : Nat) : shL (d :: b) n = (sh d n && shL b n) := nr rfl
@[simp] theorem pl_non : pl .non = true := nr rfl
@[simp] theorem pl_bl (b : Bool) : pl (.bl b) = true := nr rfl
@[simp] theorem pl_int (b : Int) : pl (.int b) = true := nr rfl
@[simp] theorem pl_str (b : List Nat) : pl (.str b) = true := nr rfl
@[simp] theorem pl_tup (b : List D) : pl (.tup b) = plL b := nr rfl
@[simp] theorem pl_lst (o : Bool) (b : List D) : pl (.lst o b) = plL b := nr rfl
@[simp] theorem plL_nil : plL [] = true := nr rfl
@[simp] theorem plL_cons (d : D) (b : List D) : plL (d :: b) = (pl d && plL b) := nr rfl
@[simp] theorem shL_mapI {α : Type} (f : α → Int) (n : Nat) : ∀ xs : List α, shL (xs.map fun a => .int (f a)) n = true
  | [] => rfl
  | x :: xs => by rw [List.map_cons, shL_cons, shL_mapI f n xs]; rfl
@[simp] theorem shL_ints (n : Nat) (xs : List Int) : shL (xs.map D.int) n = true := shL_mapI (fun i => i) n xs
@[simp] theorem plL_mapI {α : Type} (f : α → Int) : ∀ xs : List α, plL (xs.map fun a => .int (f a)) = true
  | [] => rfl
  | x :: xs => by rw [List.map_cons, plL_cons, plL_mapI f xs]; rfl
@[simp] theorem plL_ints (xs : List Int) : plL (xs.map D.int) = true := plL_mapI (fun i => i) xs
@[simp] theorem eqD_int (i j : Int) : eqD (.int i) (.int j) = (i == j) := nr rfl
@[simp] theorem eqD_bl (i j : Bool) : eqD (.bl i) (.bl j) = (i == j) := nr rfl
@[simp] theorem eqD_str (i j : List Nat) : eqD (.str i) (.str j) = (i == j) := nr rfl
@[simp] theorem eqD_non : eqD .non .non = true := nr rfl
@[simp] theorem eqD_tup (i j : List D) : eqD (.tup i) (.tup j) = eqDL i j := nr rfl
@[simp] theorem eqD_lst (o o' : Bool) (i j : List D) : eqD (.lst o i) (.lst o' j) = eqDL i j := nr rfl
@[simp] theorem eqD_nonT (xs : List D) : eqD .non (.tup xs) = false := nr rfl
@[simp] theorem eqD_Tnon (xs : List D) : eqD (.tup xs) .non = false := nr rfl
@[simp] theorem eqDL_nil : eqDL [] [] = true := nr rfl
@[simp] theorem eqDL_nilc (x : D) (xs : List D) : eqDL [] (x :: xs) = false := nr rfl
@[simp] theorem eqDL_cnil (x : D) (xs : List D) : eqDL (x :: xs) [] = false := nr rfl
@[simp] theorem eqDL_cons (x y : D) (xs ys : List D) : eqDL (x :: xs) (y :: ys) = (eqD x y && eqDL xs ys) := nr rfl
@[simp] theorem pIsi_ap (t : Nat) (d : D) : pIsi t d = (tyD d).map fun k => .bl (k == t || (t == 0 && k == 1)) := by
  unfold pIsi isTy
  cases tyD d <;> rfl
@[simp] theorem tyD_non : tyD .non = some 6 := nr rfl
@[simp] theorem tyD_bl (b : Bool) : tyD (.bl b) = some 1 := nr rfl
@[simp] theorem tyD_int (b : Int) : tyD (.int b) = some 0 := nr rfl
@[simp] theorem tyD_str (b : List Nat) : tyD (.str b) = some 2 := nr rfl
@[simp] theorem tyD_tup (b : List D) : tyD (.tup b) = some 4 := nr rfl
@[simp] theorem tyD_lst (o : Bool) (b : List D) : tyD (.lst o b) = some 3 := nr rfl
@[simp] theorem tyD_scr (b : List Int) : tyD (.scr b) = some 3 := nr rfl
@[simp] theorem atI_one {α : Type} (x y : α) (xs : List α) : atI (x :: y :: xs) 1 = some y := atI_nat (j := 1) rfl
@[simp] theorem atI_two {α : Type} (x y z : α) (xs : List α) : atI (x :: y :: z :: xs) 2 = some z := atI_nat (j := 2) rfl
@[simp] theorem atI_three {α : Type} (a b c d : α) (xs : List α) : atI (a :: b :: c :: d :: xs) 3 = some d := atI_nat (j := 3) rfl
@[simp] theorem atI_four {α : Type} (a b c d e : α) (xs : List α) : atI (a :: b :: c :: d :: e :: xs) 4 = some e := atI_nat (j := 4) rfl
@[simp] theorem atI_five {α : Type} (a b c d e f : α) (xs : List α) : atI (a :: b :: c :: d :: e :: f :: xs) 5 = some f := atI_nat (j := 5) rfl
@[simp] theorem atI_six {α : Type} (a b c d e f g : α) (xs : List α) : atI (a :: b :: c :: d :: e :: f :: g :: xs) 6 = some g := atI_nat (j := 6) rfl
@[simp] theorem atI_seven {α : Type} (a b c d e f g h : α) (xs : List α) : atI (a :: b :: c :: d :: e :: f :: g :: h :: xs) 7 = some h := atI_nat (j := 7) rfl
/-- an item at a place that is known -/
theorem atI_lt {α : Type} {xs : List α} {i : Int} {j : Nat} (h : i = j) (hj : j < xs.length) : atI xs i = xs[j]? := by
  subst h
  have e := List.getElem?_eq_getElem hj
  rw [e]
  exact atI_nat e
@[simp] theorem atI_zero {α : Type} (x : α) (xs : List α) : atI (x :: xs) 0 = some x := atI_nat (j := 0) rfl
theorem rngD1_if (j : Int) : rngD1 [.int j] = if -i62 ≤ j ∧ j < i62 then some ((List.range j.toNat).map fun i => .int (0 + (i : Nat))) else none := rfl
theorem i62_val : i62 = 4611686018427387904 := rfl
theorem rngD1_of {j : Int} {n : Nat} (hj : j = n) (h : n < 4611686018427387904) : rngD1 [.int j] = some ((List.range n).map fun i => .int (i : Nat)) := by
  subst hj
  rw [rngD1_if, if_pos (by rw [i62_val]; omega), Int.toNat_natCast]
  congr 1
  apply List.map_congr_left
  intro i _
  rw [Int.zero_add]
theorem rngD2_if (i j : Int) : rngD2 [.int i, .int j] = if -i62 ≤ i ∧ i < i62 ∧ -i62 ≤ j ∧ j < i62 then some ((List.range (j - i).toNat).map fun k => .int (i + (k : Nat))) else none := rfl
theorem rngD2_of {i j : Int} {n : Nat} (hn : (j - i).toNat = n) (h : -4611686018427387904 ≤ i ∧ i < 4611686018427387904 ∧ -4611686018427387904 ≤ j ∧ j < 4611686018427387904) : rngD2 [.int i, .int j] = some ((List.range n).map fun k => .int (i + (k : Nat))) := by
  rw [rngD2_if, if_pos (by rw [i62_val]; omega), hn]
/-! ### loops -/
theorem loop_inv {g : Tg} {b : SM} {ds : List D} {e : Env} (I : Nat → Env → Prop) (h0 : I 0 e) (hs : ∀ i d e, ds[i]? = some d → I i e → ∃ e1 e2, g d e = some e1 ∧ (b e1 = .nx e2 ∨ b e1 = .ct e2) ∧ I (i + 1) e2) :
    ∃ e', sLoop g b ds e = .nx e' ∧ I ds.length e' := by
  suffices h : ∀ (ds2 : List D) (i : Nat) (e : Env), (∀ j d, ds2[j]? = some d → ds[i + j]? = some d) → I i e → ∃ e', sLoop g b ds2 e = .nx e' ∧ I (i + ds2.length) e' by
    obtain ⟨e', h1, h2⟩ := h ds 0 e (fun j d hj => by simpa using hj) h0
    exact ⟨e', h1, by simpa using h2⟩
  intro ds2
  induction ds2 with
  | nil => exact fun i e _ h => ⟨e, rfl, h⟩
  | cons d ds2 ih =>
    intro i e hd h
    obtain ⟨e1, e2, h1, h2, h3⟩ := hs i d e (by simpa using hd 0 d rfl) h
    obtain ⟨e', h4, h5⟩ := ih (i + 1) e2 (fun j d' hj => by
      have := hd (j + 1) d' (by simpa using hj)
      rw [show i + 1 + j = i + (j + 1) by omega]
      exact this) h3
    refine ⟨e', ?_, by rw [show i + (d :: ds2).length = i + 1 + ds2.length by simp; omega]; exact h5⟩
    show (match g d e with
      | none => SO.bad
      | some e1 => match b e1 with
        | .nx e' => sLoop g b ds2 e'
        | .ct e' => sLoop g b ds2 e'
        | .bk e' => .nx e'
        | o => o) = _
    rw [h1]
    show (match b e1 with
        | .nx e' => sLoop g b ds2 e'
        | .ct e' => sLoop g b ds2 e'
        | .bk e' => .nx e'
        | o => o) = _
    rcases h2 with h2 | h2
    · rw [h2]; exact h4
    · rw [h2]; exact h4
@[simp] theorem loop_nil (g : Tg) (b : SM) (e : Env) : sLoop g b [] e = .nx e := nr rfl
theorem loop_cons (g : Tg) (b : SM) (d : D) (ds : List D) (e : Env) : sLoop g b (d :: ds) e = (match g d e with
      | none => SO.bad
      | some e1 => match b e1 with
        | .nx e' => sLoop g b ds e'
        | .ct e' => sLoop g b ds e'
        | .bk e' => .nx e'
        | o => o) := nr rfl
/-- while: the measure falls; n the fuel -/
theorem while_inv {c : M Bool} {b : SM} {n : Nat} {e : Env} (I : Env → Prop) (μ : Env → Nat) (h0 : I e) (hn : μ e < n) (hs : ∀ e, I e → (∃ e1, c e = .ok false e1 ∧ I e1 ∧ True) ∨ ∃ e1 e2, c e = .ok true e1 ∧ (b e1 = .nx e2 ∨ b e1 = .ct e2) ∧ I e2 ∧ μ e2 < μ e) :
    ∃ e' e'', I e' ∧ c e' = .ok false e'' ∧ sWhile c b n e = .nx e'' := by
  induction n generalizing e with
  | zero => omega
  | succ n ih =>
    rcases hs e h0 with ⟨e1, h1, h2, _⟩ | ⟨e1, e2, h1, h2, h3, h4⟩
    · refine ⟨e, e1, h0, h1, ?_⟩
      show sX c _ e = _
      rw [sX_ap, h1]
      rfl
    · obtain ⟨e', e'', i1, i2, i3⟩ := ih h3 (by omega)
      refine ⟨e', e'', i1, i2, ?_⟩
      show sX c _ e = _
      rw [sX_ap, h1]
      show (match b e1 with
        | .nx e' => sWhile c b n e'
        | .ct e' => sWhile c b n e'
        | .bk e' => .nx e'
        | o => o) = _
      rcases h2 with h2 | h2
      · rw [h2]; exact i3
      · rw [h2]; exact i3
def wQ (c : M Bool) (b : SM) (n : Nat) : SO → SO
  | .nx e => sWhile c b n e
  | .ct e => sWhile c b n e
  | .bk e => .nx e
  | o => o
def wI (c : M Bool) (b : SM) (n : Nat) : Out Bool → SO
  | .ok true e => wQ c b n (b e)
  | .ok false e => .nx e
  | .exc x e => .exc x e
  | .bad => .bad
@[simp] theorem wI_t (c : M Bool) (b : SM) (n : Nat) (e : Env) : wI c b n (.ok true e) = wQ c b n (b e) := nr rfl
@[simp] theorem wI_f (c : M Bool) (b : SM) (n : Nat) (e : Env) : wI c b n (.ok false e) = .nx e := nr rfl
@[simp] theorem wQ_nx (c : M Bool) (b : SM) (n : Nat) (e : Env) : wQ c b n (.nx e) = sWhile c b n e := nr rfl
@[simp] theorem wQ_ct (c : M Bool) (b : SM) (n : Nat) (e : Env) : wQ c b n (.ct e) = sWhile c b n e := nr rfl
@[simp] theorem wQ_bk (c : M Bool) (b : SM) (n : Nat) (e : Env) : wQ c b n (.bk e) = .nx e := nr rfl
@[simp] theorem wQ_rt (c : M Bool) (b : SM) (n : Nat) (d : D) (e : Env) : wQ c b n (.rt d e) = .rt d e := nr rfl
@[simp] theorem wQ_exc (c : M Bool) (b : SM) (n : Nat) (d : Ex) (e : Env) : wQ c b n (.exc d e) = .exc d e := nr rfl
theorem while_step (c : M Bool) (b : SM) (n : Nat) (e : Env) : sWhile c b (n + 1) e = wI c b n (c e) := by
  show sX c _ e = _
  unfold sX wI
  cases c e with
  | ok k e1 =>
    cases k with
    | false => rfl
    | true =>
      show (match b e1 with
        | .nx e' => sWhile c b n e'
        | .ct e' => sWhile c b n e'
        | .bk e' => .nx e'
        | o => o) = wQ c b n (b e1)
      cases b e1 <;> rfl
  | exc x e1 => rfl
  | bad => rfl
/-- for, one turn -/
def fQ (g : Tg) (b : SM) (ds : List D) : SO → SO
  | .nx e => sLoop g b ds e
  | .ct e => sLoop g b ds e
  | .bk e => .nx e
  | o => o
def fI (g : Tg) (b : SM) (ds : List D) : Option Env → SO
  | some e => fQ g b ds (b e)
  | none => .bad
@[simp] theorem fI_some (g : Tg) (b : SM) (ds : List D) (e : Env) : fI g b ds (some e) = fQ g b ds (b e) := nr rfl
@[simp] theorem fQ_nx (g : Tg) (b : SM) (ds : List D) (e : Env) : fQ g b ds (.nx e) = sLoop g b ds e := nr rfl
@[simp] theorem fQ_ct (g : Tg) (b : SM) (ds : List D) (e : Env) : fQ g b ds (.ct e) = sLoop g b ds e := nr rfl
@[simp] theorem fQ_bk (g : Tg) (b : SM) (ds : List D) (e : Env) : fQ g b ds (.bk e) = .nx e := nr rfl
@[simp] theorem fQ_rt (g : Tg) (b : SM) (ds : List D) (d : D) (e : Env) : fQ g b ds (.rt d e) = .rt d e := nr rfl
@[simp] theorem fQ_exc (g : Tg) (b : SM) (ds : List D) (d : Ex) (e : Env) : fQ g b ds (.exc d e) = .exc d e := nr rfl
theorem for_step (g : Tg) (b : SM) (d : D) (ds : List D) (e : Env) : sLoop g b (d :: ds) e = fI g b ds (g d e) := by
  show (match g d e with
      | none => SO.bad
      | some e1 => match b e1 with
        | .nx e' => sLoop g b ds e'
        | .ct e' => sLoop g b ds e'
        | .bk e' => .nx e'
        | o => o) = _
  cases g d e with
  | none => rfl
  | some e1 =>
    show (match b e1 with
        | .nx e' => sLoop g b ds e'
        | .ct e' => sLoop g b ds e'
        | .bk e' => .nx e'
        | o => o) = fQ g b ds (b e1)
    cases b e1 <;> rfl
end Y

namespace Y
open PySem PySem.Spec PyProof.Rows L2

/-! ### the numbers of a script -/
def nLoop1 : SM := (sSet 3 (e2 pMod (fz (e1 pInt (fz (e2 pAdd (fz (e2 pMul (vVar 3) (mret (D.int 31)))) (vVar 4))))) (mret (D.int 2147483647))))
def nLoop2 : SM := (sIf (tBl (e2 pGt (vVar 5) (mret (D.int 0)))) (sSeq (sDrop (eMut oAppend 2 [fz (e2 pMod (vVar 5) (mret (D.int 10007)))])) (sSet 5 (e2 pDiv (vVar 5) (mret (D.int 10007))))) (sSeq (sSet 7 (mret (D.int 0))) (sSeq (sIf (tBl (e2 pGt (fz (e1 pLen (vVar 0))) (mret (D.int 0)))) (sSet 7 (e1 pInt (fz (e2 pIx (fz (eVar 0)) (fz (e2 pMod (fz (eVar 6)) (fz (e1 pLen (vVar 0))))))))) sNx) (sSeq (sSet 3 (e2 pMod (fz (e1 pInt (fz (e2 pAdd (fz (e2 pAdd (fz (e2 pMul (vVar 3) (mret (D.int 48271)))) (vVar 7))) (vVar 6))))) (mret (D.int 2147483647)))) (sDrop (eMut oAppend 2 [fz (e2 pMod (fz (e2 pDiv (fz (e2 pMod (fz (e1 pInt (fz (e2 pAdd (fz (e2 pMul (vVar 3) (mret (D.int 69621)))) (fz (e2 pMul (vVar 6) (mret (D.int 16807)))))))) (mret (D.int 2147483629)))) (mret (D.int 7)))) (mret (D.int 10007)))]))))))
def fNumbers : Fn := runB [false, false] 8 (sSeq (sSet 2 (eLst [])) (sSeq (sSet 3 (mret (D.int 7))) (sSeq (sFor (iSeq (fz (eVar 0))) (gSet 4) nLoop1) (sSeq (sSet 5 (mret (D.int 0))) (sSeq (sIf (tAndM (tBl (e2 pGt (fz (e1 pLen (vVar 0))) (mret (D.int 0)))) (tBl (e2 pGe (fz (e2 pIx (vVar 0) (mret (D.int 0)))) (mret (D.int 1000000000000000000))))) (sSet 5 (e2 pIx (vVar 0) (mret (D.int 0)))) sNx) (sSeq (sFor (iRng rngD1 [fz (eVar 1)]) (gSet 6) nLoop2) (sRet (eMove 2))))))))
theorem atI_some_of {α : Type} {xs : List α} {i : Int} (h0 : 0 ≤ i) (h1 : i < xs.length) : ∃ x, atI xs i = some x := by
  refine ⟨xs[i.toNat]'(by omega), ?_⟩
  rw [atI_lt (j := i.toNat) (by omega) (by omega), List.getElem?_eq_getElem (by omega)]
theorem numbers (ns : List Int) (n : Nat) (hn : n < 16777216) : ∃ xs : List Int, fNumbers [.scr ns, .int n] = .ret (.lst true (xs.map .int)) [none, none] ∧ xs.length = n ∧ ∀ x ∈ xs, 0 ≤ x ∧ x < 10007 := by
  have l1 : ∃ e', sLoop (gSet 4) nLoop1 (List.map D.int ns) [some (D.scr ns), some (D.int ↑n), some (D.lst true []), some (D.int 7), none, none, none, none] = .nx e' ∧ ∃ s o, e' = [some (D.scr ns), some (D.int ↑n), some (D.lst true []), some (D.int s), o, none, none, none] := by
    refine loop_inv (fun _ e => ∃ s o, e = [some (D.scr ns), some (D.int ↑n), some (D.lst true []), some (D.int s), o, none, none, none]) ⟨7, none, rfl⟩ ?_
    rintro i d e hd ⟨s, o, rfl⟩
    rw [List.getElem?_map] at hd
    cases hx : ns[i]? with
    | none => rw [hx] at hd; cases hd
    | some x =>
      rw [hx] at hd
      cases hd
      refine ⟨_, [some (D.scr ns), some (D.int ↑n), some (D.lst true []), some (D.int ((s * 31 + x) % 2147483647)), some (.int x), none, none, none], rfl, .inl ?_, _, _, rfl⟩
      simp [nLoop1]
  obtain ⟨e1, h1, s, o, rfl⟩ := l1
  have l2 : ∀ left : Int, ∃ e', sLoop (gSet 6) nLoop2 ((List.range n).map fun i => D.int (i : Nat)) [some (D.scr ns), some (D.int ↑n), some (D.lst true []), some (D.int s), o, some (.int left), none, none] = .nx e' ∧
      ∃ (xs : List Int) (s l : Int) (o o6 o7 : Option D), e' = [some (D.scr ns), some (D.int ↑n), some (D.lst true (xs.map .int)), some (D.int s), o, some (.int l), o6, o7] ∧ xs.length = n ∧ ∀ x ∈ xs, 0 ≤ x ∧ x < 10007 := by
    intro left
    have := loop_inv (g := gSet 6) (b := nLoop2) (ds := (List.range n).map fun i => D.int (i : Nat)) (e := [some (D.scr ns), some (D.int ↑n), some (D.lst true []), some (D.int s), o, some (.int left), none, none])
      (fun i e => ∃ (xs : List Int) (s l : Int) (o o6 o7 : Option D), e = [some (D.scr ns), some (D.int ↑n), some (D.lst true (xs.map .int)), some (D.int s), o, some (.int l), o6, o7] ∧ xs.length = i ∧ ∀ x ∈ xs, 0 ≤ x ∧ x < 10007)
      ⟨[], s, left, o, none, none, rfl, rfl, by simp⟩ ?_
    · obtain ⟨e', h, xs, s, l, o, o6, o7, e, hl, hx⟩ := this
      exact ⟨e', h, xs, s, l, o, o6, o7, e, by simpa using hl, hx⟩
    · rintro i d e hd ⟨xs, s, l, o, o6, o7, rfl, hl, hx⟩
      have hi : i < n := by
        have := (List.getElem?_eq_some_iff.mp hd).1
        simpa using this
      have hd : d = .int i := by
        rw [List.getElem?_map, List.getElem?_range hi] at hd
        simpa using hd.symm
      subst hd
      have hlt : xs.length < 16777216 := by omega
      have add : ∀ y : Int, 0 ≤ y → y < 10007 → ∀ x ∈ xs ++ [y], 0 ≤ x ∧ x < 10007 := fun y h0 h1 x h => by
        rcases List.mem_append.mp h with h | h
        · exact hx x h
        · rw [List.mem_singleton.mp h]; exact ⟨h0, h1⟩
      by_cases h : 0 < l
      · refine ⟨_, [some (D.scr ns), some (D.int ↑n), some (D.lst true ((xs ++ [l % 10007]).map .int)), some (D.int s), o, some (.int (l / 10007)), some (.int i), o7], rfl, .inl ?_, _, _, _, _, _, _, rfl, by simp [hl], add _ (Int.emod_nonneg _ (by decide)) (Int.emod_lt_of_pos _ (by decide))⟩
        simp [nLoop2, h, hlt]
      · by_cases hz : 0 < (ns.length : Int)
        · obtain ⟨x, hx'⟩ := atI_some_of (xs := ns) (i := (i : Int) % ns.length) (Int.emod_nonneg _ (by omega)) (Int.emod_lt_of_pos _ hz)
          have hz' : 0 < ns.length := by omega
          refine ⟨_, [some (D.scr ns), some (D.int ↑n), some (D.lst true ((xs ++ [((s * 48271 + x + i) % 2147483647 * 69621 + i * 16807) % 2147483629 / 7 % 10007]).map .int)), some (D.int ((s * 48271 + x + i) % 2147483647)), o, some (.int l), some (.int i), some (.int x)], rfl, .inl ?_, _, _, _, _, _, _, rfl, by simp [hl], add _ (Int.emod_nonneg _ (by decide)) (Int.emod_lt_of_pos _ (by decide))⟩
          simp [nLoop2, h, hlt, hz, hz', hx']
        · have hz' : ¬ 0 < ns.length := by omega
          refine ⟨_, [some (D.scr ns), some (D.int ↑n), some (D.lst true ((xs ++ [((s * 48271 + 0 + i) % 2147483647 * 69621 + i * 16807) % 2147483629 / 7 % 10007]).map .int)), some (D.int ((s * 48271 + 0 + i) % 2147483647)), o, some (.int l), some (.int i), some (.int 0)], rfl, .inl ?_, _, _, _, _, _, _, rfl, by simp [hl], add _ (Int.emod_nonneg _ (by decide)) (Int.emod_lt_of_pos _ (by decide))⟩
          simp [nLoop2, h, hlt, hz, hz']
  have rng := rngD1_of (j := n) (n := n) rfl (by omega)
  have fin : ∀ left : Int, ∃ xs : List Int, endO [false, false] (sQ (sRet (eMove 2)) (sLoop (gSet 6) nLoop2 ((List.range n).map fun i => D.int (i : Nat)) [some (D.scr ns), some (D.int ↑n), some (D.lst true []), some (D.int s), o, some (.int left), none, none])) = .ret (.lst true (xs.map .int)) [none, none] ∧ xs.length = n ∧ ∀ x ∈ xs, 0 ≤ x ∧ x < 10007 := fun left => by
    obtain ⟨e', h, xs, s, l, o, o6, o7, rfl, hl, hx⟩ := l2 left
    refine ⟨xs, ?_, hl, hx⟩
    rw [h]
    simp
  by_cases hz : 0 < ns.length
  · have hz2 : 0 < (ns.length : Int) := by omega
    obtain ⟨x, hx⟩ := atI_some_of (xs := ns) (i := 0) (by omega) hz2
    by_cases hb : 1000000000000000000 ≤ x
    · obtain ⟨xs, h, r⟩ := fin x
      refine ⟨xs, ?_, r⟩
      simpa [fNumbers, List.replicate, h1, hz, hz2, hx, hb, rng] using h
    · obtain ⟨xs, h, r⟩ := fin 0
      refine ⟨xs, ?_, r⟩
      simpa [fNumbers, List.replicate, h1, hz, hz2, hx, hb, rng] using h
  · obtain ⟨xs, h, r⟩ := fin 0
    refine ⟨xs, ?_, r⟩
    have hz2 : ¬ 0 < (ns.length : Int) := by omega
    simpa [fNumbers, List.replicate, h1, hz, hz2, rng] using h
end Y

namespace Y
open PySem PySem.Spec PyProof.Rows L2

/-! ### the law's end, exceptions among the ways -/
theorem cx_false {P : Program} {w : World} {H : Hp} {s : Shared} {e : Value} {s' : Shared} (h : CX P w [] H s (fun _ _ _ => False) e s') : False := by
  obtain ⟨_, _, _, _, _, _, _, _, _, _, _, _, z⟩ := h
  exact z
theorem walk_ofC {l : PySem.W.OpenLaw} {n k : Nat} {q : Program} {loose : List Str} {XP : (Str → Option Value) → Heap → Prop} {YP : World → Heap → Prop} {d : DefRec} {x : Str} {F : Fn} {tb : Tb}
    (hn : l.most = some n) (hz : n ≤ sizeLine) (hdf : d.params.defaults = []) (hr : Room k callerA)
    (hF : ∀ (w : World) (mg : Str → Option Value) (fa : Addr) (h : Heap), YP w h → h.Ns mainGlobals mg → mg d.name = some (.ref fa) →
      ∃ (K : PySem.W.Frag) (fd : FuncData), K.In h ∧ (∀ (s : Shared) (u : Value), BindsTo s fd ⟨[u], []⟩ [(x, u)]) ∧ ∀ base : Heap, K.In base → base.Ns mainGlobals mg → FnOk l.prog w K mg base (CX l.prog w) k fa fd [x] (spD ⟨K, tb⟩ 1 F))
    (hl : ∀ ns : List Int, ns.length ≤ n → ∃ fin, F [.scr ns] = .ret (.bl true) fin) :
    PySem.W.WalkO q loose XP YP l.row.toRowW d [] (fun f vs => PySem.call f vs) := by
  refine Att.attach_call hn hdf fun w s0 s1 mg' mb' fa' o' pm' cd' doc' a' vs' ns' G' Y' ho' hd' hcd' hmg' hobj' hints' hlen' hg' => ?_
  obtain ⟨K, fd, kx, hb, ok⟩ := hF w mg' fa' _ Y' G'.T.g hmg'
  exact law_call (sp := spD ⟨K, tb⟩ 1 F) kx G'.T.g G'.T.b G'.T.builtins G'.T.nolimit hg' hobj' hints' (Nat.le_trans hlen' hz) hr ok hb (fun H hO hS => law_end (G := ⟨K, tb⟩) hO hS (hl ns' hlen')) fun H e s' z => cx_false z
/-- the module's facts -/
def chkM (gls : List (Str × D)) (blt gs : List Str) (K : PySem.W.Frag) : Bool := (gls.all fun p => gOk K p) && ((blt.all fun x => (He.Fa.free x).ok K) && gs.all fun x => (He.Fa.glo x).ok K)
section
variable {K : PySem.W.Frag} {h : Heap} {mg : Str → Option Value} {gls : List (Str × D)} {blt gs : List Str} {tb : Tb}
theorem chkM_gls (X : K.In h) (G : h.Ns mainGlobals mg) (c : chkM gls blt gs K = true) : ∀ x d, gls.lookup x = some d → ∃ v u, mg x = some u ∧ RelV v u ∧ ∀ Fz H, RepF ⟨K, tb⟩ Fz H d v := fun x d e => by
  unfold chkM at c
  rw [Bool.and_eq_true] at c
  have m : (x, d) ∈ gls := by
    rw [← look_eq] at e
    clear c
    induction gls with
    | nil => cases e
    | cons p r ih =>
      obtain ⟨y, b⟩ := p
      have e : (match decide (y = x) with
        | true => some b
        | false => look r x) = some d := e
      by_cases z : y = x
      · rw [decide_eq_true z] at e
        cases e
        rw [z]
        exact List.mem_cons_self ..
      · rw [decide_eq_false z] at e
        exact List.mem_cons_of_mem _ (ih e)
  exact gOk_ok X G (List.all_eq_true.mp c.1 (x, d) m)
theorem chkM_blt (X : K.In h) (G : h.Ns mainGlobals mg) (c : chkM gls blt gs K = true) : ∀ x, x ∈ blt → mg x = none := fun x m => by
  unfold chkM at c
  rw [Bool.and_eq_true, Bool.and_eq_true] at c
  exact He.free_ok X G (List.all_eq_true.mp c.2.1 x m)
theorem chkM_glo (X : K.In h) (G : h.Ns mainGlobals mg) (c : chkM gls blt gs K = true) : ∀ x, x ∈ gs → mg x = some (.ref (He.ga K x)) := fun x m => by
  unfold chkM at c
  rw [Bool.and_eq_true, Bool.and_eq_true] at c
  exact He.glo_ok X G (List.all_eq_true.mp c.2.2 x m)
end
end Y


namespace Ck01
open PySem PySem.Spec PyProof.Rows L2 Y
abbrev prog : Program := PySem.Challenge.pw_tilesure_k01_parts_and_parents
def top (i : Nat) : Stmt := prog.main.body.getD i (.Pass ⟨0, 0, 0, 0⟩)
def gls : List (Str × D) := [("SIDES", .tup [.int 1, .int 2, .int 4, .int 8, .int 16, .int 32])]
def blt : List Str := ["range", "int", "len", "min", "isinstance", "bool", "list"]
abbrev st__law_numbers : Stmt := top 8
def d__law_numbers : He.DefD := ⟨("_law_numbers", none), "_law_numbers", "_law_numbers", defArgs st__law_numbers, defBody st__law_numbers, defScope st__law_numbers, [], []⟩
abbrev st__law_side : Stmt := top 9
def d__law_side : He.DefD := ⟨("_law_side", none), "_law_side", "_law_side", defArgs st__law_side, defBody st__law_side, defScope st__law_side, [], []⟩
abbrev st__law_tile : Stmt := top 10
def d__law_tile : He.DefD := ⟨("_law_tile", none), "_law_tile", "_law_tile", defArgs st__law_tile, defBody st__law_tile, defScope st__law_tile, [], []⟩
abbrev st_parts : Stmt := top 2
def d_parts : He.DefD := ⟨("parts", none), "parts", "parts", defArgs st_parts, defBody st_parts, defScope st_parts, [], []⟩
abbrev st__law_second : Stmt := top 14
def d__law_second : He.DefD := ⟨("_law_second", none), "_law_second", "_law_second", defArgs st__law_second, defBody st__law_second, defScope st__law_second, [], []⟩
abbrev st__law_holds : Stmt := top 11
def d__law_holds : He.DefD := ⟨("_law_holds", none), "_law_holds", "_law_holds", defArgs st__law_holds, defBody st__law_holds, defScope st__law_holds, [], []⟩
abbrev st__law_smallest : Stmt := top 13
def d__law_smallest : He.DefD := ⟨("_law_smallest", none), "_law_smallest", "_law_smallest", defArgs st__law_smallest, defBody st__law_smallest, defScope st__law_smallest, [], []⟩
abbrev st_parent : Stmt := top 3
def d_parent : He.DefD := ⟨("parent", none), "parent", "parent", defArgs st_parent, defBody st_parent, defScope st_parent, [], []⟩
abbrev st_ancestor : Stmt := top 4
def d_ancestor : He.DefD := ⟨("ancestor", none), "ancestor", "ancestor", defArgs st_ancestor, defBody st_ancestor, defScope st_ancestor, [], []⟩
abbrev st_holds : Stmt := top 5
def d_holds : He.DefD := ⟨("holds", none), "holds", "holds", defArgs st_holds, defBody st_holds, defScope st_holds, [], []⟩
abbrev st__law_same : Stmt := top 12
def d__law_same : He.DefD := ⟨("_law_same", none), "_law_same", "_law_same", defArgs st__law_same, defBody st__law_same, defScope st__law_same, [], []⟩
abbrev st_common : Stmt := top 6
def d_common : He.DefD := ⟨("common", none), "common", "common", defArgs st_common, defBody st_common, defScope st_common, [], []⟩
abbrev st_law : Stmt := top 15
def d_law : He.DefD := ⟨("law", none), "law", "law", defArgs st_law, defBody st_law, defScope st_law, [], []⟩
def c__law_numbers : Bd := ⟨⟨[], gls, blt⟩, ["script", "count", "found", "seed", "cell", "left", "k", "own"], defScope st__law_numbers, [false, false]⟩
def f__law_numbers : Fn := (fnD c__law_numbers fuel (defBody st__law_numbers)).getD fun _ => .bad
def fns__law_numbers : List (Str × List Bool × Fn) := ("_law_numbers", [false, false], f__law_numbers) :: []
theorem e__law_numbers : fnD c__law_numbers fuel (defBody st__law_numbers) = some f__law_numbers := by kernel_rfl
def c__law_side : Bd := ⟨⟨fns__law_numbers, gls, blt⟩, ["level"], defScope st__law_side, [false]⟩
def f__law_side : Fn := (fnD c__law_side fuel (defBody st__law_side)).getD fun _ => .bad
def fns__law_side : List (Str × List Bool × Fn) := ("_law_side", [false], f__law_side) :: fns__law_numbers
theorem e__law_side : fnD c__law_side fuel (defBody st__law_side) = some f__law_side := by kernel_rfl
def c__law_tile : Bd := ⟨⟨fns__law_side, gls, blt⟩, ["depth", "a", "b", "level", "side"], defScope st__law_tile, [false, false, false]⟩
def f__law_tile : Fn := (fnD c__law_tile fuel (defBody st__law_tile)).getD fun _ => .bad
def fns__law_tile : List (Str × List Bool × Fn) := ("_law_tile", [false, false, false], f__law_tile) :: fns__law_side
theorem e__law_tile : fnD c__law_tile fuel (defBody st__law_tile) = some f__law_tile := by kernel_rfl
def c_parts : Bd := ⟨⟨fns__law_tile, gls, blt⟩, ["tile", "level", "column", "row", "west", "north"], defScope st_parts, [false]⟩
def f_parts : Fn := (fnD c_parts fuel (defBody st_parts)).getD fun _ => .bad
def fns_parts : List (Str × List Bool × Fn) := ("parts", [false], f_parts) :: fns__law_tile
theorem e_parts : fnD c_parts fuel (defBody st_parts) = some f_parts := by kernel_rfl
def c__law_second : Bd := ⟨⟨fns_parts, gls, blt⟩, ["first", "numbers", "kind", "deep", "side", "column"], defScope st__law_second, [false, false]⟩
def f__law_second : Fn := (fnD c__law_second fuel (defBody st__law_second)).getD fun _ => .bad
def fns__law_second : List (Str × List Bool × Fn) := ("_law_second", [false, false], f__law_second) :: fns_parts
theorem e__law_second : fnD c__law_second fuel (defBody st__law_second) = some f__law_second := by kernel_rfl
def c__law_holds : Bd := ⟨⟨fns__law_second, gls, blt⟩, ["outer", "inner", "side"], defScope st__law_holds, [false, false]⟩
def f__law_holds : Fn := (fnD c__law_holds fuel (defBody st__law_holds)).getD fun _ => .bad
def fns__law_holds : List (Str × List Bool × Fn) := ("_law_holds", [false, false], f__law_holds) :: fns__law_second
theorem e__law_holds : fnD c__law_holds fuel (defBody st__law_holds) = some f__law_holds := by kernel_rfl
def c__law_smallest : Bd := ⟨⟨fns__law_holds, gls, blt⟩, ["one", "other", "found", "level", "side", "tile"], defScope st__law_smallest, [false, false]⟩
def f__law_smallest : Fn := (fnD c__law_smallest fuel (defBody st__law_smallest)).getD fun _ => .bad
def fns__law_smallest : List (Str × List Bool × Fn) := ("_law_smallest", [false, false], f__law_smallest) :: fns__law_holds
theorem e__law_smallest : fnD c__law_smallest fuel (defBody st__law_smallest) = some f__law_smallest := by kernel_rfl
def c_parent : Bd := ⟨⟨fns__law_smallest, gls, blt⟩, ["tile", "level", "column", "row"], defScope st_parent, [false]⟩
def f_parent : Fn := (fnD c_parent fuel (defBody st_parent)).getD fun _ => .bad
def fns_parent : List (Str × List Bool × Fn) := ("parent", [false], f_parent) :: fns__law_smallest
theorem e_parent : fnD c_parent fuel (defBody st_parent) = some f_parent := by kernel_rfl
def c_ancestor : Bd := ⟨⟨fns_parent, gls, blt⟩, ["tile", "level", "side"], defScope st_ancestor, [false, false]⟩
def f_ancestor : Fn := (fnD c_ancestor fuel (defBody st_ancestor)).getD fun _ => .bad
def fns_ancestor : List (Str × List Bool × Fn) := ("ancestor", [false, false], f_ancestor) :: fns_parent
theorem e_ancestor : fnD c_ancestor fuel (defBody st_ancestor) = some f_ancestor := by kernel_rfl
def c_holds : Bd := ⟨⟨fns_ancestor, gls, blt⟩, ["outer", "inner"], defScope st_holds, [false, false]⟩
def f_holds : Fn := (fnD c_holds fuel (defBody st_holds)).getD fun _ => .bad
def fns_holds : List (Str × List Bool × Fn) := ("holds", [false, false], f_holds) :: fns_ancestor
theorem e_holds : fnD c_holds fuel (defBody st_holds) = some f_holds := by kernel_rfl
def c__law_same : Bd := ⟨⟨fns_holds, gls, blt⟩, ["value", "due"], defScope st__law_same, [false, false]⟩
def f__law_same : Fn := (fnD c__law_same fuel (defBody st__law_same)).getD fun _ => .bad
def fns__law_same : List (Str × List Bool × Fn) := ("_law_same", [false, false], f__law_same) :: fns_holds
theorem e__law_same : fnD c__law_same fuel (defBody st__law_same) = some f__law_same := by kernel_rfl
def c_common : Bd := ⟨⟨fns__law_same, gls, blt⟩, ["tile", "other", "level"], defScope st_common, [false, false]⟩
def f_common : Fn := (fnD c_common fuel (defBody st_common)).getD fun _ => .bad
def fns_common : List (Str × List Bool × Fn) := ("common", [false, false], f_common) :: fns__law_same
theorem e_common : fnD c_common fuel (defBody st_common) = some f_common := by kernel_rfl
def c_law : Bd := ⟨⟨fns_common, gls, blt⟩, ["script", "numbers", "tile", "level", "column", "row", "due", "south", "east", "told", "part", "other", "smallest"], defScope st_law, [false]⟩
def f_law : Fn := (fnD c_law fuel (defBody st_law)).getD fun _ => .bad
def fns_law : List (Str × List Bool × Fn) := ("law", [false], f_law) :: fns_common
theorem e_law : fnD c_law fuel (defBody st_law) = some f_law := by kernel_rfl
end Ck01

namespace Ck01
open PySem PySem.Spec PyProof.Rows L2 Y
theorem x__law_numbers : f__law_numbers = fNumbers := by kernel_rfl
theorem x__law_side : f__law_side = runB [false] 1 (sRet (e2 pIx (fz (eLst [mret (D.int 1), mret (D.int 2), mret (D.int 4), mret (D.int 8), mret (D.int 16), mret (D.int 32)])) (vVar 0))) := by kernel_rfl
theorem x__law_tile : f__law_tile = runB [false, false, false] 5 (sSeq (sSet 3 (e2 pMod (vVar 1) (fz (e2 pAdd (vVar 0) (mret (D.int 1)))))) (sSeq (sSet 4 (callP f__law_side [fz (eVar 3)])) (sRet (eTup [fz (eVar 3), fz (e2 pMod (vVar 2) (vVar 4)), fz (e2 pMod (fz (e2 pDiv (vVar 2) (vVar 4))) (vVar 4))])))) := by kernel_rfl
theorem x_parts : f_parts = runB [false] 6 (sSeq (sTgt (gTupM [gSet 1, gSet 2, gSet 3]) (eVar 0)) (sSeq (sSet 4 (e2 pMul (mret (D.int 2)) (vVar 2))) (sSeq (sSet 5 (e2 pMul (mret (D.int 2)) (vVar 3))) (sRet (eLst [fz (eTup [fz (e2 pAdd (vVar 1) (mret (D.int 1))), fz (eVar 4), fz (eVar 5)]), fz (eTup [fz (e2 pAdd (vVar 1) (mret (D.int 1))), fz (e2 pAdd (vVar 4) (mret (D.int 1))), fz (eVar 5)]), fz (eTup [fz (e2 pAdd (vVar 1) (mret (D.int 1))), fz (eVar 4), fz (e2 pAdd (vVar 5) (mret (D.int 1)))]), fz (eTup [fz (e2 pAdd (vVar 1) (mret (D.int 1))), fz (e2 pAdd (vVar 4) (mret (D.int 1))), fz (e2 pAdd (vVar 5) (mret (D.int 1)))])]))))) := by kernel_rfl
theorem x__law_second : f__law_second = runB [false, false] 6 (sSeq (sSet 2 (e2 pMod (fz (e2 pIx (vVar 1) (mret (D.int 3)))) (mret (D.int 4)))) (sSeq (sIf (tAndM (tBl (e2 (pEq false) (vVar 2) (mret (D.int 0)))) (tBl (e2 pLt (fz (e2 pIx (vVar 0) (mret (D.int 0)))) (mret (D.int 4))))) (sSeq (sSet 3 (e2 pAdd (mret (D.int 1)) (fz (e2 pMod (fz (e2 pIx (vVar 1) (mret (D.int 4)))) (fz (e2 pSub (mret (D.int 4)) (fz (e2 pIx (vVar 0) (mret (D.int 0)))))))))) (sSeq (sSet 4 (callP f__law_side [fz (eVar 3)])) (sSeq (sSet 5 (e2 pAdd (fz (e2 pMul (fz (e2 pIx (vVar 0) (mret (D.int 1)))) (vVar 4))) (fz (e2 pMod (fz (e2 pIx (vVar 1) (mret (D.int 5)))) (vVar 4))))) (sRet (eTup [fz (e2 pAdd (fz (e2 pIx (vVar 0) (mret (D.int 0)))) (vVar 3)), fz (eVar 5), fz (e2 pAdd (fz (e2 pMul (fz (e2 pIx (vVar 0) (mret (D.int 2)))) (vVar 4))) (fz (e2 pMod (fz (e2 pIx (vVar 1) (mret (D.int 6)))) (vVar 4))))]))))) sNx) (sSeq (sIf (tAndM (tBl (e2 (pEq false) (vVar 2) (mret (D.int 1)))) (tBl (e2 pGt (fz (e2 pIx (vVar 0) (mret (D.int 0)))) (mret (D.int 0))))) (sRet (eTup [fz (e2 pIx (vVar 0) (mret (D.int 0))), fz (e2 pAdd (fz (e2 pMul (fz (e2 pDiv (fz (e2 pIx (vVar 0) (mret (D.int 1)))) (mret (D.int 2)))) (mret (D.int 2)))) (fz (e2 pMod (fz (e2 pIx (vVar 1) (mret (D.int 5)))) (mret (D.int 2))))), fz (e2 pAdd (fz (e2 pMul (fz (e2 pDiv (fz (e2 pIx (vVar 0) (mret (D.int 2)))) (mret (D.int 2)))) (mret (D.int 2)))) (fz (e2 pMod (fz (e2 pIx (vVar 1) (mret (D.int 6)))) (mret (D.int 2)))))])) sNx) (sRet (callP f__law_tile [mret (D.int 4), fz (e2 pIx (vVar 1) (mret (D.int 4))), fz (e2 pIx (vVar 1) (mret (D.int 5)))]))))) := by kernel_rfl
theorem x__law_holds : f__law_holds = runB [false, false] 3 (sSeq (sIf (tBl (e2 pGt (fz (e2 pIx (vVar 0) (mret (D.int 0)))) (fz (e2 pIx (vVar 1) (mret (D.int 0)))))) (sRet (mret (D.bl false))) sNx) (sSeq (sSet 2 (callP f__law_side [fz (e2 pSub (fz (e2 pIx (vVar 1) (mret (D.int 0)))) (fz (e2 pIx (vVar 0) (mret (D.int 0)))))])) (sRet (eAndM (e2 (pEq false) (fz (e2 pDiv (fz (e2 pIx (vVar 1) (mret (D.int 1)))) (vVar 2))) (fz (e2 pIx (vVar 0) (mret (D.int 1))))) (e2 (pEq false) (fz (e2 pDiv (fz (e2 pIx (vVar 1) (mret (D.int 2)))) (vVar 2))) (fz (e2 pIx (vVar 0) (mret (D.int 2))))))))) := by kernel_rfl
theorem x__law_smallest : f__law_smallest = runB [false, false] 6 (sSeq (sSet 2 (eTup [mret (D.int 0), mret (D.int 0), mret (D.int 0)])) (sSeq (sFor (iRng rngD1 [fz (e2 pAdd (fz (e2 pMin (fz (e2 pIx (vVar 0) (mret (D.int 0)))) (fz (e2 pIx (vVar 1) (mret (D.int 0)))))) (mret (D.int 1)))]) (gSet 3) (sSeq (sSet 4 (callP f__law_side [fz (e2 pSub (fz (e2 pIx (vVar 0) (mret (D.int 0)))) (vVar 3))])) (sSeq (sSet 5 (eTup [fz (eVar 3), fz (e2 pDiv (fz (e2 pIx (vVar 0) (mret (D.int 1)))) (vVar 4)), fz (e2 pDiv (fz (e2 pIx (vVar 0) (mret (D.int 2)))) (vVar 4))])) (sIf (tTru (fz (callP f__law_holds [fz (eVar 5), fz (eVar 1)]))) (sSet 2 (eVar 5)) sNx)))) (sRet (eMove 2)))) := by kernel_rfl
theorem x_parent : f_parent = runB [false] 4 (sSeq (sTgt (gTupM [gSet 1, gSet 2, gSet 3]) (eVar 0)) (sSeq (sIf (tBl (e2 (pEq false) (vVar 1) (mret (D.int 0)))) (sRet (mret D.non)) sNx) (sRet (eTup [fz (e2 pSub (vVar 1) (mret (D.int 1))), fz (e2 pDiv (vVar 2) (mret (D.int 2))), fz (e2 pDiv (vVar 3) (mret (D.int 2)))])))) := by kernel_rfl
theorem x_ancestor : f_ancestor = runB [false, false] 3 (sSeq (sSet 2 (e2 pIx (fz (mret (D.tup [D.int 1, D.int 2, D.int 4, D.int 8, D.int 16, D.int 32]))) (fz (e2 pSub (fz (e2 pIx (vVar 0) (mret (D.int 0)))) (vVar 1))))) (sRet (eTup [fz (eVar 1), fz (e2 pDiv (fz (e2 pIx (vVar 0) (mret (D.int 1)))) (vVar 2)), fz (e2 pDiv (fz (e2 pIx (vVar 0) (mret (D.int 2)))) (vVar 2))]))) := by kernel_rfl
theorem x_holds : f_holds = runB [false, false] 2 (sSeq (sIf (tBl (e2 pGt (fz (e2 pIx (vVar 0) (mret (D.int 0)))) (fz (e2 pIx (vVar 1) (mret (D.int 0)))))) (sRet (mret (D.bl false))) sNx) (sRet (e2 (pEq false) (fz (callP f_ancestor [fz (eVar 1), fz (e2 pIx (vVar 0) (mret (D.int 0)))])) (vVar 0)))) := by kernel_rfl
theorem x__law_same : f__law_same = runB [false, false] 2 (sRet (eAndM (e1 (pIsi 1) (vVar 0)) (e2 (pEq false) (vVar 0) (vVar 1)))) := by kernel_rfl
theorem x_common : f_common = runB [false, false] 3 (sSeq (sSet 2 (e2 pMin (fz (e2 pIx (vVar 0) (mret (D.int 0)))) (fz (e2 pIx (vVar 1) (mret (D.int 0)))))) (sSeq (sWhile (tBl (e2 (pEq true) (fz (callP f_ancestor [fz (eVar 0), fz (eVar 2)])) (fz (callP f_ancestor [fz (eVar 1), fz (eVar 2)])))) (sAug pSub 2 (mret (D.int 1))) 1000000) (sRet (callP f_ancestor [fz (eVar 0), fz (eVar 2)])))) := by kernel_rfl
theorem x_law : f_law = runB [false] 13 (sSeq (sSet 1 (callP f__law_numbers [fz (eVar 0), mret (D.int 8)])) (sSeq (sSet 2 (callP f__law_tile [mret (D.int 4), fz (e2 pIx (vVar 1) (mret (D.int 0))), fz (e2 pIx (vVar 1) (mret (D.int 1)))])) (sSeq (sTgt (gTupM [gSet 3, gSet 4, gSet 5]) (eVar 2)) (sSeq (sSet 6 (eLst [])) (sSeq (sFor (iRng rngD1 [mret (D.int 2)]) (gSet 7) (sFor (iRng rngD1 [mret (D.int 2)]) (gSet 8) (sDrop (eMut oAppend 6 [fz (eTup [fz (e2 pAdd (vVar 3) (mret (D.int 1))), fz (e2 pAdd (fz (e2 pMul (mret (D.int 2)) (vVar 4))) (vVar 8)), fz (e2 pAdd (fz (e2 pMul (mret (D.int 2)) (vVar 5))) (vVar 7))])])))) (sSeq (sSet 9 (callP f_parts [fz (eVar 2)])) (sSeq (sIf (tOrM (tNotM (tTru (fz (e1 (pIsi 3) (vVar 9))))) (tBl (e2 (pEq true) (vVar 9) (vVar 6)))) (sRet (mret (D.bl false))) sNx) (sSeq (sFor (iSeq (fz (eVar 6))) (gSet 10) (sIf (tBl (e2 (pEq true) (fz (callP f_parent [fz (eVar 10)])) (vVar 2))) (sRet (mret (D.bl false))) sNx)) (sSeq (sIf (tBl (e2 (pIs true) (fz (callP f_parent [fz (eTup [mret (D.int 0), mret (D.int 0), mret (D.int 0)])])) (mret D.non))) (sRet (mret (D.bl false))) sNx) (sSeq (sIf (tAndM (tBl (e2 pGt (vVar 3) (mret (D.int 0)))) (tBl (e2 (pEq true) (fz (callP f_parent [fz (eVar 2)])) (fz (eTup [fz (e2 pSub (vVar 3) (mret (D.int 1))), fz (e2 pDiv (vVar 4) (mret (D.int 2))), fz (e2 pDiv (vVar 5) (mret (D.int 2)))]))))) (sRet (mret (D.bl false))) sNx) (sSeq (sSet 11 (callP f__law_second [fz (eVar 2), fz (eVar 1)])) (sSeq (sIf (tOrM (tNotM (tTru (fz (callP f__law_same [fz (callP f_holds [fz (eVar 2), fz (eVar 11)]), fz (callP f__law_holds [fz (eVar 2), fz (eVar 11)])])))) (tNotM (tTru (fz (callP f__law_same [fz (callP f_holds [fz (eVar 11), fz (eVar 2)]), fz (callP f__law_holds [fz (eVar 11), fz (eVar 2)])]))))) (sRet (mret (D.bl false))) sNx) (sSeq (sIf (tBl (e2 (pIs true) (fz (callP f_holds [fz (eVar 2), fz (eVar 2)])) (mret (D.bl true)))) (sRet (mret (D.bl false))) sNx) (sSeq (sSet 12 (callP f__law_smallest [fz (eVar 2), fz (eVar 11)])) (sRet (eAndM (e2 (pEq false) (fz (callP f_common [fz (eVar 2), fz (eVar 11)])) (vVar 12)) (e2 (pEq false) (fz (callP f_common [fz (eVar 11), fz (eVar 2)])) (vVar 12)))))))))))))))))) := by kernel_rfl
end Ck01

namespace Ck01
open PySem PySem.Spec PyProof.Rows L2 Y
abbrev T (l c r : Int) : D := .tup [.int l, .int c, .int r]
def pw (j : Int) : Int := 2 ^ j.toNat
theorem pw_pos (j : Int) : 0 < pw j := Int.pow_pos (by decide)
theorem pw_big {j : Int} (h : j ≤ 5) : pw j < 18446744073709551616 := by
  have h2 : j.toNat ≤ 5 := by omega
  have : (2 : Int) ^ j.toNat ≤ 2 ^ 5 := by
    have := Nat.pow_le_pow_right (n := 2) (by decide) h2
    exact_mod_cast this
  unfold pw
  omega
theorem side {l : Int} (h0 : 0 ≤ l) (h1 : l ≤ 5) : f__law_side [.int l] = .ret (.int (pw l)) [none] := by
  rcases (by omega : l = 0 ∨ l = 1 ∨ l = 2 ∨ l = 3 ∨ l = 4 ∨ l = 5) with rfl | rfl | rfl | rfl | rfl | rfl <;> (rw [x__law_side]; simp [List.replicate, pw])
theorem sides {l : Int} (h0 : 0 ≤ l) (h1 : l ≤ 5) : atI [D.int 1, D.int 2, D.int 4, D.int 8, D.int 16, D.int 32] l = some (.int (pw l)) := by
  rcases (by omega : l = 0 ∨ l = 1 ∨ l = 2 ∨ l = 3 ∨ l = 4 ∨ l = 5) with rfl | rfl | rfl | rfl | rfl | rfl <;> simp [pw]
theorem tile4 (a b : Int) : f__law_tile [.int 4, .int a, .int b] = .ret (T (a % 5) (b % pw (a % 5)) (b / pw (a % 5) % pw (a % 5))) [none, none, none] := by
  have h := side (l := a % 5) (by omega) (by omega)
  have p := pw_pos (a % 5)
  have p2 := pw_big (j := a % 5) (by omega)
  rw [x__law_tile]
  simp [List.replicate, app_ret h, p, p2]
theorem parts_ok (l c r : Int) : f_parts [T l c r] = .ret (.lst true [T (l + 1) (2 * c) (2 * r), T (l + 1) (2 * c + 1) (2 * r), T (l + 1) (2 * c) (2 * r + 1), T (l + 1) (2 * c + 1) (2 * r + 1)]) [none] := by
  rw [x_parts]
  simp [List.replicate]
theorem parent_0 (c r : Int) : f_parent [T 0 c r] = .ret .non [none] := by
  rw [x_parent]
  simp [List.replicate]
theorem parent_1 {l : Int} (c r : Int) (h : l ≠ 0) : f_parent [T l c r] = .ret (T (l - 1) (c / 2) (r / 2)) [none] := by
  rw [x_parent]
  simp [List.replicate, show (l == 0) = false by simpa using h]
theorem anc {l k : Int} (c r : Int) (h0 : k ≤ l) (h1 : l - k ≤ 5) : f_ancestor [T l c r, .int k] = .ret (T k (c / pw (l - k)) (r / pw (l - k))) [none, none] := by
  have h := sides (l := l - k) (by omega) h1
  have p := pw_pos (l - k)
  have p2 := pw_big h1
  rw [x_ancestor]
  simp [List.replicate, h, p, p2]
theorem holds_f {l k : Int} (c r c2 r2 : Int) (h : k < l) : f_holds [T l c r, T k c2 r2] = .ret (.bl false) [none, none] := by
  rw [x_holds]
  simp [List.replicate, h]
theorem holds_t {l k : Int} (c r c2 r2 : Int) (h : l ≤ k) (h1 : k - l ≤ 5) : f_holds [T l c r, T k c2 r2] = .ret (.bl (c2 / pw (k - l) == c && r2 / pw (k - l) == r)) [none, none] := by
  rw [x_holds]
  simp [List.replicate, app_ret (anc c2 r2 h h1), show ¬ k < l by omega]
theorem lholds_f {l k : Int} (c r c2 r2 : Int) (h : k < l) : f__law_holds [T l c r, T k c2 r2] = .ret (.bl false) [none, none] := by
  rw [x__law_holds]
  simp [List.replicate, h]
theorem lholds_t {l k : Int} (c r c2 r2 : Int) (h : l ≤ k) (h1 : k - l ≤ 5) : f__law_holds [T l c r, T k c2 r2] = .ret (.bl (c2 / pw (k - l) == c && r2 / pw (k - l) == r)) [none, none] := by
  have p := pw_pos (k - l)
  have p2 := pw_big h1
  rw [x__law_holds]
  by_cases e : c2 / pw (k - l) = c
  · simp [List.replicate, app_ret (side (l := k - l) (by omega) h1), show ¬ k < l by omega, p, p2, e]
  · simp [List.replicate, app_ret (side (l := k - l) (by omega) h1), show ¬ k < l by omega, p, p2, show (c2 / pw (k - l) == c) = false by simpa using e]
theorem same_ok (a b : Bool) : f__law_same [.bl a, .bl b] = .ret (.bl (a == b)) [none, none] := by
  rw [x__law_same]
  simp [List.replicate]

/-- a tile of the map -/
def Ok (l c r : Int) : Prop := 0 ≤ l ∧ l ≤ 4 ∧ 0 ≤ c ∧ c < pw l ∧ 0 ≤ r ∧ r < pw l
theorem pw_succ {j : Int} (h : 0 ≤ j) : pw (j + 1) = 2 * pw j := by
  unfold pw
  rw [show (j + 1).toNat = j.toNat + 1 by omega, Int.pow_succ, Int.mul_comm]
theorem pw_add {i j : Int} (h : 0 ≤ i) (h2 : 0 ≤ j) : pw (i + j) = pw i * pw j := by
  unfold pw
  rw [show (i + j).toNat = i.toNat + j.toNat by omega, Int.pow_add]
theorem tile4_ok (a b : Int) : Ok (a % 5) (b % pw (a % 5)) (b / pw (a % 5) % pw (a % 5)) := by
  have p := pw_pos (a % 5)
  exact ⟨by omega, by omega, Int.emod_nonneg _ (by omega), Int.emod_lt_of_pos _ p, Int.emod_nonneg _ (by omega), Int.emod_lt_of_pos _ p⟩
theorem second {l c r : Int} (ok : Ok l c r) (n0 n1 n2 n3 n4 n5 n6 n7 : Int) (hn : ∀ x ∈ [n0, n1, n2, n3, n4, n5, n6, n7], 0 ≤ x ∧ x < 10007) :
    ∃ l2 c2 r2, Ok l2 c2 r2 ∧ f__law_second [T l c r, .lst false [.int n0, .int n1, .int n2, .int n3, .int n4, .int n5, .int n6, .int n7]] = .ret (T l2 c2 r2) [none, none] := by
  obtain ⟨o1, o2, o3, o4, o5, o6⟩ := ok
  by_cases k0 : n3 % 4 = 0 ∧ l < 4
  · obtain ⟨k0, k1⟩ := k0
    have hd : 0 < 4 - l := by omega
    have d0 := Int.emod_nonneg n4 (b := 4 - l) (by omega)
    have d1 := Int.emod_lt_of_pos n4 hd
    have hs := side (l := 1 + n4 % (4 - l)) (by omega) (by omega)
    have p := pw_pos (1 + n4 % (4 - l))
    have p2 := pw_big (j := 1 + n4 % (4 - l)) (by omega)
    have pl := pw_pos l
    have e5 := Int.emod_nonneg n5 (b := pw (1 + n4 % (4 - l))) (by omega)
    have e5' := Int.emod_lt_of_pos n5 p
    have e6 := Int.emod_nonneg n6 (b := pw (1 + n4 % (4 - l))) (by omega)
    have e6' := Int.emod_lt_of_pos n6 p
    have pa := pw_add (i := l) (j := 1 + n4 % (4 - l)) o1 (by omega)
    refine ⟨l + (1 + n4 % (4 - l)), c * pw (1 + n4 % (4 - l)) + n5 % pw (1 + n4 % (4 - l)), r * pw (1 + n4 % (4 - l)) + n6 % pw (1 + n4 % (4 - l)), ⟨by omega, by omega, ?_, ?_, ?_, ?_⟩, ?_⟩
    · have := Int.mul_nonneg o3 (Int.le_of_lt p); omega
    · rw [pa]
      have : (c + 1) * pw (1 + n4 % (4 - l)) ≤ pw l * pw (1 + n4 % (4 - l)) := Int.mul_le_mul_of_nonneg_right (by omega) (Int.le_of_lt p)
      rw [Int.add_mul] at this
      omega
    · have := Int.mul_nonneg o5 (Int.le_of_lt p); omega
    · rw [pa]
      have : (r + 1) * pw (1 + n4 % (4 - l)) ≤ pw l * pw (1 + n4 % (4 - l)) := Int.mul_le_mul_of_nonneg_right (by omega) (Int.le_of_lt p)
      rw [Int.add_mul] at this
      omega
    · rw [x__law_second]
      simp [List.replicate, k0, k1, hd, app_ret hs, p, p2, show -18446744073709551616 < pw (1 + n4 % (4 - l)) by omega]
  · by_cases k1 : n3 % 4 = 1 ∧ 0 < l
    · obtain ⟨k1, k2⟩ := k1
      have pl := pw_succ (j := l - 1) (by omega)
      rw [show l - 1 + 1 = l by omega] at pl
      have pp := pw_pos (l - 1)
      refine ⟨l, c / 2 * 2 + n5 % 2, r / 2 * 2 + n6 % 2, ⟨o1, o2, by omega, by omega, by omega, by omega⟩, ?_⟩
      rw [x__law_second]
      simp [List.replicate, k1, k2]
    · refine ⟨_, _, _, tile4_ok n4 n5, ?_⟩
      rw [x__law_second]
      by_cases k2 : n3 % 4 = 0
      · have k3 : ¬ l < 4 := fun z => k0 ⟨k2, z⟩
        simp [List.replicate, k2, k3, app_ret (tile4 n4 n5)]
      · by_cases k4 : n3 % 4 = 1
        · have k3 : ¬ 0 < l := fun z => k1 ⟨k4, z⟩
          simp [List.replicate, k4, k3, app_ret (tile4 n4 n5)]
        · simp [List.replicate, show (n3 % 4 == 0) = false by simpa using k2, show (n3 % 4 == 1) = false by simpa using k4, app_ret (tile4 n4 n5)]

theorem smallest {l c r l2 c2 r2 : Int} (ok : Ok l c r) (ok2 : Ok l2 c2 r2) : ∃ k, 0 ≤ k ∧ k ≤ l ∧ k ≤ l2 ∧ c / pw (l - k) = c2 / pw (l2 - k) ∧ r / pw (l - k) = r2 / pw (l2 - k) ∧
    (∀ j, k < j → j ≤ l → j ≤ l2 → ¬ (c / pw (l - j) = c2 / pw (l2 - j) ∧ r / pw (l - j) = r2 / pw (l2 - j))) ∧ f__law_smallest [T l c r, T l2 c2 r2] = .ret (T k (c / pw (l - k)) (r / pw (l - k))) [none, none] := by
  obtain ⟨o1, o2, o3, o4, o5, o6⟩ := ok
  obtain ⟨q1, q2, q3, q4, q5, q6⟩ := ok2
  have hm : 0 ≤ min l l2 + 1 := by omega
  obtain ⟨n, hn⟩ := Int.eq_ofNat_of_zero_le hm
  have hn1 : 1 ≤ n := by omega
  have rng := rngD1_of (j := min l l2 + 1) (n := n) hn (by omega)
  have lp := loop_inv (g := gSet 3) (b := (sSeq (sSet 4 (callP f__law_side [fz (e2 pSub (fz (e2 pIx (vVar 0) (mret (D.int 0)))) (vVar 3))])) (sSeq (sSet 5 (eTup [fz (eVar 3), fz (e2 pDiv (fz (e2 pIx (vVar 0) (mret (D.int 1)))) (vVar 4)), fz (e2 pDiv (fz (e2 pIx (vVar 0) (mret (D.int 2)))) (vVar 4))])) (sIf (tTru (fz (callP f__law_holds [fz (eVar 5), fz (eVar 1)]))) (sSet 2 (eVar 5)) sNx))))
    (ds := (List.range n).map fun i => D.int (i : Nat)) (e := [some (T l c r), some (T l2 c2 r2), some (T 0 0 0), none, none, none])
    (fun i e => ∃ (k : Int) (f : D) (o3 o4 o5 : Option D), e = [some (T l c r), some (T l2 c2 r2), some f, o3, o4, o5] ∧ (i = 0 → f = T 0 0 0) ∧ (0 < i → 0 ≤ k ∧ k < i ∧ f = T k (c / pw (l - k)) (r / pw (l - k)) ∧ c / pw (l - k) = c2 / pw (l2 - k) ∧ r / pw (l - k) = r2 / pw (l2 - k) ∧
      ∀ j, k < j → j < i → ¬ (c / pw (l - j) = c2 / pw (l2 - j) ∧ r / pw (l - j) = r2 / pw (l2 - j))))
    ⟨0, _, none, none, none, rfl, fun _ => rfl, fun z => absurd z (by omega)⟩ ?_
  · obtain ⟨e', h1, k, f, w3, w4, w5, rfl, _, h2⟩ := lp
    obtain ⟨k0, k1, rfl, h3, h4, h5⟩ := h2 (by simp; omega)
    have k1 : k < n := by simpa using k1
    refine ⟨k, k0, by omega, by omega, h3, h4, fun j j1 j2 j3 => h5 j j1 (by simp; omega), ?_⟩
    rw [x__law_smallest]
    simp [List.replicate, rng, h1]
  · rintro i d e hd ⟨k, f, w3, w4, w5, rfl, f0, f1⟩
    have hi : i < n := by simpa using (List.getElem?_eq_some_iff.mp hd).1
    have hd : d = .int i := by
      rw [List.getElem?_map, List.getElem?_range hi] at hd
      simpa using hd.symm
    subst hd
    have s1 := side (l := l - i) (by omega) (by omega)
    have p := pw_pos (l - i)
    have p2 := pw_big (j := l - i) (by omega)
    have hh := lholds_t (l := i) (k := l2) (c / pw (l - i)) (r / pw (l - i)) c2 r2 (by omega) (by omega)
    by_cases E : c2 / pw (l2 - i) = c / pw (l - i) ∧ r2 / pw (l2 - i) = r / pw (l - i)
    · refine ⟨_, [some (T l c r), some (T l2 c2 r2), some (T i (c / pw (l - i)) (r / pw (l - i))), some (.int i), some (.int (pw (l - i))), some (T i (c / pw (l - i)) (r / pw (l - i)))], rfl, .inl ?_, i, _, _, _, _, rfl, fun z => absurd z (by omega), fun _ => ⟨by omega, by omega, rfl, E.1.symm, E.2.symm, fun j j1 j2 => by omega⟩⟩
      simp [app_ret s1, app_ret hh, p, p2, E.1, E.2]
    · have hE : (c2 / pw (l2 - i) == c / pw (l - i) && r2 / pw (l2 - i) == r / pw (l - i)) = false := by
        rw [Bool.eq_false_iff]
        intro z
        rw [Bool.and_eq_true] at z
        exact E ⟨by simpa using z.1, by simpa using z.2⟩
      have i0 : 0 < i := by
        rcases Nat.eq_zero_or_pos i with z | z
        · exfalso
          subst z
          apply E
          have a1 : c2 / pw (l2 - (0 : Nat)) = 0 := by simpa using Int.ediv_eq_zero_of_lt q3 q4
          have a2 : c / pw (l - (0 : Nat)) = 0 := by simpa using Int.ediv_eq_zero_of_lt o3 o4
          have a3 : r2 / pw (l2 - (0 : Nat)) = 0 := by simpa using Int.ediv_eq_zero_of_lt q5 q6
          have a4 : r / pw (l - (0 : Nat)) = 0 := by simpa using Int.ediv_eq_zero_of_lt o5 o6
          exact ⟨a1.trans a2.symm, a3.trans a4.symm⟩
        · exact z
      obtain ⟨k0, k1, k2, k3, k4, k5⟩ := f1 i0
      refine ⟨_, [some (T l c r), some (T l2 c2 r2), some f, some (.int i), some (.int (pw (l - i))), some (T i (c / pw (l - i)) (r / pw (l - i)))], rfl, .inl ?_, k, _, _, _, _, rfl, fun z => absurd z (by omega), fun _ => ⟨k0, by omega, k2, k3, k4, fun j j1 j2 z => ?_⟩⟩
      · rw [hE] at hh
        simp [app_ret s1, app_ret hh, p, p2]
      · by_cases ji : j < i
        · exact k5 j j1 ji z
        · have : j = i := by omega
          subst this
          exact E ⟨z.1.symm, z.2.symm⟩
theorem common_ok {l c r l2 c2 r2 k : Int} (ok : Ok l c r) (ok2 : Ok l2 c2 r2) (k0 : 0 ≤ k) (k1 : k ≤ l) (k2 : k ≤ l2) (e1 : c / pw (l - k) = c2 / pw (l2 - k)) (e2' : r / pw (l - k) = r2 / pw (l2 - k))
    (hk : ∀ j, k < j → j ≤ l → j ≤ l2 → ¬ (c / pw (l - j) = c2 / pw (l2 - j) ∧ r / pw (l - j) = r2 / pw (l2 - j))) : f_common [T l c r, T l2 c2 r2] = .ret (T k (c / pw (l - k)) (r / pw (l - k))) [none, none] := by
  obtain ⟨o1, o2, o3, o4, o5, o6⟩ := ok
  obtain ⟨q1, q2, q3, q4, q5, q6⟩ := ok2
  have w := while_inv (c := (tBl (e2 (pEq true) (fz (callP f_ancestor [fz (eVar 0), fz (eVar 2)])) (fz (callP f_ancestor [fz (eVar 1), fz (eVar 2)]))))) (b := (sAug pSub 2 (mret (D.int 1)))) (n := 1000000) (e := [some (T l c r), some (T l2 c2 r2), some (.int (min l l2))])
    (fun e => ∃ j : Int, e = [some (T l c r), some (T l2 c2 r2), some (.int j)] ∧ k ≤ j ∧ j ≤ l ∧ j ≤ l2) (fun e => match e with
      | [_, _, some (.int j)] => (j - k).toNat
      | _ => 0) ⟨_, rfl, by omega, by omega, by omega⟩ (by show (min l l2 - k).toNat < 1000000; omega) ?_
  · obtain ⟨e', e'', ⟨j, rfl, j1, j2, j3⟩, h1, h2⟩ := w
    have a1 := anc c r j2 (by omega)
    have a2 := anc c2 r2 j3 (by omega)
    have hj : j = k := by
      by_cases z : k < j
      · exfalso
        have := hk j z j2 j3
        simp [app_ret a1, app_ret a2] at h1
        obtain ⟨h1, _⟩ := h1
        exact this h1
      · omega
    subst hj
    simp [app_ret a1, app_ret a2] at h1
    obtain ⟨_, rfl⟩ := h1
    rw [x_common]
    simp [List.replicate, h2, app_ret a1]
  · rintro e ⟨j, rfl, j1, j2, j3⟩
    have a1 := anc c r j2 (by omega)
    have a2 := anc c2 r2 j3 (by omega)
    by_cases z : c / pw (l - j) = c2 / pw (l2 - j) ∧ r / pw (l - j) = r2 / pw (l2 - j)
    · refine .inl ⟨_, ?_, ⟨j, rfl, j1, j2, j3⟩, trivial⟩
      simp [app_ret a1, app_ret a2, z.1, z.2]
    · have hjk : k < j := by
        rcases (by omega : k < j ∨ k = j) with h | h
        · exact h
        · subst h; exact (z ⟨e1, e2'⟩).elim
      have hz : ((c / pw (l - j) == c2 / pw (l2 - j)) && (r / pw (l - j) == r2 / pw (l2 - j))) = false := by
        rw [Bool.eq_false_iff]
        intro y
        rw [Bool.and_eq_true] at y
        exact z ⟨by simpa using y.1, by simpa using y.2⟩
      refine .inr ⟨[some (T l c r), some (T l2 c2 r2), some (.int j)], [some (T l c r), some (T l2 c2 r2), some (.int (j - 1))], ?_, .inl ?_, ⟨j - 1, rfl, by omega, by omega, by omega⟩, ?_⟩
      · simp [app_ret a1, app_ret a2, hz]
      · simp
      · show (j - 1 - k).toNat < (j - k).toNat
        omega
end Ck01
namespace Ck01
open PySem PySem.Spec PyProof.Rows L2 Y
theorem holds2 {l c r l2 c2 r2 : Int} (ok : Ok l c r) (ok2 : Ok l2 c2 r2) : ∃ b, f_holds [T l c r, T l2 c2 r2] = .ret (.bl b) [none, none] ∧ f__law_holds [T l c r, T l2 c2 r2] = .ret (.bl b) [none, none] := by
  by_cases h : l2 < l
  · exact ⟨_, holds_f c r c2 r2 h, lholds_f c r c2 r2 h⟩
  · exact ⟨_, holds_t c r c2 r2 (by omega) (by have := ok.1; have := ok2.2.1; omega), lholds_t c r c2 r2 (by omega) (by have := ok.1; have := ok2.2.1; omega)⟩
theorem law_ok (ns : List Int) : ∃ fin, f_law [.scr ns] = .ret (.bl true) fin := by
  obtain ⟨xs, h1, hl, hx⟩ := numbers ns 8 (by decide)
  rw [← x__law_numbers] at h1
  match xs, hl with
  | [n0, n1, n2, n3, n4, n5, n6, n7], _ =>
  have h1 : f__law_numbers [.scr ns, .int 8] = .ret (.lst true [.int n0, .int n1, .int n2, .int n3, .int n4, .int n5, .int n6, .int n7]) [none, none] := h1
  have t1 := tile4 n0 n1
  have ok := tile4_ok n0 n1
  generalize n0 % 5 = l at t1 ok
  generalize n1 % pw l = c at t1 ok
  generalize n1 / pw l % pw l = r at t1 ok
  obtain ⟨l2, c2, r2, ok2, t2⟩ := second ok n0 n1 n2 n3 n4 n5 n6 n7 hx
  have pa := parts_ok l c r
  have p1 := parent_1 (l := l + 1) (2 * c) (2 * r) (by have := ok.1; omega)
  have p2 := parent_1 (l := l + 1) (2 * c + 1) (2 * r) (by have := ok.1; omega)
  have p3 := parent_1 (l := l + 1) (2 * c) (2 * r + 1) (by have := ok.1; omega)
  have p4 := parent_1 (l := l + 1) (2 * c + 1) (2 * r + 1) (by have := ok.1; omega)
  have p0 := parent_0 0 0
  refine ⟨[none], ?_⟩
  rw [x_law]
  have d1 : 2 * c / 2 = c := by omega
  have d2 : 2 * r / 2 = r := by omega
  have d3 : (2 * c + 1) / 2 = c := by omega
  have d4 : (2 * r + 1) / 2 = r := by omega
  obtain ⟨b1, u1, v1⟩ := holds2 ok ok2
  obtain ⟨b2, u2, v2⟩ := holds2 ok2 ok
  have hs := holds_t c r c r (Int.le_refl l) (by omega)
  have w0 : pw (l - l) = 1 := by rw [Int.sub_self]; rfl
  rw [w0] at hs
  obtain ⟨k, k0, k1, k2, e1, e2', hk, sm⟩ := smallest ok ok2
  have c1 := common_ok ok ok2 k0 k1 k2 e1 e2' hk
  have c2' := common_ok ok2 ok k0 k2 k1 e1.symm e2'.symm fun j j1 j2 j3 z => hk j j1 j3 j2 ⟨z.1.symm, z.2.symm⟩
  rw [← e1, ← e2'] at c2'
  have rr := rngD1_of (j := 2) (n := 2) rfl (by decide)
  by_cases hl : 0 < l
  · have pp := parent_1 (l := l) c r (by omega)
    simp [List.replicate, app_ret h1, app_ret t1, app_ret t2, app_ret pa, app_ret p0, rr, List.range, List.range.loop, for_step, app_ret p1, app_ret p2, app_ret p3, app_ret p4, d1, d2, d3, d4, hl, app_ret pp, app_ret u1, app_ret v1, app_ret u2, app_ret v2, app_ret (same_ok _ _), app_ret hs, app_ret sm, app_ret c1, app_ret c2']
  · simp [List.replicate, app_ret h1, app_ret t1, app_ret t2, app_ret pa, app_ret p0, rr, List.range, List.range.loop, for_step, app_ret p1, app_ret p2, app_ret p3, app_ret p4, d1, d2, d3, d4, hl, app_ret u1, app_ret v1, app_ret u2, app_ret v2, app_ret (same_ok _ _), app_ret hs, app_ret sm, app_ret c1, app_ret c2']
end Ck01

namespace Ck01
open PySem PySem.Spec PyProof.Rows L2 Y
def dl : List He.DefD := [d__law_numbers, d__law_side, d__law_tile, d_parts, d__law_second, d__law_holds, d__law_smallest, d_parent, d_ancestor, d_holds, d__law_same, d_common, d_law]
def gs : List Str := ["_law_numbers", "_law_side", "_law_tile", "parts", "_law_second", "_law_holds", "_law_smallest", "parent", "ancestor", "holds", "_law_same", "common", "law"]
abbrev chk : PySem.W.Frag → Bool := chkM gls blt gs
abbrev row : PySem.W.OpenRow := PySem.W.OpenLaw.row PySem.Challenge.rw_tilesure_k01_parts_and_parents
def loose0 : List Str := ["SIDES", "parts", "parent", "ancestor", "holds", "common", "_law_numbers", "_law_side", "_law_tile", "_law_holds", "_law_same", "_law_smallest", "_law_second"]
def loose : List Str := loose0
def ob (s : PySem.W.SharedT) : He.AlD := obsCG 4 chk dl (HandSHeadRun.getT s)
theorem ob_eq (s : PySem.W.SharedT) : ob s = (hookC 4 chk dl).obs s.abs := obsCG_eq (HandSHeadRun.getT_eq s)
theorem run (w : World) : HandSHeadRun.RunEq row (PySem.W.view row.prog [15]) (hookC 4 chk dl) ob 1360 loose w := by
  intro os
  kernel_rfl
theorem sc__law_numbers : scB c__law_numbers.N ["script", "count"] (defScope st__law_numbers) = true := by kernel_rfl
theorem pl__law_numbers : plA ["script", "count"] (defArgs st__law_numbers) := fun _ _ _ _ _ _ _ _ _ _ us hl => match us, hl with | [_, _], _ => rfl
theorem sc__law_side : scB c__law_side.N ["level"] (defScope st__law_side) = true := by kernel_rfl
theorem pl__law_side : plA ["level"] (defArgs st__law_side) := fun _ _ _ _ _ _ _ _ _ _ us hl => match us, hl with | [_], _ => rfl
theorem sc__law_tile : scB c__law_tile.N ["depth", "a", "b"] (defScope st__law_tile) = true := by kernel_rfl
theorem pl__law_tile : plA ["depth", "a", "b"] (defArgs st__law_tile) := fun _ _ _ _ _ _ _ _ _ _ us hl => match us, hl with | [_, _, _], _ => rfl
theorem sc_parts : scB c_parts.N ["tile"] (defScope st_parts) = true := by kernel_rfl
theorem pl_parts : plA ["tile"] (defArgs st_parts) := fun _ _ _ _ _ _ _ _ _ _ us hl => match us, hl with | [_], _ => rfl
theorem sc__law_second : scB c__law_second.N ["first", "numbers"] (defScope st__law_second) = true := by kernel_rfl
theorem pl__law_second : plA ["first", "numbers"] (defArgs st__law_second) := fun _ _ _ _ _ _ _ _ _ _ us hl => match us, hl with | [_, _], _ => rfl
theorem sc__law_holds : scB c__law_holds.N ["outer", "inner"] (defScope st__law_holds) = true := by kernel_rfl
theorem pl__law_holds : plA ["outer", "inner"] (defArgs st__law_holds) := fun _ _ _ _ _ _ _ _ _ _ us hl => match us, hl with | [_, _], _ => rfl
theorem sc__law_smallest : scB c__law_smallest.N ["one", "other"] (defScope st__law_smallest) = true := by kernel_rfl
theorem pl__law_smallest : plA ["one", "other"] (defArgs st__law_smallest) := fun _ _ _ _ _ _ _ _ _ _ us hl => match us, hl with | [_, _], _ => rfl
theorem sc_parent : scB c_parent.N ["tile"] (defScope st_parent) = true := by kernel_rfl
theorem pl_parent : plA ["tile"] (defArgs st_parent) := fun _ _ _ _ _ _ _ _ _ _ us hl => match us, hl with | [_], _ => rfl
theorem sc_ancestor : scB c_ancestor.N ["tile", "level"] (defScope st_ancestor) = true := by kernel_rfl
theorem pl_ancestor : plA ["tile", "level"] (defArgs st_ancestor) := fun _ _ _ _ _ _ _ _ _ _ us hl => match us, hl with | [_, _], _ => rfl
theorem sc_holds : scB c_holds.N ["outer", "inner"] (defScope st_holds) = true := by kernel_rfl
theorem pl_holds : plA ["outer", "inner"] (defArgs st_holds) := fun _ _ _ _ _ _ _ _ _ _ us hl => match us, hl with | [_, _], _ => rfl
theorem sc__law_same : scB c__law_same.N ["value", "due"] (defScope st__law_same) = true := by kernel_rfl
theorem pl__law_same : plA ["value", "due"] (defArgs st__law_same) := fun _ _ _ _ _ _ _ _ _ _ us hl => match us, hl with | [_, _], _ => rfl
theorem sc_common : scB c_common.N ["tile", "other"] (defScope st_common) = true := by kernel_rfl
theorem pl_common : plA ["tile", "other"] (defArgs st_common) := fun _ _ _ _ _ _ _ _ _ _ us hl => match us, hl with | [_, _], _ => rfl
theorem sc_law : scB c_law.N ["script"] (defScope st_law) = true := by kernel_rfl
theorem pl_law : plA ["script"] (defArgs st_law) := fun _ _ _ _ _ _ _ _ _ _ us hl => match us, hl with | [_], _ => rfl
section
variable {P : Program} {w : World} {K : PySem.W.Frag} {h base : Heap} {mg : Str → Option Value} {tb : Tb}
theorem m_0 (X : K.In h) (G : h.Ns mainGlobals mg) (c : SaysC chk dl K) : Md P w K mg base ⟨K, tb⟩ 0 ⟨[], gls, blt⟩ := Md.nil rfl rfl (chkM_gls X G c.ck) (chkM_blt X G c.ck)
theorem m_1 (X : K.In h) (G : h.Ns mainGlobals mg) (c : SaysC chk dl K) : Md P w K mg base ⟨K, tb⟩ 1 ⟨fns__law_numbers, gls, blt⟩ := by
  obtain ⟨fd, F⟩ := c.def_ 0 (d := d__law_numbers) rfl
  exact (m_0 X G c).add (call_of (c := c__law_numbers) F rfl rfl (chkM_glo X G c.ck "_law_numbers" (by decide +kernel)) sc__law_numbers rfl pl__law_numbers (m_0 X G c) e__law_numbers) (Nat.le_succ _)
theorem m_2 (X : K.In h) (G : h.Ns mainGlobals mg) (c : SaysC chk dl K) : Md P w K mg base ⟨K, tb⟩ 2 ⟨fns__law_side, gls, blt⟩ := by
  obtain ⟨fd, F⟩ := c.def_ 1 (d := d__law_side) rfl
  exact (m_1 X G c).add (call_of (c := c__law_side) F rfl rfl (chkM_glo X G c.ck "_law_side" (by decide +kernel)) sc__law_side rfl pl__law_side (m_1 X G c) e__law_side) (Nat.le_succ _)
theorem m_3 (X : K.In h) (G : h.Ns mainGlobals mg) (c : SaysC chk dl K) : Md P w K mg base ⟨K, tb⟩ 3 ⟨fns__law_tile, gls, blt⟩ := by
  obtain ⟨fd, F⟩ := c.def_ 2 (d := d__law_tile) rfl
  exact (m_2 X G c).add (call_of (c := c__law_tile) F rfl rfl (chkM_glo X G c.ck "_law_tile" (by decide +kernel)) sc__law_tile rfl pl__law_tile (m_2 X G c) e__law_tile) (Nat.le_succ _)
theorem m_4 (X : K.In h) (G : h.Ns mainGlobals mg) (c : SaysC chk dl K) : Md P w K mg base ⟨K, tb⟩ 4 ⟨fns_parts, gls, blt⟩ := by
  obtain ⟨fd, F⟩ := c.def_ 3 (d := d_parts) rfl
  exact (m_3 X G c).add (call_of (c := c_parts) F rfl rfl (chkM_glo X G c.ck "parts" (by decide +kernel)) sc_parts rfl pl_parts (m_3 X G c) e_parts) (Nat.le_succ _)
theorem m_5 (X : K.In h) (G : h.Ns mainGlobals mg) (c : SaysC chk dl K) : Md P w K mg base ⟨K, tb⟩ 5 ⟨fns__law_second, gls, blt⟩ := by
  obtain ⟨fd, F⟩ := c.def_ 4 (d := d__law_second) rfl
  exact (m_4 X G c).add (call_of (c := c__law_second) F rfl rfl (chkM_glo X G c.ck "_law_second" (by decide +kernel)) sc__law_second rfl pl__law_second (m_4 X G c) e__law_second) (Nat.le_succ _)
theorem m_6 (X : K.In h) (G : h.Ns mainGlobals mg) (c : SaysC chk dl K) : Md P w K mg base ⟨K, tb⟩ 6 ⟨fns__law_holds, gls, blt⟩ := by
  obtain ⟨fd, F⟩ := c.def_ 5 (d := d__law_holds) rfl
  exact (m_5 X G c).add (call_of (c := c__law_holds) F rfl rfl (chkM_glo X G c.ck "_law_holds" (by decide +kernel)) sc__law_holds rfl pl__law_holds (m_5 X G c) e__law_holds) (Nat.le_succ _)
theorem m_7 (X : K.In h) (G : h.Ns mainGlobals mg) (c : SaysC chk dl K) : Md P w K mg base ⟨K, tb⟩ 7 ⟨fns__law_smallest, gls, blt⟩ := by
  obtain ⟨fd, F⟩ := c.def_ 6 (d := d__law_smallest) rfl
  exact (m_6 X G c).add (call_of (c := c__law_smallest) F rfl rfl (chkM_glo X G c.ck "_law_smallest" (by decide +kernel)) sc__law_smallest rfl pl__law_smallest (m_6 X G c) e__law_smallest) (Nat.le_succ _)
theorem m_8 (X : K.In h) (G : h.Ns mainGlobals mg) (c : SaysC chk dl K) : Md P w K mg base ⟨K, tb⟩ 8 ⟨fns_parent, gls, blt⟩ := by
  obtain ⟨fd, F⟩ := c.def_ 7 (d := d_parent) rfl
  exact (m_7 X G c).add (call_of (c := c_parent) F rfl rfl (chkM_glo X G c.ck "parent" (by decide +kernel)) sc_parent rfl pl_parent (m_7 X G c) e_parent) (Nat.le_succ _)
theorem m_9 (X : K.In h) (G : h.Ns mainGlobals mg) (c : SaysC chk dl K) : Md P w K mg base ⟨K, tb⟩ 9 ⟨fns_ancestor, gls, blt⟩ := by
  obtain ⟨fd, F⟩ := c.def_ 8 (d := d_ancestor) rfl
  exact (m_8 X G c).add (call_of (c := c_ancestor) F rfl rfl (chkM_glo X G c.ck "ancestor" (by decide +kernel)) sc_ancestor rfl pl_ancestor (m_8 X G c) e_ancestor) (Nat.le_succ _)
theorem m_10 (X : K.In h) (G : h.Ns mainGlobals mg) (c : SaysC chk dl K) : Md P w K mg base ⟨K, tb⟩ 10 ⟨fns_holds, gls, blt⟩ := by
  obtain ⟨fd, F⟩ := c.def_ 9 (d := d_holds) rfl
  exact (m_9 X G c).add (call_of (c := c_holds) F rfl rfl (chkM_glo X G c.ck "holds" (by decide +kernel)) sc_holds rfl pl_holds (m_9 X G c) e_holds) (Nat.le_succ _)
theorem m_11 (X : K.In h) (G : h.Ns mainGlobals mg) (c : SaysC chk dl K) : Md P w K mg base ⟨K, tb⟩ 11 ⟨fns__law_same, gls, blt⟩ := by
  obtain ⟨fd, F⟩ := c.def_ 10 (d := d__law_same) rfl
  exact (m_10 X G c).add (call_of (c := c__law_same) F rfl rfl (chkM_glo X G c.ck "_law_same" (by decide +kernel)) sc__law_same rfl pl__law_same (m_10 X G c) e__law_same) (Nat.le_succ _)
theorem m_12 (X : K.In h) (G : h.Ns mainGlobals mg) (c : SaysC chk dl K) : Md P w K mg base ⟨K, tb⟩ 12 ⟨fns_common, gls, blt⟩ := by
  obtain ⟨fd, F⟩ := c.def_ 11 (d := d_common) rfl
  exact (m_11 X G c).add (call_of (c := c_common) F rfl rfl (chkM_glo X G c.ck "common" (by decide +kernel)) sc_common rfl pl_common (m_11 X G c) e_common) (Nat.le_succ _)
theorem fin {f : Addr} (X : K.In h) (G : h.Ns mainGlobals mg) (c : SaysC chk dl K) (hf : mg "law" = some (.ref f)) : ∃ fd : FuncData, (∀ (s : Shared) (u : Value), BindsTo s fd ⟨[u], []⟩ [("script", u)]) ∧ ∀ base : Heap, K.In base → base.Ns mainGlobals mg → FnOk P w K mg base (L2.CX P w) 13 f fd ["script"] (spD ⟨K, tb⟩ 1 f_law) := by
  obtain ⟨fd, F⟩ := c.def_ 12 (d := d_law) rfl
  have e := hf.symm.trans (chkM_glo X G c.ck "law" (by decide +kernel))
  cases e
  exact ⟨fd, fun s u => FunD.bindsA (ps := ["script"]) F (fun kV doc pm an cdv ct us hl => pl_law _ _ _ _ _ _ _ _ _ _ us hl) s [u] rfl, fun base _ _ => fnD_ok (c := c_law) F (scB_ok sc_law) rfl (m_12 X G c) e_law⟩
end
end Ck01
open PySem PySem.W PySem.Calls PyProof.Rows
theorem PySem.Challenge.cw_tilesure_k01_parts_and_parents_holds : PySem.Challenge.rw_tilesure_k01_parts_and_parents.Holds := by
  w_on; o_law
  refine HandSHeadRun.head_any (r := OpenLaw.row PySem.Challenge.rw_tilesure_k01_parts_and_parents) (q := view (OpenLaw.row PySem.Challenge.rw_tilesure_k01_parts_and_parents).prog [15]) (H := Y.hookC 4 Ck01.chk Ck01.dl) (ob := Ck01.ob) (M := 1360) (loose := Ck01.loose) (d := HandSHeadRun.topDef (OpenLaw.row PySem.Challenge.rw_tilesure_k01_parts_and_parents).prog 15) (kwd := []) Ck01.ob_eq
    (by kernel_rfl) (fun s => by kernel_rfl) Ck01.run (by kernel_rfl) (by kernel_rfl) (by kernel_rfl) (by rfl) (by first | assumption | decide +kernel) (by decide +kernel) ⟨rfl, rfl, rfl, rfl, rfl, by decide +kernel⟩ ?hw ?hc
  case hw => w_witness2
  case hc =>
    refine Y.walk_ofC (l := PySem.Challenge.rw_tilesure_k01_parts_and_parents) (n := 63) (k := 13) (x := "script") (F := Ck01.f_law) (tb := ⟨fun _ => "", fun _ => ""⟩) rfl (by decide) (by kernel_rfl) ⟨rfl, by decide, by decide⟩ ?F (fun ns _ => Ck01.law_ok ns)
    intro w mg fa h Yh G hmg0
    obtain ⟨K, KX, c⟩ := Yh
    have hmg : mg ("law" : PySem.Str) = some (.ref fa) := by
      have e : (HandSHeadRun.topDef (OpenLaw.row PySem.Challenge.rw_tilesure_k01_parts_and_parents).prog 15).name = ("law" : PySem.Str) := by kernel_rfl
      rw [← e]
      exact hmg0
    obtain ⟨fd, hb, hF⟩ := Ck01.fin (P := (PySem.Challenge.rw_tilesure_k01_parts_and_parents).prog) (w := w) (tb := ⟨fun _ => "", fun _ => ""⟩) KX G c hmg
    exact ⟨K, fd, KX, hb, hF⟩
