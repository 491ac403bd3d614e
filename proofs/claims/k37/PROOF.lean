import PyProof.Rows.All
import Wide.All
import OpenK.AllK
import Wide.FinOn
import HandS.ForMost
import HandS.Exc
import HandS.ExcOwn
import HandS.CallSlots
import HandS.TupAny
import HandS.TupLe
import HandS.TupMul
import HandS.IsInst
import HandS.Wide
import HandS.Flow
import HandS.Style
import HandS.Deep
import KE.DataMinMax
import HandS.SortInts
import HandS.WordsDict
import HandS.WordsExc
import HandS.Zip
import HandS.Small
import HandS.TryMany
import HandS.Ends
import HandS.EndBits
import KE.SortData
import PyProof.TupleOfSeq
import KE.GoesMore
import KE.GoesEnum
import HandS.Iter
import HandS.SetFor
import HandS.Strs
import HandS.Conv
import HandS.SortKw
import KE.KExcSuper
import HandS.ExcInit
import HandS.ExcField
import HandS.NoneIn
import PySem.Challenge.RW_momentroads_k37_whole_orthogonal_polynom
set_option Elab.async false
set_option linter.all false
set_option maxRecDepth 100000
set_option maxHeartbeats 4000000
section
set_option Elab.async false
set_option linter.all false
set_option maxRecDepth 100000
set_option maxHeartbeats 4000000
namespace Pv
open PySem PySem.Spec PyProof.Rows L2

inductive D where
  | non | bl (b : Bool) | int (i : Int) | str (s : Str) | fn (n : Nat)
  | tup (xs : List D) | lst (xs : List D) | dic (ks : List Key) (vs : List D) | scr (ns : List Int)
  deriving Inhabited

def D.isMut : D → Bool
  | .lst _ => true
  | .dic _ _ => true
  | _ => false

structure RC where
  K : PySem.W.Frag
  fa : Nat → Option Addr
  ca : Nat → Option Addr

abbrev Fp := Addr → Prop
abbrev nowhere : Hp := fun _ => none

def Scr (C : RC) (H : Hp) (a : Addr) (ns : List Int) : Prop := (∃ o, H a = some (.frz o (.lst (ns.map V.int)))) ∨ SqL C.K nowhere a (ns.map V.int)

mutual
inductive Sh (C : RC) (Z : Fp) (H : Hp) : V → D → Prop
  | non : Sh C Z H .non .non
  | bl (b : Bool) : Sh C Z H (.bl b) (.bl b)
  | int (i : Int) : Sh C Z H (.int i) (.int i)
  | str (x : Str) : Sh C Z H (.str x) (.str x)
  | fn {n : Nat} {a : Addr} : C.fa n = some a → Sh C Z H (.ref a) (.fn n)
  | tup {a : Addr} {xs : List V} {ds : List D} : SqT C.K H a xs → ShL C Z H xs ds → Sh C Z H (.ref a) (.tup ds)
  | lst {a : Addr} {xs : List V} {ds : List D} : H a = some (.lst xs) → Z a → ShL C Z H xs ds → Sh C Z H (.ref a) (.lst ds)
  | scr {a : Addr} {ns : List Int} : Scr C H a ns → Sh C Z H (.ref a) (.scr ns)
  | dic {a : Addr} {ks : List Key} {xs : List V} {ds : List D} : H a = some (.dK (ks.zip xs)) → Z a → ks.length = xs.length → ShL C Z H xs ds → Sh C Z H (.ref a) (.dic ks ds)
inductive ShL (C : RC) (Z : Fp) (H : Hp) : List V → List D → Prop
  | nil : ShL C Z H [] []
  | cons {v : V} {vs : List V} {d : D} {ds : List D} : Sh C Z H v d → ShL C Z H vs ds → ShL C Z H (v :: vs) (d :: ds)
end

section
variable {C : RC} {Z Z' : Fp} {H H' : Hp}
theorem ShL.length : ∀ {vs : List V} {ds : List D}, ShL C Z H vs ds → vs.length = ds.length
  | _, _, .nil => rfl
  | _, _, .cons _ r => by rw [List.length_cons, List.length_cons, r.length]
theorem ShL.get : ∀ {vs : List V} {ds : List D} {i : Nat} {v : V}, ShL C Z H vs ds → vs[i]? = some v → ∃ d, ds[i]? = some d ∧ Sh C Z H v d
  | _, _, _, _, .nil, e => by simp at e
  | _, _, 0, _, .cons h _, e => by simp at e; subst e; exact ⟨_, rfl, h⟩
  | _, _, i + 1, _, .cons _ r, e => by
    obtain ⟨d, h1, h2⟩ := r.get (i := i) (by simpa using e)
    exact ⟨d, by simpa using h1, h2⟩
theorem ShL.get' : ∀ {vs : List V} {ds : List D} {i : Nat} {d : D}, ShL C Z H vs ds → ds[i]? = some d → ∃ v, vs[i]? = some v ∧ Sh C Z H v d
  | _, _, _, _, .nil, e => by simp at e
  | _, _, 0, _, .cons h _, e => by simp at e; subst e; exact ⟨_, rfl, h⟩
  | _, _, i + 1, _, .cons _ r, e => by
    obtain ⟨d, h1, h2⟩ := r.get' (i := i) (by simpa using e)
    exact ⟨d, by simpa using h1, h2⟩
theorem ShL.append : ∀ {vs ws : List V} {ds es : List D}, ShL C Z H vs ds → ShL C Z H ws es → ShL C Z H (vs ++ ws) (ds ++ es)
  | _, _, _, _, .nil, s => s
  | _, _, _, _, .cons h r, s => .cons h (r.append s)
theorem ShL.take : ∀ {vs : List V} {ds : List D} (n : Nat), ShL C Z H vs ds → ShL C Z H (vs.take n) (ds.take n)
  | _, _, 0, _ => .nil
  | _, _, _ + 1, .nil => .nil
  | _, _, n + 1, .cons h r => .cons h (r.take n)
theorem ShL.drop : ∀ {vs : List V} {ds : List D} (n : Nat), ShL C Z H vs ds → ShL C Z H (vs.drop n) (ds.drop n)
  | _, _, 0, r => r
  | _, _, _ + 1, .nil => .nil
  | _, _, n + 1, .cons _ r => r.drop n
theorem ShL.set {v : V} {d : D} (h : Sh C Z H v d) : ∀ {vs : List V} {ds : List D} (i : Nat), ShL C Z H vs ds → ShL C Z H (vs.set i v) (ds.set i d)
  | _, _, _, .nil => .nil
  | _, _, 0, .cons _ r => .cons h r
  | _, _, i + 1, .cons q r => .cons q (ShL.set h i r)
theorem ShL.snoc {vs : List V} {ds : List D} {v : V} {d : D} (r : ShL C Z H vs ds) (h : Sh C Z H v d) : ShL C Z H (vs ++ [v]) (ds ++ [d]) := r.append (.cons h .nil)
theorem ShL.reverse : ∀ {vs : List V} {ds : List D}, ShL C Z H vs ds → ShL C Z H vs.reverse ds.reverse
  | _, _, .nil => .nil
  | _, _, .cons h r => by rw [List.reverse_cons, List.reverse_cons]; exact r.reverse.snoc h
theorem ShL.flat : ∀ {ls : List V} {k : Nat} {ds : List D}, ShL C Z H ls ds → ShL C Z H (List.replicate k ls).flatten (List.replicate k ds).flatten
  | _, 0, _, _ => .nil
  | _, k + 1, _, h => by rw [List.replicate_succ, List.replicate_succ, List.flatten_cons, List.flatten_cons]; exact h.append h.flat
theorem ShL.ints {ns : List Int} : ∀ {vs : List V}, ShL C Z H vs (ns.map D.int) → vs = ns.map V.int := by
  induction ns with
  | nil => intro vs h; cases h; rfl
  | cons n ns ih =>
    intro vs h
    cases h with
    | cons h r => cases h; rw [List.map_cons, ih r]
theorem ShL.bools {ns : List Bool} : ∀ {vs : List V}, ShL C Z H vs (ns.map D.bl) → vs = ns.map V.bl := by
  induction ns with
  | nil => intro vs h; cases h; rfl
  | cons n ns ih =>
    intro vs h
    cases h with
    | cons h r => cases h; rw [List.map_cons, ih r]
theorem shl_ints : ∀ {ns : List Int}, ShL C Z H (ns.map V.int) (ns.map D.int)
  | [] => .nil
  | n :: ns => .cons (.int n) shl_ints

structure Ext (Z : Fp) (H : Hp) (Z' : Fp) (H' : Hp) : Prop where
  zk : ∀ a o, Z a → H a = some o → H' a = some o
  zm : ∀ a, Z a → Z' a
  tk : ∀ a xs, H a = some (.tup xs) → H' a = some (.tup xs)
  fk : ∀ a o u, H a = some (.frz o u) → H' a = some (.frz o u)
theorem Ext.refl : Ext Z H Z H := ⟨fun _ _ _ h => h, fun _ h => h, fun _ _ h => h, fun _ _ _ h => h⟩
theorem Ext.trans {Z1 Z2 : Fp} {H1 H2 : Hp} (a : Ext Z H Z1 H1) (b : Ext Z1 H1 Z2 H2) : Ext Z H Z2 H2 :=
  ⟨fun x o z h => b.zk x o (a.zm x z) (a.zk x o z h), fun x z => b.zm x (a.zm x z), fun x xs h => b.tk x xs (a.tk x xs h), fun x o u h => b.fk x o u (a.fk x o u h)⟩
theorem Ext.sqT (x : Ext Z H Z' H') {a : Addr} {xs : List V} (h : SqT C.K H a xs) : SqT C.K H' a xs := by
  rcases h with (h | ⟨o, h⟩) | h
  · exact .inl (.inl (x.tk _ _ h))
  · exact .inl (.inr ⟨o, x.fk _ _ _ h⟩)
  · exact .inr h
theorem Ext.scr (x : Ext Z H Z' H') {a : Addr} {ns : List Int} (h : Scr C H a ns) : Scr C H' a ns := by
  rcases h with ⟨o, h⟩ | h
  · exact .inl ⟨o, x.fk _ _ _ h⟩
  · exact .inr h
theorem Scr.sqL {a : Addr} {ns : List Int} (h : Scr C H a ns) : SqL C.K H a (ns.map V.int) := by
  rcases h with ⟨o, h⟩ | h
  · exact .inl (.inr ⟨o, h⟩)
  · rcases h with (h | ⟨o, h⟩) | h
    · cases h
    · cases h
    · exact .inr h
mutual
theorem Sh.ext (x : Ext Z H Z' H') : ∀ (d : D) (v : V), Sh C Z H v d → Sh C Z' H' v d
  | .non, _, h => by cases h; exact .non
  | .bl b, _, h => by cases h; exact .bl b
  | .int i, _, h => by cases h; exact .int i
  | .str y, _, h => by cases h; exact .str y
  | .fn n, _, h => by cases h with | fn e => exact .fn e
  | .tup ds, _, h => by cases h with | tup s r => exact .tup (x.sqT s) (ShL.ext x ds _ r)
  | .lst ds, _, h => by cases h with | lst s z r => exact .lst (x.zk _ _ z s) (x.zm _ z) (ShL.ext x ds _ r)
  | .scr ns, _, h => by cases h with | scr s => exact .scr (x.scr s)
  | .dic ks ds, _, h => by cases h with | dic s z l r => exact .dic (x.zk _ _ z s) (x.zm _ z) l (ShL.ext x ds _ r)
theorem ShL.ext (x : Ext Z H Z' H') : ∀ (ds : List D) (vs : List V), ShL C Z H vs ds → ShL C Z' H' vs ds
  | [], _, h => by cases h; exact .nil
  | d :: ds, _, h => by cases h with | cons h r => exact .cons (Sh.ext x d _ h) (ShL.ext x ds _ r)
end
end

def isM : Option HO → Prop
  | some (.lst _) => True
  | some (.dK _) => True
  | _ => False
def Ow (C : RC) (Z : Fp) (H : Hp) : Nat → V → D → Fp → Prop
  | 0, v, d, A => Sh C Z H v d ∧ ∀ a, ¬ A a
  | k + 1, v, d, A => (d.isMut = false ∧ Sh C Z H v d ∧ ∀ a, ¬ A a) ∨
      (∃ (a : Addr) (xs : List V) (ds : List D) (B : Nat → Fp), v = .ref a ∧ d = .lst ds ∧ H a = some (.lst xs) ∧ xs.length = ds.length ∧ (∀ i x e, xs[i]? = some x → ds[i]? = some e → Ow C Z H k x e (B i)) ∧
        (∀ i j b, B i b → B j b → i = j) ∧ (∀ i, ¬ B i a) ∧ (∀ i b, B i b → i < xs.length) ∧ (∀ b, A b ↔ b = a ∨ ∃ i, B i b)) ∨
      (∃ (a : Addr) (ks : List Key) (xs : List V) (ds : List D), v = .ref a ∧ d = .dic ks ds ∧ H a = some (.dK (ks.zip xs)) ∧ ks.length = xs.length ∧ ShL C Z H xs ds ∧ ∀ b, A b ↔ b = a)
section
variable {C : RC} {Z Z' : Fp} {H H' : Hp}
theorem Ow.sh {v : V} {d : D} (h : Sh C Z H v d) : Ow C Z H 0 v d (fun _ => False) := ⟨h, fun _ z => z⟩
theorem Ow.congr {k : Nat} {v : V} {d : D} {A B : Fp} (h : Ow C Z H k v d A) (e : ∀ a, A a ↔ B a) : Ow C Z H k v d B := by
  have : A = B := funext fun a => propext (e a)
  rw [← this]; exact h
theorem Ow.mut : ∀ {k : Nat} {v : V} {d : D} {A : Fp}, Ow C Z H k v d A → ∀ a, A a → isM (H a)
  | 0, _, _, _, ⟨_, n⟩, a, h => (n a h).elim
  | k + 1, _, _, _, h, a, ha => by
    rcases h with ⟨_, _, n⟩ | ⟨b, xs, ds, B, rfl, rfl, hb, hl, hc, _, _, hi, e⟩ | ⟨b, ks, xs, ds, rfl, rfl, hb, hl, r, e⟩
    · exact (n a ha).elim
    · rcases (e a).mp ha with rfl | ⟨i, q⟩
      · rw [hb]; trivial
      · have hx := hi i a q
        have hy : i < ds.length := hl ▸ hx
        exact (hc i xs[i] ds[i] (List.getElem?_eq_getElem hx) (List.getElem?_eq_getElem hy)).mut a q
    · rw [(e a).mp ha, hb]; trivial
theorem Ow.ext (x : Ext Z H Z' H') : ∀ {k : Nat} {v : V} {d : D} {A : Fp}, Ow C Z H k v d A → (∀ a o, A a → H a = some o → H' a = some o) → Ow C Z' H' k v d A
  | 0, _, _, _, ⟨h, n⟩, _ => ⟨h.ext x, n⟩
  | k + 1, _, _, _, h, hk => by
    rcases h with ⟨m, h, n⟩ | ⟨b, xs, ds, B, rfl, rfl, hb, hl, hc, hd, ha, hi, e⟩ | ⟨b, ks, xs, ds, rfl, rfl, hb, hl, r, e⟩
    · exact .inl ⟨m, h.ext x, n⟩
    · exact .inr (.inl ⟨b, xs, ds, B, rfl, rfl, hk b _ ((e b).mpr (.inl rfl)) hb, hl, fun i y z e1 e2 => (hc i y z e1 e2).ext x fun a o q => hk a o ((e a).mpr (.inr ⟨i, q⟩)), hd, ha, hi, e⟩)
    · exact .inr (.inr ⟨b, ks, xs, ds, rfl, rfl, hk b _ ((e b).mpr rfl) hb, hl, r.ext x, e⟩)
theorem shl_of_ix : ∀ {xs : List V} {ds : List D}, xs.length = ds.length → (∀ (i : Nat) (x : V) (e : D), xs[i]? = some x → ds[i]? = some e → Sh C Z H x e) → ShL C Z H xs ds
  | [], [], _, _ => .nil
  | [], _ :: _, h, _ => by simp at h
  | _ :: _, [], h, _ => by simp at h
  | x :: xs, d :: ds, h, k => .cons (k 0 x d rfl rfl) (shl_of_ix (by simpa using h) fun i y e h1 h2 => k (i + 1) y e (by simpa using h1) (by simpa using h2))
theorem Ow.frz : ∀ {k : Nat} {v : V} {d : D} {A W : Fp}, Ow C Z H k v d A → (∀ a, Z a → W a) → (∀ a, A a → W a) → Sh C W H v d
  | 0, _, _, _, _, ⟨h, n⟩, hz, ha => h.ext ⟨fun _ _ _ q => q, hz, fun _ _ q => q, fun _ _ _ q => q⟩
  | k + 1, _, _, _, W, h, hz, hw => by
    have X : Ext Z H W H := ⟨fun _ _ _ q => q, hz, fun _ _ q => q, fun _ _ _ q => q⟩
    rcases h with ⟨m, h, n⟩ | ⟨b, xs, ds, B, rfl, rfl, hb, hl, hc, hd, ha, hi, e⟩ | ⟨b, ks, xs, ds, rfl, rfl, hb, hl, r, e⟩
    · exact h.ext X
    · exact .lst hb (hw b ((e b).mpr (.inl rfl))) (shl_of_ix hl fun i x y e1 e2 => (hc i x y e1 e2).frz hz fun a q => hw a ((e a).mpr (.inr ⟨i, q⟩)))
    · exact .dic hb (hw b ((e b).mpr rfl)) hl (r.ext X)
theorem Ow.im_inv {k : Nat} {v : V} {d : D} {A : Fp} (h : Ow C Z H k v d A) (m : d.isMut = false) : Sh C Z H v d := by
  cases k with
  | zero => exact h.1
  | succ k =>
    rcases h with ⟨_, h, _⟩ | ⟨_, _, _, _, _, e, _⟩ | ⟨_, _, _, _, _, e, _⟩
    · exact h
    · subst e; cases m
    · subst e; cases m
theorem Ow.lst1 {a : Addr} {xs : List V} {ds : List D} (h : H a = some (.lst xs)) (r : ShL C Z H xs ds) : Ow C Z H 1 (.ref a) (.lst ds) (fun b => b = a) :=
  .inr (.inl ⟨a, xs, ds, fun _ _ => False, rfl, rfl, h, r.length, fun i x e h1 h2 => by
    obtain ⟨d, e1, e2⟩ := r.get h1
    rw [h2] at e1; cases e1
    exact ⟨e2, fun _ z => z⟩, fun _ _ _ z => z.elim, fun _ z => z, fun _ _ z => z.elim, fun b => ⟨.inl, fun z => z.elim id fun ⟨_, q⟩ => q.elim⟩⟩)
theorem Ow.dic1 {a : Addr} {ks : List Key} {xs : List V} {ds : List D} (h : H a = some (.dK (ks.zip xs))) (l : ks.length = xs.length) (r : ShL C Z H xs ds) : Ow C Z H 1 (.ref a) (.dic ks ds) (fun b => b = a) :=
  .inr (.inr ⟨a, ks, xs, ds, rfl, rfl, h, l, r, fun _ => Iff.rfl⟩)
theorem Ow.lst_inv {v : V} {ds : List D} {A : Fp} (h : Ow C Z H 1 v (.lst ds) A) : ∃ a xs, v = .ref a ∧ H a = some (.lst xs) ∧ ShL C Z H xs ds ∧ ∀ b, A b ↔ b = a := by
  rcases h with ⟨m, _⟩ | ⟨b, xs, ds', B, rfl, e0, hb, hl, hc, hd, ha, hi, e⟩ | ⟨b, ks, xs, ds', rfl, e0, hb, hl, r, e⟩
  · cases m
  · cases e0
    refine ⟨b, xs, rfl, hb, shl_of_ix hl fun i x y e1 e2 => (hc i x y e1 e2).1, fun c => ⟨fun q => ?_, fun q => (e c).mpr (.inl q)⟩⟩
    rcases (e c).mp q with q | ⟨i, q⟩
    · exact q
    · have hx := hi i c q
      exact ((hc i xs[i] (ds[i]'(hl ▸ hx)) (List.getElem?_eq_getElem hx) (List.getElem?_eq_getElem _)).2 c q).elim
  · cases e0
theorem Ow.dic_inv {k : Nat} {v : V} {ks : List Key} {ds : List D} {A : Fp} (h : Ow C Z H (k + 1) v (.dic ks ds) A) : ∃ a xs, v = .ref a ∧ H a = some (.dK (ks.zip xs)) ∧ ks.length = xs.length ∧ ShL C Z H xs ds ∧ ∀ b, A b ↔ b = a := by
  rcases h with ⟨m, _⟩ | ⟨b, xs, ds', B, rfl, e0, hb, hl, hc, hd, ha, hi, e⟩ | ⟨b, ks', xs, ds', rfl, e0, hb, hl, r, e⟩
  · cases m
  · cases e0
  · cases e0
    exact ⟨b, xs, rfl, hb, hl, r, e⟩

structure Evo (Z : Fp) (H : Hp) (F : Fp) (Z' : Fp) (H' : Hp) (F' : Fp) : Prop where
  keep : ∀ a o, H a = some o → ¬ F a → H' a = some o
  zm : ∀ a, Z a → Z' a
  zn : ∀ a, Z' a → Z a ∨ F a ∨ H a = none
  fn : ∀ a, F' a → F a ∨ H a = none
theorem Evo.refl {F : Fp} : Evo Z H F Z H F := ⟨fun _ _ h _ => h, fun _ h => h, fun _ h => .inl h, fun _ h => .inl h⟩
theorem Evo.back {F F' : Fp} (e : Evo Z H F Z' H' F') {a : Addr} (h : H' a = none) : F a ∨ H a = none := by
  cases q : H a with
  | none => exact .inr rfl
  | some o =>
    by_cases f : F a
    · exact .inl f
    · rw [e.keep a o q f] at h; cases h
theorem Evo.trans {Z1 Z2 F F1 F2 : Fp} {H1 H2 : Hp} (a : Evo Z H F Z1 H1 F1) (b : Evo Z1 H1 F1 Z2 H2 F2) : Evo Z H F Z2 H2 F2 where
  keep := fun x o h f => b.keep x o (a.keep x o h f) fun q => (a.fn x q).elim f fun z => by rw [h] at z; cases z
  zm := fun x z => b.zm x (a.zm x z)
  zn := fun x z => by
    rcases b.zn x z with z | z | z
    · exact a.zn x z
    · exact .inr (a.fn x z)
    · exact .inr (a.back z)
  fn := fun x z => by
    rcases b.fn x z with z | z
    · exact a.fn x z
    · exact a.back z
theorem Evo.sub {F F' F2 : Fp} (e : Evo Z H F Z' H' F') (h : ∀ a, F2 a → F' a) : Evo Z H F Z' H' F2 := ⟨e.keep, e.zm, e.zn, fun a q => e.fn a (h a q)⟩
theorem Evo.more {F F' G : Fp} (e : Evo Z H F Z' H' F') (h : ∀ a, F a → G a) : Evo Z H G Z' H' F' :=
  ⟨fun a o q n => e.keep a o q fun z => n (h a z), e.zm, fun a z => (e.zn a z).imp id fun q => q.imp (h a) id, fun a z => (e.fn a z).imp (h a) id⟩
theorem Evo.mono0 {F F' : Fp} (e : Evo Z H F Z' H' F') (h : ∀ a, ¬ F a) : Evo Z H (fun _ => False) Z' H' F' := e.more fun a z => h a z
theorem Evo.ext {F F' : Fp} (e : Evo Z H F Z' H' F') (mu : ∀ a, F a → isM (H a)) (nz : ∀ a, F a → ¬ Z a) : Ext Z H Z' H' :=
  ⟨fun a o z h => e.keep a o h fun f => nz a f z, e.zm, fun a xs h => e.keep a _ h fun f => by have := mu a f; rw [h] at this; exact this, fun a o u h => e.keep a _ h fun f => by have := mu a f; rw [h] at this; exact this⟩
end

abbrev Sl := Option (D × Nat)
abbrev En := List Sl
abbrev Tot (φ : Nat → Fp) : Fp := fun a => ∃ i, φ i a
structure Stt (C : RC) (io : List Nat) (σ₀ : L2.St) (Z : Fp) (σ : L2.St) (H : Hp) (env : En) (φ : Nat → Fp) : Prop where
  len : σ.length = env.length
  slot : ∀ i d k, env[i]? = some (some (d, k)) → ∃ v, σ[i]? = some (some v) ∧ Ow C Z H k v d (φ i)
  off : ∀ i, (∀ p, env[i]? ≠ some (some p)) → ∀ a, ¬ φ i a
  dj : ∀ i j a, φ i a → φ j a → i = j
  nz : ∀ i a, φ i a → ¬ Z a
  zh : ∀ a, Z a → H a ≠ none
  l0 : io ≠ [] → σ.length = σ₀.length
  io : ∀ i ∈ io, σ[i]? = σ₀[i]?
section
variable {C : RC} {io : List Nat} {σ₀ σ : L2.St} {Z Z' : Fp} {H H' : Hp} {env : En} {φ : Nat → Fp}
theorem Stt.mu (S : Stt C io σ₀ Z σ H env φ) : ∀ a, Tot φ a → isM (H a) := fun a ⟨i, h⟩ => by
  by_cases q : ∃ p, env[i]? = some (some p)
  · obtain ⟨⟨d, k⟩, q⟩ := q
    obtain ⟨v, _, o⟩ := S.slot i d k q
    exact o.mut a h
  · exact (S.off i (fun p e => q ⟨p, e⟩) a h).elim
theorem Stt.tnz (S : Stt C io σ₀ Z σ H env φ) : ∀ a, Tot φ a → ¬ Z a := fun a ⟨i, h⟩ => S.nz i a h
theorem Stt.ext (S : Stt C io σ₀ Z σ H env φ) {F' : Fp} (e : Evo Z H (Tot φ) Z' H' F') : Ext Z H Z' H' := e.ext S.mu S.tnz
theorem Stt.put {i : Nat} {v : V} {d : D} {k : Nat} {A : Fp} (S : Stt C io σ₀ Z σ H env φ) (hi : i < env.length) (hio : i ∉ io) (o : Ow C Z H k v d A) (dj : ∀ j a, j ≠ i → φ j a → ¬ A a) (nz : ∀ a, A a → ¬ Z a) :
    Stt C io σ₀ Z (σ.set i (some v)) H (env.set i (some (d, k))) (fun j => if j = i then A else φ j) where
  len := by simp [S.len]
  slot := fun j e l h => by
    by_cases q : j = i
    · subst q
      rw [List.getElem?_set_self hi] at h
      cases h
      exact ⟨v, List.getElem?_set_self (by rw [S.len]; exact hi), by rw [if_pos rfl]; exact o⟩
    · rw [List.getElem?_set_ne (Ne.symm q)] at h
      obtain ⟨w, h1, h2⟩ := S.slot j e l h
      exact ⟨w, by rw [List.getElem?_set_ne (Ne.symm q)]; exact h1, by rw [if_neg q]; exact h2⟩
  off := fun j h a => by
    by_cases q : j = i
    · subst q
      exact (h (d, k) (List.getElem?_set_self hi)).elim
    · rw [if_neg q]
      exact S.off j (fun p => by have := h p; rwa [List.getElem?_set_ne (Ne.symm q)] at this) a
  dj := fun j l a h1 h2 => by
    by_cases q : j = i
    · subst q
      rw [if_pos rfl] at h1
      by_cases r : l = j
      · exact r.symm
      · rw [if_neg r] at h2
        exact (dj l a r h2 h1).elim
    · rw [if_neg q] at h1
      by_cases r : l = i
      · subst r
        rw [if_pos rfl] at h2
        exact (dj j a q h1 h2).elim
      · rw [if_neg r] at h2
        exact S.dj j l a h1 h2
  nz := fun j a h => by
    by_cases q : j = i
    · rw [if_pos q] at h; exact nz a h
    · rw [if_neg q] at h; exact S.nz j a h
  zh := S.zh
  io := fun j h => by
    rw [List.getElem?_set_ne (fun e : i = j => hio (by rw [e]; exact h))]
    exact S.io j h
  l0 := fun h => by rw [List.length_set]; exact S.l0 h
theorem Stt.drop (i : Nat) (S : Stt C io σ₀ Z σ H env φ) : Stt C io σ₀ Z σ H (env.set i none) (fun j a => j ≠ i ∧ φ j a) where
  len := by simp [S.len]
  slot := fun j e l h => by
    by_cases q : j = i
    · subst q
      by_cases hj : j < env.length
      · rw [List.getElem?_set_self hj] at h; cases h
      · rw [List.getElem?_eq_none (by simpa using hj)] at h; cases h
    · rw [List.getElem?_set_ne (Ne.symm q)] at h
      obtain ⟨w, h1, h2⟩ := S.slot j e l h
      exact ⟨w, h1, h2.congr fun a => ⟨fun z => ⟨q, z⟩, fun z => z.2⟩⟩
  off := fun j h a ⟨q, z⟩ => S.off j (fun p => by have := h p; rwa [List.getElem?_set_ne (Ne.symm q)] at this) a z
  dj := fun j l a h1 h2 => S.dj j l a h1.2 h2.2
  nz := fun j a h => S.nz j a h.2
  zh := S.zh
  io := S.io
  l0 := S.l0
theorem Stt.reput {i : Nat} {v : V} {d : D} {k : Nat} {A : Fp} (S : Stt C io σ₀ Z σ H env φ) (hi : i < env.length) (hv : σ[i]? = some (some v)) (o : Ow C Z H k v d A) (dj : ∀ j a, j ≠ i → φ j a → ¬ A a) (nz : ∀ a, A a → ¬ Z a) :
    Stt C io σ₀ Z σ H (env.set i (some (d, k))) (fun j => if j = i then A else φ j) where
  len := by simp [S.len]
  slot := fun j e l h => by
    by_cases q : j = i
    · subst q
      rw [List.getElem?_set_self hi] at h
      cases h
      exact ⟨v, hv, by rw [if_pos rfl]; exact o⟩
    · rw [List.getElem?_set_ne (Ne.symm q)] at h
      obtain ⟨w, h1, h2⟩ := S.slot j e l h
      exact ⟨w, h1, by rw [if_neg q]; exact h2⟩
  off := fun j h a => by
    by_cases q : j = i
    · subst q
      exact (h (d, k) (List.getElem?_set_self hi)).elim
    · rw [if_neg q]
      exact S.off j (fun p => by have := h p; rwa [List.getElem?_set_ne (Ne.symm q)] at this) a
  dj := fun j l a h1 h2 => by
    by_cases q : j = i
    · subst q
      rw [if_pos rfl] at h1
      by_cases r : l = j
      · exact r.symm
      · rw [if_neg r] at h2
        exact (dj l a r h2 h1).elim
    · rw [if_neg q] at h1
      by_cases r : l = i
      · subst r
        rw [if_pos rfl] at h2
        exact (dj j a q h1 h2).elim
      · rw [if_neg r] at h2
        exact S.dj j l a h1 h2
  nz := fun j a h => by
    by_cases q : j = i
    · rw [if_pos q] at h; exact nz a h
    · rw [if_neg q] at h; exact S.nz j a h
  zh := S.zh
  io := S.io
  l0 := S.l0
theorem Stt.go (S : Stt C io σ₀ Z σ H env φ) (x : Ext Z H Z' H') (k : ∀ a o, Tot φ a → H a = some o → H' a = some o) (nz : ∀ a, Tot φ a → ¬ Z' a) (zh : ∀ a, Z' a → H' a ≠ none) : Stt C io σ₀ Z' σ H' env φ where
  len := S.len
  slot := fun i d l h => by
    obtain ⟨v, h1, h2⟩ := S.slot i d l h
    exact ⟨v, h1, h2.ext x fun a o q => k a o ⟨i, q⟩⟩
  off := S.off
  dj := S.dj
  nz := fun i a h => nz a ⟨i, h⟩
  zh := zh
  io := S.io
  l0 := S.l0
theorem Ext.new {p : Addr} {o : HO} (h : H p = none) : Ext Z H Z (upd H p o) :=
  ⟨fun a u _ e => by rw [upd_ne (ne_of_none e h)]; exact e, fun _ z => z, fun a u e => by rw [upd_ne (ne_of_none e h)]; exact e, fun a u w e => by rw [upd_ne (ne_of_none e h)]; exact e⟩
theorem Stt.new {p : Addr} {o : HO} (S : Stt C io σ₀ Z σ H env φ) (h : H p = none) : Stt C io σ₀ Z σ (upd H p o) env φ :=
  S.go (Ext.new h) (fun a u _ e => by rw [upd_ne (ne_of_none e h)]; exact e) S.tnz fun a z => by
    by_cases q : a = p
    · subst q; rw [upd_same]; exact Option.some_ne_none _
    · rw [upd_ne q]; exact S.zh a z
theorem Stt.fresh (S : Stt C io σ₀ Z σ H env φ) (h : H a = none) : ¬ Z a ∧ ¬ Tot φ a := ⟨fun z => S.zh a z h, fun z => by have := S.mu a z; rw [h] at this; exact this⟩
end
end Pv
end

section
set_option Elab.async false
set_option linter.all false
set_option maxRecDepth 100000
set_option maxHeartbeats 4000000
namespace Pv
open PySem PySem.Spec PyProof.Rows L2

inductive Xn where
  | mk (c : Nat) (fs : List (Str × D))
inductive R (α : Type) where
  | ok (a : α) (e : En) | ex (x : Xn) | no
def R.bind {α β : Type} (r : R α) (f : α → En → R β) : R β :=
  match r with
  | .ok a e => f a e
  | .ex x => .ex x
  | .no => .no
@[simp] theorem R.bind_ok {α β : Type} (a : α) (e : En) (f : α → En → R β) : (R.ok a e).bind f = f a e := rfl
@[simp] theorem R.bind_ex {α β : Type} (x : Xn) (f : α → En → R β) : (R.ex x : R α).bind f = .ex x := rfl
@[simp] theorem R.bind_no {α β : Type} (f : α → En → R β) : (R.no : R α).bind f = .no := rfl
def R.of {α : Type} (o : Option α) (e : En) : R α :=
  match o with
  | some a => .ok a e
  | none => .no
@[simp] theorem R.of_some {α : Type} (a : α) (e : En) : R.of (some a) e = .ok a e := rfl
@[simp] theorem R.of_none {α : Type} (e : En) : R.of (none : Option α) e = .no := rfl

def ExR (C : RC) (Z : Fp) (H : Hp) : Xn → Value → Option Addr → Prop
  | .mk c fs, cls, dx => ∃ a, C.ca c = some a ∧ cls = .ref a ∧ (fs = [] ∨ ∃ dd gs, dx = some dd ∧ H dd = some (.xd gs) ∧ gs.map (·.1) = fs.map (·.1) ∧ ShL C Z H (gs.map (·.2)) (fs.map (·.2)))

structure Ct where
  X : Cx
  C : RC
  W : WX
  io : List Nat
  σ₀ : L2.St
structure Good (Γ : Ct) : Prop where
  hK : Γ.C.K = Γ.X.K
  nd : Γ.X.N.Nodup
  calm : Γ.X.calm = true
  tk : Takes Γ.X Γ.W
abbrev SttC (Γ : Ct) := Stt Γ.C Γ.io Γ.σ₀

def PostX (Γ : Ct) (σ : L2.St) (Z : Fp) (H : Hp) (F : Fp) (x : Xn) : Prop :=
  ∀ cls dx H' Z', Evo Z H F Z' H' (fun _ => False) → (∀ a, Z' a → H' a ≠ none) → ExR Γ.C Z' H' x cls dx → Γ.W cls dx σ H'
abbrev Rel (α β : Type) := Fp → Fp → Hp → α → β → Prop
def Post {α β : Type} (Γ : Ct) (σ : L2.St) (Z : Fp) (H : Hp) (F : Fp) (rel : Rel α β) (r : R α) (Q : β → Hp → Prop) : Prop :=
  match r with
  | .ok a env' => ∀ b H' Z' φ' A, SttC Γ Z' σ H' env' φ' → rel A Z' H' a b → (∀ x, A x → ¬ Tot φ' x ∧ ¬ Z' x) → Evo Z H F Z' H' (fun x => Tot φ' x ∨ A x) → Q b H'
  | .ex x => PostX Γ σ Z H F x
  | .no => False
def Ev {α β : Type} (Γ : Ct) (rel : L2.St → Rel α β) (f : En → R α) (t : L2.St → Hp → (β → Hp → Prop) → Prop) : Prop :=
  ∀ σ H Z env φ, SttC Γ Z σ H env φ → ∀ Q, Post Γ σ Z H (Tot φ) (rel σ) (f env) Q → t σ H Q

section
variable {Γ : Ct} {α β γ δ : Type} {σ : L2.St} {Z Z1 : Fp} {H H1 : Hp} {F F1 : Fp}
theorem PostX.mono {x : Xn} (h : PostX Γ σ Z H F x) (e : Evo Z H F Z1 H1 F1) : PostX Γ σ Z1 H1 F1 x := fun cls dx H' Z' e2 zh q => h cls dx H' Z' (e.trans e2) zh q
theorem Post.mono {rel : Rel α β} {r : R α} {Q : β → Hp → Prop} (h : Post Γ σ Z H F rel r Q) (e : Evo Z H F Z1 H1 F1) : Post Γ σ Z1 H1 F1 rel r Q := by
  cases r with
  | ok a env => exact fun b H' Z' φ' A S q d e2 => h b H' Z' φ' A S q d (e.trans e2)
  | ex x => exact PostX.mono h e
  | no => exact h
theorem Ev.bind {rel1 : L2.St → Rel α β} {f : En → R α} {t : L2.St → Hp → (β → Hp → Prop) → Prop} (h : Ev Γ rel1 f t) {env : En} {φ : Nat → Fp} (S : SttC Γ Z σ H env φ) {rel : Rel γ δ} {g : α → En → R γ} {Q : δ → Hp → Prop} {Q1 : β → Hp → Prop}
    (P : Post Γ σ Z H (Tot φ) rel ((f env).bind g) Q)
    (k : ∀ a env1 b H1 Z1 φ1 A, f env = .ok a env1 → SttC Γ Z1 σ H1 env1 φ1 → rel1 σ A Z1 H1 a b → (∀ x, A x → ¬ Tot φ1 x ∧ ¬ Z1 x) → Evo Z H (Tot φ) Z1 H1 (fun x => Tot φ1 x ∨ A x) →
      Post Γ σ Z1 H1 (fun x => Tot φ1 x ∨ A x) rel (g a env1) Q → Q1 b H1) : t σ H Q1 := by
  refine h σ H Z env φ S Q1 ?_
  cases e : f env with
  | ok a env1 =>
    rw [e] at P
    exact fun b H1 Z1 φ1 A S1 q d ev => k a env1 b H1 Z1 φ1 A e S1 q d ev (Post.mono P ev)
  | ex x => rw [e] at P; exact P
  | no => rw [e] at P; exact P
theorem Post.here {rel : Rel α β} {a : α} {env : En} {φ : Nat → Fp} {Q : β → Hp → Prop} (h : Post Γ σ Z H (Tot φ) rel (.ok a env) Q) (S : SttC Γ Z σ H env φ) {b : β} (q : rel (fun _ => False) Z H a b) : Q b H :=
  h b H Z φ (fun _ => False) S q (fun _ z => z.elim) (Evo.refl.sub fun x z => z.elim id fun q => q.elim)
theorem Evo.new {p : Addr} {o : HO} (h : H p = none) {F F' : Fp} (hs : ∀ a, F' a → F a ∨ a = p) : Evo Z H F Z (upd H p o) F' :=
  ⟨fun a u e _ => by rw [upd_ne (ne_of_none e h)]; exact e, fun _ z => z, fun _ z => .inl z, fun a z => (hs a z).imp id fun q => by rw [q]; exact h⟩
theorem Post.newT {rel : Rel α β} {a : α} {env : En} {φ : Nat → Fp} {Q : β → Hp → Prop} {p : Addr} {o : HO} (h : Post Γ σ Z H (Tot φ) rel (.ok a env) Q) (S : SttC Γ Z σ H env φ) (hp : H p = none) {b : β} (q : rel (fun _ => False) Z (upd H p o) a b) : Q b (upd H p o) :=
  h b _ Z φ (fun _ => False) (S.new hp) q (fun _ z => z.elim) (Evo.new hp fun x z => .inl (z.elim id fun q => q.elim))
theorem Post.newL {rel : Rel α β} {a : α} {env : En} {φ : Nat → Fp} {Q : β → Hp → Prop} {p : Addr} {o : HO} (h : Post Γ σ Z H (Tot φ) rel (.ok a env) Q) (S : SttC Γ Z σ H env φ) (hp : H p = none) {b : β} (q : rel (fun x => x = p) Z (upd H p o) a b) : Q b (upd H p o) :=
  h b _ Z φ (fun x => x = p) (S.new hp) q (fun x z => by rw [z]; exact ⟨(S.fresh hp).2, (S.fresh hp).1⟩) (Evo.new hp fun x z => z)
end

abbrev VR (C : RC) : L2.St → Rel D V := fun _ _ Z H d v => Sh C Z H v d
abbrev ER (C : RC) : L2.St → Rel (D × Nat) V := fun _ A Z H p v => Ow C Z H p.2 v p.1 A
abbrev TR : L2.St → Rel Bool Bool := fun _ _ _ _ b c => b = c
abbrev AR (C : RC) : L2.St → Rel (List D) (List V) := fun _ _ Z H ds vs => ShL C Z H vs ds
inductive Opd where
  | val (d : D) | pla (i : Nat)
abbrev OR (C : RC) : L2.St → Rel Opd V := fun σ _ Z H o v =>
  match o with
  | .val d => Sh C Z H v d
  | .pla i => σ[i]? = some (some v)
def Opd.get (o : Opd) (env : En) : Option D :=
  match o with
  | .val d => some d
  | .pla i => match env[i]? with
    | some (some (d, 0)) => some d
    | some (some (d, 1)) => some d
    | _ => none
def EvV (Γ : Ct) (e : Expr) (f : En → R D) : Prop := ∃ t, PE Γ.X e t ∧ Ev Γ (VR Γ.C) f t
def EvE (Γ : Ct) (e : Expr) (f : En → R (D × Nat)) : Prop := ∃ t, PE Γ.X e t ∧ Ev Γ (ER Γ.C) f t
def EvO (Γ : Ct) (e : Expr) (f : En → R Opd) : Prop := ∃ t, PE Γ.X e t ∧ Ev Γ (OR Γ.C) f t
def EvT (Γ : Ct) (e : Expr) (f : En → R Bool) : Prop := ∃ t, PT Γ.X e t ∧ Ev Γ TR f t
def EvA (Γ : Ct) (es : List Expr) (f : En → R (List D)) : Prop := ∃ t, PA Γ.X es t ∧ Ev Γ (AR Γ.C) f t

inductive Rd1 (C : RC) (Z : Fp) (H : Hp) : V → D → Prop
  | sh {v : V} {d : D} : Sh C Z H v d → Rd1 C Z H v d
  | lst {a : Addr} {xs : List V} {ds : List D} : H a = some (.lst xs) → ShL C Z H xs ds → Rd1 C Z H (.ref a) (.lst ds)
  | dic {a : Addr} {ks : List Key} {xs : List V} {ds : List D} : H a = some (.dK (ks.zip xs)) → ks.length = xs.length → ShL C Z H xs ds → Rd1 C Z H (.ref a) (.dic ks ds)
section
variable {C : RC} {Z : Fp} {H : Hp}
theorem Rd1.of_ow {k : Nat} {v : V} {d : D} {A : Fp} (h : Ow C Z H k v d A) (hk : k ≤ 1) : Rd1 C Z H v d := by
  match k, h, hk with
  | 0, h, _ => exact .sh h.1
  | 1, h, _ =>
    have h0 := h
    rcases h with ⟨_, h, _⟩ | ⟨b, xs, ds, B, rfl, rfl, hb, hl, hc, hd, ha, hi, e⟩ | ⟨b, ks, xs, ds, rfl, rfl, hb, hl, r, e⟩
    · exact .sh h
    · exact .lst hb (shl_of_ix hl fun i x y e1 e2 => (hc i x y e1 e2).1)
    · exact .dic hb hl r
theorem Rd1.tupI {v : V} {ds : List D} (h : Rd1 C Z H v (.tup ds)) : ∃ a xs, v = .ref a ∧ SqT C.K H a xs ∧ ShL C Z H xs ds := by
  cases h with
  | sh h => cases h with | tup s r => exact ⟨_, _, rfl, s, r⟩
theorem Rd1.lstI {v : V} {ds : List D} (h : Rd1 C Z H v (.lst ds)) : ∃ a xs, v = .ref a ∧ H a = some (.lst xs) ∧ ShL C Z H xs ds := by
  cases h with
  | sh h => cases h with | lst s z r => exact ⟨_, _, rfl, s, r⟩
  | lst h r => exact ⟨_, _, rfl, h, r⟩
theorem Rd1.scrI {v : V} {ns : List Int} (h : Rd1 C Z H v (.scr ns)) : ∃ a, v = .ref a ∧ SqL C.K H a (ns.map V.int) := by
  cases h with
  | sh h => cases h with | scr s => exact ⟨_, rfl, s.sqL⟩
theorem Rd1.dicI {v : V} {ks : List Key} {ds : List D} (h : Rd1 C Z H v (.dic ks ds)) : ∃ a xs, v = .ref a ∧ H a = some (.dK (ks.zip xs)) ∧ ks.length = xs.length ∧ ShL C Z H xs ds := by
  cases h with
  | sh h => cases h with | dic s z l r => exact ⟨_, _, rfl, s, l, r⟩
  | dic h l r => exact ⟨_, _, rfl, h, l, r⟩
theorem Rd1.intI {v : V} {i : Int} (h : Rd1 C Z H v (.int i)) : v = .int i := by
  cases h with
  | sh h => cases h; rfl
theorem Rd1.blI {v : V} {i : Bool} (h : Rd1 C Z H v (.bl i)) : v = .bl i := by
  cases h with
  | sh h => cases h; rfl
theorem Rd1.strI {v : V} {i : Str} (h : Rd1 C Z H v (.str i)) : v = .str i := by
  cases h with
  | sh h => cases h; rfl
theorem Rd1.nonI {v : V} (h : Rd1 C Z H v .non) : v = .non := by
  cases h with
  | sh h => cases h; rfl
end
theorem Opd.rd {Γ : Ct} {σ : L2.St} {Z : Fp} {H : Hp} {env : En} {φ : Nat → Fp} (S : SttC Γ Z σ H env φ) {o : Opd} {v : V} {d : D} {A : Fp} (h : OR Γ.C σ A Z H o v) (g : o.get env = some d) : Rd1 Γ.C Z H v d := by
  cases o with
  | val e =>
    have : e = d := Option.some.inj g
    subst this
    exact .sh h
  | pla i =>
    have h : σ[i]? = some (some v) := h
    unfold Opd.get at g
    simp only at g
    split at g
    · rename_i e
      cases g
      obtain ⟨w, h1, h2⟩ := S.slot i d 0 e
      rw [h] at h1; cases h1
      exact .of_ow h2 (Nat.zero_le _)
    · rename_i e
      cases g
      obtain ⟨w, h1, h2⟩ := S.slot i d 1 e
      rw [h] at h1; cases h1
      exact .of_ow h2 (Nat.le_refl _)
    · cases g
theorem OR.go {Γ : Ct} {σ : L2.St} {Z Z1 : Fp} {H H1 : Hp} (x : Ext Z H Z1 H1) {o : Opd} {v : V} {A B : Fp} (h : OR Γ.C σ A Z H o v) : OR Γ.C σ B Z1 H1 o v := by
  cases o with
  | val e => exact Sh.ext x e v h
  | pla i => exact h

section
variable {Γ : Ct} {e a b : Expr} {pos : Pos}
def vOfE (f : En → R (D × Nat)) : En → R D := fun env => (f env).bind fun p env1 => .ok p.1 env1
def eOfV (f : En → R D) : En → R (D × Nat) := fun env => (f env).bind fun d env1 => .ok (d, 0) env1
def oOfV (f : En → R D) : En → R Opd := fun env => (f env).bind fun d env1 => .ok (.val d) env1
theorem EvE.toV {f : En → R (D × Nat)} (h : EvE Γ e f) : EvV Γ e (vOfE f) := by
  obtain ⟨t, h1, h2⟩ := h
  refine ⟨t, h1, fun σ H Z env φ S Q P => ?_⟩
  refine h2.bind S P fun p env1 v H1 Z1 φ1 A e1 S1 o dj ev P1 => ?_
  obtain ⟨d, k⟩ := p
  -- what was owned is shared now
  have x : Ext Z1 H1 (fun y => Z1 y ∨ A y) H1 := ⟨fun _ _ _ q => q, fun _ z => .inl z, fun _ _ q => q, fun _ _ _ q => q⟩
  have S2 : SttC Γ (fun y => Z1 y ∨ A y) σ H1 env1 φ1 := S1.go x (fun _ _ _ q => q) (fun y q z => z.elim (S1.tnz y q) fun z => (dj y z).1 q) fun y z => z.elim (S1.zh y) fun z e => by
    have := o.mut y z
    rw [e] at this; exact this
  refine P1 v H1 _ φ1 (fun _ => False) S2 (o.frz (fun _ z => .inl z) fun _ z => .inr z) (fun _ z => z.elim) ⟨fun _ _ q _ => q, fun _ z => .inl z, fun y z => z.imp id fun z => .inl (.inr z), fun y z => .inl (z.elim .inl fun z => z.elim)⟩
theorem EvV.toE {f : En → R D} (h : EvV Γ e f) : EvE Γ e (eOfV f) := by
  obtain ⟨t, h1, h2⟩ := h
  refine ⟨t, h1, fun σ H Z env φ S Q P => ?_⟩
  refine h2.bind S P fun d env1 v H1 Z1 φ1 A e1 S1 o dj ev P1 => ?_
  exact Post.here (P1.mono (Evo.refl.sub fun _ z => .inl z)) S1 ⟨o, fun _ z => z⟩
theorem EvV.toO {f : En → R D} (h : EvV Γ e f) : EvO Γ e (oOfV f) := by
  obtain ⟨t, h1, h2⟩ := h
  refine ⟨t, h1, fun σ H Z env φ S Q P => ?_⟩
  refine h2.bind S P fun d env1 v H1 Z1 φ1 A e1 S1 o dj ev P1 => ?_
  exact Post.here (P1.mono (Evo.refl.sub fun _ z => .inl z)) S1 o

def kI (i : Int) : En → R D := fun env => .ok (.int i) env
def kB (b : Bool) : En → R D := fun env => .ok (.bl b) env
def kS (x : Str) : En → R D := fun env => .ok (.str x) env
def kN : En → R D := fun env => .ok .non env
theorem ev_c {v : V} {d : D} (h : ∀ Z H, Sh Γ.C Z H v d) (p : PE Γ.X e (tC v)) : EvV Γ e (fun env => .ok d env) :=
  ⟨_, p, fun σ H Z env φ S Q P => Post.here P S (h Z H)⟩
theorem ev_int {i j} : EvV Γ (.Constant (.int i) j pos) (kI i) := ev_c (fun _ _ => .int i) pe_int
theorem ev_bl {i j} : EvV Γ (.Constant (.bool i) j pos) (kB i) := ev_c (fun _ _ => .bl i) pe_bl
theorem ev_str {i j} : EvV Γ (.Constant (.str i) j pos) (kS i) := ev_c (fun _ _ => .str i) pe_str
theorem ev_non {j} : EvV Γ (.Constant .none j pos) kN := ev_c (fun _ _ => .non) pe_non
theorem ev_gint {i : Int} {t : Tok} {x : Str} (hg : Gl Γ.X x) (hm : Γ.X.mg x = some (.int i t)) (hd : (x == ("__debug__" : Str)) = false := by decide) : EvV Γ (.Name x pos) (kI i) :=
  ev_c (fun _ _ => .int i) (pe_glob hg hm ⟨t, rfl⟩ hd)
def nmV (i : Nat) : En → R D := fun env =>
  match env[i]? with
  | some (some (d, _)) => .ok d (env.set i (some (d, 0)))
  | _ => .no
def nmO (i : Nat) : En → R Opd := fun env =>
  match env[i]? with
  | some (some (d, 0)) => .ok (.val d) env
  | some (some (_, 1)) => .ok (.pla i) env
  | some (some (d, _)) => .ok (.val d) (env.set i (some (d, 0)))
  | _ => .no
theorem Stt.share {C : RC} {io : List Nat} {σ₀ σ : L2.St} {Z : Fp} {H : Hp} {env : En} {φ : Nat → Fp} (S : Stt C io σ₀ Z σ H env φ) {i : Nat} {d : D} {k : Nat} (h : env[i]? = some (some (d, k))) :
    ∃ v, σ[i]? = some (some v) ∧ Stt C io σ₀ (fun y => Z y ∨ φ i y) σ H (env.set i (some (d, 0))) (fun j => if j = i then (fun _ => False) else φ j) ∧ Sh C (fun y => Z y ∨ φ i y) H v d ∧
      Evo Z H (Tot φ) (fun y => Z y ∨ φ i y) H (Tot fun j => if j = i then (fun _ => False) else φ j) := by
  obtain ⟨v, hv, o⟩ := S.slot i d k h
  have sh : Sh C (fun y => Z y ∨ φ i y) H v d := o.frz (fun _ z => .inl z) fun _ z => .inr z
  have x : Ext Z H (fun y => Z y ∨ φ i y) H := ⟨fun _ _ _ q => q, fun _ z => .inl z, fun _ _ q => q, fun _ _ _ q => q⟩
  have zh : ∀ a, Z a ∨ φ i a → H a ≠ none := fun a z => z.elim (S.zh a) fun z e => by
    have := S.mu a ⟨i, z⟩
    rw [e] at this; exact this
  have S1 := (S.drop i).go x (fun _ _ _ q => q) (fun a ⟨j, q, z⟩ zz => zz.elim (S.nz j a z) fun y => q (S.dj j i a z y)) zh
  have hi : i < env.length := (List.getElem?_eq_some_iff.mp h).1
  have S2 := S1.reput (i := i) (by simpa using hi) hv (Ow.sh sh) (fun _ _ _ _ z => z) (fun _ z => z.elim)
  refine ⟨v, hv, ?_, sh, ⟨fun _ _ q _ => q, fun _ z => .inl z, fun a z => z.elim .inl fun z => .inr (.inl ⟨i, z⟩), fun a ⟨j, z⟩ => ?_⟩⟩
  · have e1 : (env.set i none).set i (some (d, 0)) = env.set i (some (d, 0)) := by rw [List.set_set]
    rw [e1] at S2
    have e2 : (fun j => if j = i then (fun _ : Addr => False) else fun a => j ≠ i ∧ φ j a) = fun j => if j = i then (fun _ => False) else φ j := by
      funext j
      by_cases q : j = i
      · rw [if_pos q, if_pos q]
      · rw [if_neg q, if_neg q]
        funext a
        exact propext ⟨fun z => z.2, fun z => ⟨q, z⟩⟩
    rw [e2] at S2
    exact S2
  · by_cases q : j = i
    · simp only [if_pos q] at z
    · simp only [if_neg q] at z; exact .inl ⟨j, z⟩
theorem ev_name {i : Nat} {x : Str} (hN : Γ.X.N[i]? = some x) (hv : Vis Γ.X.env.scope x) (hd : (x == ("__debug__" : Str)) = false := by decide) (hcd : (x == ("__classdict__" : Str)) = false := by decide) : EvV Γ (.Name x pos) (nmV i) := by
  refine ⟨_, pe_var hN hv hd hcd, fun σ H Z env φ S Q P => ?_⟩
  unfold nmV at P
  split at P
  · rename_i d k h
    obtain ⟨v, h1, S1, sh, ev⟩ := S.share h
    exact ⟨v, h1, Post.here (P.mono ev) S1 sh⟩
  · exact P.elim
theorem ev_nameO {i : Nat} {x : Str} (hN : Γ.X.N[i]? = some x) (hv : Vis Γ.X.env.scope x) (hd : (x == ("__debug__" : Str)) = false := by decide) (hcd : (x == ("__classdict__" : Str)) = false := by decide) : EvO Γ (.Name x pos) (nmO i) := by
  refine ⟨_, pe_var hN hv hd hcd, fun σ H Z env φ S Q P => ?_⟩
  unfold nmO at P
  split at P
  · rename_i d h
    obtain ⟨v, h1, o⟩ := S.slot i d 0 h
    exact ⟨v, h1, Post.here P S o.1⟩
  · rename_i d h
    obtain ⟨v, h1, o⟩ := S.slot i d 1 h
    exact ⟨v, h1, Post.here P S h1⟩
  · rename_i d k _ _ h
    obtain ⟨v, h1, S1, sh, ev⟩ := S.share h
    exact ⟨v, h1, Post.here (P.mono ev) S1 sh⟩
  · exact P.elim

def own1 : D → Nat
  | .lst _ => 1
  | .dic _ _ => 1
  | _ => 0
def op2 (g : D → D → Option (D × Nat)) (fa fb : En → R Opd) : En → R (D × Nat) := fun env => (fa env).bind fun oa env1 => (fb env1).bind fun ob env2 =>
  match oa.get env2, ob.get env2 with
  | some x, some y => R.of (g x y) env2
  | _, _ => .no
def Does2 (Γ : Ct) (g : D → D → Option (D × Nat)) (r : R2) : Prop :=
  ∀ σ H Z env φ, SttC Γ Z σ H env φ → ∀ x y d e p, Rd1 Γ.C Z H x d → Rd1 Γ.C Z H y e → g d e = some p → ∀ Q : VK, Post Γ σ Z H (Tot φ) (ER Γ.C σ) (.ok p env) Q → r x y H Q
theorem ev_op2 {ta : R2} {mk : TE → TE → TE} {g : D → D → Option (D × Nat)} {r : R2} {fa fb : En → R Opd} (ha : EvO Γ a fa) (hb : EvO Γ b fb) (hp : ∀ ta tb, PE Γ.X a ta → PE Γ.X b tb → PE Γ.X e (tOp r ta tb)) (hr : Does2 Γ g r) : EvE Γ e (op2 g fa fb) := by
  obtain ⟨ta, a1, a2⟩ := ha
  obtain ⟨tb, b1, b2⟩ := hb
  refine ⟨_, hp ta tb a1 b1, fun σ H Z env φ S Q P => ?_⟩
  refine a2.bind S P fun oa env1 x H1 Z1 φ1 A e1 S1 q1 dj1 ev1 P1 => ?_
  refine b2.bind S1 (P1.mono (Evo.refl.sub fun _ z => .inl z)) fun ob env2 y H2 Z2 φ2 B e2 S2 q2 dj2 ev2 P2 => ?_
  have P3 := P2.mono (Evo.refl.sub (F2 := Tot φ2) fun _ z => .inl z)
  have q1' : OR Γ.C σ B Z2 H2 oa x := OR.go (S1.ext ev2) q1
  cases ga : oa.get env2 with
  | none => rw [ga] at P3; exact P3.elim
  | some d =>
    cases gb : ob.get env2 with
    | none => rw [ga, gb] at P3; exact P3.elim
    | some e =>
      rw [ga, gb] at P3
      cases gg : g d e with
      | none => simp only [gg] at P3; exact P3.elim
      | some p =>
        simp only [gg] at P3
        exact hr σ H2 Z2 env2 φ2 S2 x y d e p (Opd.rd S2 q1' ga) (Opd.rd S2 q2 gb) gg Q P3
end
end Pv
end

section
set_option Elab.async false
set_option linter.all false
set_option maxRecDepth 100000
set_option maxHeartbeats 4000000
namespace Pv
open PySem PySem.Spec PyProof.Rows L2

def lim : Nat := 16000000
theorem lim_le {n : Nat} (h : n ≤ lim) : n ≤ sizeLine := Nat.le_trans h (by decide)

def sml (i : Int) : Bool := Nat.ble i.natAbs 18446744073709551615
theorem sml_ok {i : Int} (h : sml i = true) : -(2 ^ 64) < i ∧ i < 2 ^ 64 := by
  have h1 := Nat.le_of_ble_eq_true h
  omega
def mulOk (i j : Int) : Bool := sml j || (sml i || decide (i.natAbs.log2 + j.natAbs.log2 < 1000000))
theorem mulOk.ok {i j : Int} (h : mulOk i j = true) : IntMulOk i j := by
  unfold mulOk at h
  simp only [Bool.or_eq_true, decide_eq_true_eq] at h
  rcases h with h | h | h
  · exact CMul.ok (.inr (sml_ok h))
  · exact CMul.ok (.inl (sml_ok h))
  · exact CMulW.ok h
def addD : D → D → Option (D × Nat)
  | .int i, .int j => some (.int (i + j), 0)
  | .tup xs, .tup ys => if xs.length + ys.length ≤ lim then some (.tup (xs ++ ys), 0) else none
  | .lst xs, .lst ys => if xs.length + ys.length ≤ lim then some (.lst (xs ++ ys), 1) else none
  | .str x, .str y => if x.length + y.length ≤ lim then some (.str (x ++ y), 0) else none
  | _, _ => none
def subD : D → D → Option (D × Nat)
  | .int i, .int j => some (.int (i - j), 0)
  | _, _ => none
def mulD : D → D → Option (D × Nat)
  | .int i, .int j => if mulOk i j then some (.int (i * j), 0) else none
  | .lst xs, .int k => if xs.length * k.toNat ≤ lim ∧ -(2 ^ 63) ≤ k ∧ k < 2 ^ 63 then some (.lst (List.replicate k.toNat xs).flatten, 1) else none
  | .tup xs, .int k => if xs ≠ [] ∧ 2 ≤ k ∧ k ≤ 1000 ∧ xs.length ≤ 1000 then some (.tup (List.replicate k.toNat xs).flatten, 0) else none
  | _, _ => none
def fdivD : D → D → Option (D × Nat)
  | .int i, .int j => if j ≠ 0 ∧ j.natAbs.log2 < 9000 then some (.int (i.fdiv j), 0) else none
  | _, _ => none
def modD : D → D → Option (D × Nat)
  | .int i, .int j => if j ≠ 0 then some (.int (i.fmod j), 0) else none
  | _, _ => none
def rMulZ : R2 := fun x y H Q => ∃ i j, x = .int i ∧ y = .int j ∧ IntMulOk i j ∧ Q (.int (i * j)) H
def rDivZ : R2 := fun x y H Q => ∃ i j : Int, x = .int i ∧ y = .int j ∧ (j ≠ 0 ∧ j.natAbs.log2 < 9000) ∧ Q (.int (i.fdiv j)) H
section
variable {X : Cx}
theorem op_mulZ : OpR X (binaryOp .Mult) rMulZ := by
  intro pins s σ H x y v u Q I rx ry h
  obtain ⟨i, j, rfl, rfl, hc, q⟩ := h
  obtain ⟨t, rfl⟩ := rx
  obtain ⟨t', rfl⟩ := ry
  exact mul_int ⟨.int _, H, I.tok _, ⟨_, rfl⟩, q⟩ hc
theorem op_divZ : OpR X (binaryOp .FloorDiv) rDivZ := by
  intro pins s σ H x y v u Q I rx ry h
  obtain ⟨i, j, rfl, rfl, hc, q⟩ := h
  obtain ⟨t, rfl⟩ := rx
  obtain ⟨t', rfl⟩ := ry
  exact floordiv_int hc.1 ⟨.int _, H, I.tok _, ⟨_, rfl⟩, q⟩ (.inl (PyProof.noPylong_of_log2 hc.2))
end
abbrev rAddA (K : PySem.W.Frag) : R2 := fun x y H Q => rI0 (fun i j => .int (i + j)) x y H Q ∨ rCatA K x y H Q ∨ rCat x y H Q ∨ (∃ i j, x = .str i ∧ y = .str j ∧ i.length + j.length ≤ sizeLine ∧ Q (.str (i ++ j)) H)
abbrev rMulA (K : PySem.W.Frag) : R2 := fun x y H Q => rMulZ x y H Q ∨ rRep x y H Q ∨ rRepT K x y H Q
section
variable {Γ : Ct} (G : Good Γ)
include G
theorem does_add : Does2 Γ addD (rAddA Γ.X.K) := by
  intro σ H Z env φ S x y d e p hx hy hg Q P
  unfold addD at hg
  split at hg
  · cases hg
    rw [hx.intI, hy.intI]
    exact .inl ⟨_, _, rfl, rfl, Post.here P S (Ow.sh (.int _))⟩
  · rename_i xs ys
    split at hg
    · rename_i hz
      cases hg
      obtain ⟨a, us, rfl, ha, ra⟩ := hx.tupI
      obtain ⟨b, vs, rfl, hb, rb⟩ := hy.tupI
      have la := ra.length
      have lb := rb.length
      rw [G.hK] at ha hb
      refine .inr (.inl ⟨a, b, us, vs, rfl, rfl, ha, hb, by rw [la, lb]; exact lim_le hz, fun e => ?_, fun _ e => ?_, fun _ _ p hp => ?_⟩)
      · subst e
        cases ra
        exact Post.here P S (Ow.sh (.tup (by rw [G.hK]; exact hb) rb))
      · subst e
        cases rb
        rw [List.append_nil] at P
        exact Post.here P S (Ow.sh (.tup (by rw [G.hK]; exact ha) ra))
      · have x : Ext Z H Z (upd H p (.tup (us ++ vs))) := Ext.new hp
        exact Post.newT P S hp (Ow.sh (.tup (SqT.of upd_same) ((ra.append rb).ext x)))
    · cases hg
  · rename_i xs ys
    split at hg
    · rename_i hz
      cases hg
      obtain ⟨a, us, rfl, ha, ra⟩ := hx.lstI
      obtain ⟨b, vs, rfl, hb, rb⟩ := hy.lstI
      have la := ra.length
      have lb := rb.length
      refine .inr (.inr (.inl ⟨a, b, us, vs, rfl, rfl, ha, hb, by rw [la, lb]; exact lim_le hz, fun p hp => ?_⟩))
      have x : Ext Z H Z (upd H p (.lst (us ++ vs))) := Ext.new hp
      exact Post.newL P S hp (Ow.lst1 upd_same ((ra.append rb).ext x))
    · cases hg
  · split at hg
    · rename_i hz
      cases hg
      rw [hx.strI, hy.strI]
      exact .inr (.inr (.inr ⟨_, _, rfl, rfl, lim_le hz, Post.here P S (Ow.sh (.str _))⟩))
    · cases hg
  · cases hg
omit G in
theorem does_sub : Does2 Γ subD (rI0 fun i j => .int (i - j)) := by
  intro σ H Z env φ S x y d e p hx hy hg Q P
  unfold subD at hg
  split at hg
  · cases hg
    rw [hx.intI, hy.intI]
    exact ⟨_, _, rfl, rfl, Post.here P S (Ow.sh (.int _))⟩
  · cases hg
theorem does_mul : Does2 Γ mulD (rMulA Γ.X.K) := by
  intro σ H Z env φ S x y d e p hx hy hg Q P
  unfold mulD at hg
  split at hg
  · split at hg
    · rename_i hz
      cases hg
      rw [hx.intI, hy.intI]
      exact .inl ⟨_, _, rfl, rfl, mulOk.ok hz, Post.here P S (Ow.sh (.int _))⟩
    · cases hg
  · rename_i xs k
    split at hg
    · rename_i hz
      cases hg
      obtain ⟨a, us, rfl, ha, ra⟩ := hx.lstI
      rw [hy.intI]
      have la := ra.length
      refine .inr (.inl ⟨a, k, us, rfl, rfl, ha, hz.2.1, hz.2.2, by rw [la]; exact lim_le hz.1, fun p hp => ?_⟩)
      have x : Ext Z H Z (upd H p (.lst (List.replicate k.toNat us).flatten)) := Ext.new hp
      exact Post.newL P S hp (Ow.lst1 upd_same (ra.flat.ext x))
    · cases hg
  · rename_i xs k
    split at hg
    · rename_i hz
      cases hg
      obtain ⟨a, us, rfl, ha, ra⟩ := hx.tupI
      rw [hy.intI]
      have la := ra.length
      rw [G.hK] at ha
      refine .inr (.inr ⟨a, k, us, rfl, rfl, ha, fun e => hz.1 (by subst e; cases ra; rfl), hz.2.1, hz.2.2.1, by rw [la]; exact hz.2.2.2, fun p hp => ?_⟩)
      have x : Ext Z H Z (upd H p (.tup (List.replicate k.toNat us).flatten)) := Ext.new hp
      exact Post.newT P S hp (Ow.sh (.tup (SqT.of upd_same) (ra.flat.ext x)))
    · cases hg
  · cases hg
omit G in
theorem does_fdiv : Does2 Γ fdivD rDivZ := by
  intro σ H Z env φ S x y d e p hx hy hg Q P
  unfold fdivD at hg
  split at hg
  · split at hg
    · rename_i hz
      cases hg
      rw [hx.intI, hy.intI]
      exact ⟨_, _, rfl, rfl, hz, Post.here P S (Ow.sh (.int _))⟩
    · cases hg
  · cases hg
omit G in
theorem does_mod : Does2 Γ modD (rI (fun _ j => j ≠ 0) fun i j => .int (i.fmod j)) := by
  intro σ H Z env φ S x y d e p hx hy hg Q P
  unfold modD at hg
  split at hg
  · split at hg
    · rename_i hz
      cases hg
      rw [hx.intI, hy.intI]
      exact ⟨_, _, rfl, rfl, hz, Post.here P S (Ow.sh (.int _))⟩
    · cases hg
  · cases hg
end
section
variable {Γ : Ct} {a b : Expr} {fa fb : En → R Opd} {pos : Pos}
theorem ev_add (G : Good Γ) (ha : EvO Γ a fa) (hb : EvO Γ b fb) : EvE Γ (.BinOp a .Add b pos) (op2 addD fa fb) := ev_op2 (ta := rAddA Γ.X.K) (mk := fun x _ => x) ha hb (fun _ _ p q => pe_op (op_add.or (op_catA.or (op_cat.or op_add_str))) p q) (does_add G)
theorem ev_sub (ha : EvO Γ a fa) (hb : EvO Γ b fb) : EvE Γ (.BinOp a .Sub b pos) (op2 subD fa fb) := ev_op2 (ta := rAddA Γ.X.K) (mk := fun x _ => x) ha hb (fun _ _ p q => pe_op op_sub p q) does_sub
theorem ev_mul (G : Good Γ) (ha : EvO Γ a fa) (hb : EvO Γ b fb) : EvE Γ (.BinOp a .Mult b pos) (op2 mulD fa fb) := ev_op2 (ta := rAddA Γ.X.K) (mk := fun x _ => x) ha hb (fun _ _ p q => pe_op (op_mulZ.or (op_rep.or op_repT)) p q) (does_mul G)
theorem ev_fdiv (ha : EvO Γ a fa) (hb : EvO Γ b fb) : EvE Γ (.BinOp a .FloorDiv b pos) (op2 fdivD fa fb) := ev_op2 (ta := rAddA Γ.X.K) (mk := fun x _ => x) ha hb (fun _ _ p q => pe_op op_divZ p q) does_fdiv
theorem ev_mod (ha : EvO Γ a fa) (hb : EvO Γ b fb) : EvE Γ (.BinOp a .Mod b pos) (op2 modD fa fb) := ev_op2 (ta := rAddA Γ.X.K) (mk := fun x _ => x) ha hb (fun _ _ p q => pe_op op_modN p q) does_mod
end

mutual
def D.py : D → Option PyData
  | .non => some .none
  | .bl b => some (.bool b)
  | .int i => some (.int i)
  | .str x => some (.str x)
  | .tup ds => (D.pyL ds).map .tuple
  | .lst ds => (D.pyL ds).map .list
  | .fn _ => none
  | .dic _ _ => none
  | .scr _ => none
def D.pyL : List D → Option (List PyData)
  | [] => some []
  | d :: ds => match D.py d, D.pyL ds with
    | some p, some ps => some (p :: ps)
    | _, _ => none
end
section
variable {C : RC} {Z : Fp} {H : Hp}
mutual
theorem Sh.dp : ∀ (d : D) (v : V) (p : PyData), Sh C Z H v d → d.py = some p → Dp C.K H v p
  | .non, _, _, h, e => by cases h; cases e; exact .non
  | .bl b, _, _, h, e => by cases h; cases e; exact .bl b
  | .int i, _, _, h, e => by cases h; cases e; exact .int i
  | .str x, _, _, h, e => by cases h; cases e; exact .str x
  | .tup ds, _, p, h, e => by
    cases h with
    | tup s r =>
      unfold D.py at e
      obtain ⟨ps, e1, rfl⟩ := Option.map_eq_some_iff.mp e
      exact .tup s (ShL.dp ds _ ps r e1)
  | .lst ds, _, p, h, e => by
    cases h with
    | lst s z r =>
      unfold D.py at e
      obtain ⟨ps, e1, rfl⟩ := Option.map_eq_some_iff.mp e
      exact .lst (SqL.of s) (ShL.dp ds _ ps r e1)
  | .fn _, _, _, _, e => by cases e
  | .dic _ _, _, _, _, e => by cases e
  | .scr _, _, _, _, e => by cases e
theorem ShL.dp : ∀ (ds : List D) (vs : List V) (ps : List PyData), ShL C Z H vs ds → D.pyL ds = some ps → DpAll C.K H vs ps
  | [], _, _, h, e => by cases h; cases e; exact .nil
  | d :: ds, _, ps, h, e => by
    cases h with
    | cons h r =>
      unfold D.pyL at e
      split at e
      · rename_i p qs e1 e2
        cases e
        exact .cons (Sh.dp d _ _ h e1) (ShL.dp ds _ _ r e2)
      · cases e
end
theorem Rd1.dp {v : V} {d : D} {p : PyData} (h : Rd1 C Z H v d) (e : d.py = some p) : Dp C.K H v p := by
  cases h with
  | sh h => exact Sh.dp d v p h e
  | lst s r =>
    unfold D.py at e
    obtain ⟨ps, e1, rfl⟩ := Option.map_eq_some_iff.mp e
    exact .lst (SqL.of s) (ShL.dp _ _ ps r e1)
  | dic s l r => cases e
end
def eqB (d e : D) : Option Bool :=
  match d.py, e.py with
  | some p, some q => if SeqAt.shaped p && SeqAt.shaped q then some (PyData.eqv p q) else none
  | _, _ => none
def eqD (d e : D) : Option (D × Nat) := (eqB d e).map fun b => (.bl b, 0)
def neD (d e : D) : Option (D × Nat) := (eqB d e).map fun b => (.bl (!b), 0)
def cmpD (f : Int → Int → Bool) : D → D → Option (D × Nat)
  | .int i, .int j => some (.bl (f i j), 0)
  | _, _ => none
def D.ints : List D → Option (List Int)
  | [] => some []
  | .int i :: r => (D.ints r).map (i :: ·)
  | _ :: _ => none
@[simp] theorem D.ints_map : ∀ ns : List Int, D.ints (ns.map D.int) = some ns
  | [] => rfl
  | n :: ns => by rw [List.map_cons, D.ints, D.ints_map ns]; rfl
def D.flat : D → Bool
  | .non => true
  | .bl _ => true
  | .int _ => true
  | .str _ => true
  | _ => false
def keyD : D → Option Key
  | .int i => some (.inl i)
  | .str x => some (.inr x)
  | _ => none
theorem keyD_eq {d : D} {k : Key} (h : keyD d = some k) {C : RC} {Z : Fp} {H : Hp} {v : V} (r : Rd1 C Z H v d) : v = kV k := by
  cases d with
  | int i => cases h; exact r.intI
  | str x => cases h; exact r.strI
  | _ => cases h
section
variable {C : RC} {Z : Fp} {H : Hp}
theorem Sh.flat {v : V} {d : D} (h : Sh C Z H v d) (f : d.flat = true) : flatV v = true := by
  cases h <;> first | rfl | cases f
end
def hasK {κ : Type} [DecidableEq κ] (ks : List κ) (k : κ) : Bool := ks.any fun j => decide (j = k)
def isNB : D → Bool
  | .non => true
  | _ => false
def isD (d e : D) : Option (D × Nat) :=
  match e, d with
  | .non, d => some (.bl (isNB d), 0)
  | .bl b, .bl c => some (.bl (decide (c = b)), 0)
  | _, _ => none
def nisD (d e : D) : Option (D × Nat) :=
  match e, d with
  | .non, d => some (.bl (!isNB d), 0)
  | .bl b, .bl c => some (.bl (!decide (c = b)), 0)
  | _, _ => none

theorem cval {κ : Type} [DecidableEq κ] : ∀ (ks : List κ) (xs : List V) (k : κ), ks.length = xs.length → (valV (ks.zip xs) k).isSome = hasK ks k
  | [], _, _, _ => rfl
  | _ :: _, [], _, h => by simp at h
  | j :: ks, x :: xs, k, h => by
    rw [List.zip_cons_cons]
    unfold hasK
    rw [List.any_cons]
    by_cases e : j = k
    · rw [valV_pos e, e]; simp
    · rw [valV_neg e, cval ks xs k (by simpa using h), decide_eq_false e, Bool.false_or]
      rfl
section
variable {X : Cx}
end
end Pv
end

section
set_option Elab.async false
set_option linter.all false
set_option maxRecDepth 100000
set_option maxHeartbeats 4000000
namespace Pv
open PySem PySem.Spec PyProof.Rows L2

theorem does_bool {Γ : Ct} {g : D → D → Option Bool} {h : D → D → Option (D × Nat)} {r : R2} (hh : ∀ d e, h d e = (g d e).map fun b => (.bl b, 0))
    (k : ∀ (Z : Fp) (H : Hp) (x y : V) (d e : D) (b : Bool), Rd1 Γ.C Z H x d → Rd1 Γ.C Z H y e → g d e = some b → ∀ Q : VK, Q (.bl b) H → r x y H Q) : Does2 Γ h r := by
  intro σ H Z env φ S x y d e p hx hy hg Q P
  rw [hh] at hg
  obtain ⟨b, e1, rfl⟩ := Option.map_eq_some_iff.mp hg
  exact k Z H x y d e b hx hy e1 Q (Post.here P S (Ow.sh (.bl b)))
abbrev rIsA : R2 := fun x y H Q => (y = .non ∧ Q (.bl (decide (x = .non))) H) ∨ ∃ a b, x = .bl a ∧ y = .bl b ∧ Q (.bl (decide (a = b))) H
theorem isNB_eq {C : RC} {Z : Fp} {H : Hp} {x : V} {d : D} (h : Rd1 C Z H x d) : decide (x = .non) = isNB d := by
  cases h with
  | sh h => cases h <;> first | rfl | (apply decide_eq_false; intro e; cases e)
  | lst _ _ => rfl
  | dic _ _ _ => rfl
section
variable {Γ : Ct} {a b c : Expr} {fa fb fc : En → R Opd} {pos : Pos}
theorem does_eq (G : Good Γ) : Does2 Γ eqD (rEqD Γ.X.K) := does_bool (g := eqB) (fun _ _ => rfl) fun Z H x y d e b hx hy h Q q => by
  unfold eqB at h
  split at h
  · rename_i p q' e1 e2
    split at h
    · rename_i hs
      cases h
      rw [Bool.and_eq_true] at hs
      have d1 := hx.dp e1
      have d2 := hy.dp e2
      rw [G.hK] at d1 d2
      exact ⟨p, q', d1, d2, hs.1, hs.2, q⟩
    · cases h
  · cases h
theorem does_ne (G : Good Γ) : Does2 Γ neD (rNeD Γ.X.K) := does_bool (g := fun d e => (eqB d e).map (!·)) (fun d e => by unfold neD; cases eqB d e <;> rfl) fun Z H x y d e b hx hy h Q q => by
  obtain ⟨b', h', eb⟩ := Option.map_eq_some_iff.mp h
  subst eb
  clear h
  have h := h'
  unfold eqB at h
  split at h
  · rename_i p q' e1 e2
    split at h
    · rename_i hs
      have eb := Option.some.inj h
      subst eb
      rw [Bool.and_eq_true] at hs
      have d1 := hx.dp e1
      have d2 := hy.dp e2
      rw [G.hK] at d1 d2
      exact ⟨p, q', d1, d2, hs.1, hs.2, q⟩
    · cases h
  · cases h
theorem does_is : Does2 Γ isD rIsA := by
  intro σ H Z env φ S x y d e p hx hy hg Q P
  unfold isD at hg
  split at hg
  · cases hg
    exact .inl ⟨hy.nonI, by rw [isNB_eq hx]; exact Post.here P S (Ow.sh (.bl _))⟩
  · cases hg
    exact .inr ⟨_, _, hx.blI, hy.blI, Post.here P S (Ow.sh (.bl _))⟩
  · cases hg
theorem does_cmp {f : Int → Int → Bool} : Does2 Γ (cmpD f) (rI0 fun i j => .bl (f i j)) := by
  intro σ H Z env φ S x y d e p hx hy hg Q P
  unfold cmpD at hg
  split at hg
  · cases hg
    rw [hx.intI, hy.intI]
    exact ⟨_, _, rfl, rfl, Post.here P S (Ow.sh (.bl _))⟩
  · cases hg

structure CmpR (Γ : Ct) (op : CmpOp) (g : D → D → Option (D × Nat)) where
  r : R2
  ok : OpR Γ.X (compareOp op) r
  does : Does2 Γ g r
def cEq (G : Good Γ) {k : Nat} (hr : Room k Γ.X.A) : CmpR Γ .Eq eqD := ⟨_, op_eqD hr.units, does_eq G⟩
def cNe (G : Good Γ) {k : Nat} (hr : Room k Γ.X.A) : CmpR Γ .NotEq neD := ⟨_, op_neD hr.units, does_ne G⟩
def cIs : CmpR Γ .Is isD := ⟨_, op_isN.or op_is_bl, does_is⟩
def cLt : CmpR Γ .Lt (cmpD fun i j => decide (i < j)) := ⟨_, op_lt, does_cmp⟩
def cLe : CmpR Γ .LtE (cmpD fun i j => decide (i ≤ j)) := ⟨_, op_le, does_cmp⟩
def cGt : CmpR Γ .Gt (cmpD fun i j => decide (j < i)) := ⟨_, op_gt, does_cmp⟩
theorem ev_cmp {op : CmpOp} {g : D → D → Option (D × Nat)} (c : CmpR Γ op g) (ha : EvO Γ a fa) (hb : EvO Γ b fb) (hm : behindInMarks op b = false := by first | exact nomark _ | rfl) : EvE Γ (.Compare a [op] [b] pos) (op2 g fa fb) :=
  ev_op2 (ta := rIsA) (mk := fun x _ => x) ha hb (fun _ _ p q => pe_cmpR c.ok p q hm) c.does
def tst (f : En → R (D × Nat)) : En → R Bool := fun env => (f env).bind fun p env1 => match p with
  | (.bl b, _) => .ok b env1
  | _ => .no
theorem Ev.test {f : En → R (D × Nat)} {t : TE} (h : Ev Γ (ER Γ.C) f t) : Ev Γ TR (tst f) (tTest t) := by
  intro σ H Z env φ S Q P
  refine h.bind S P fun p env1 v H1 Z1 φ1 A e1 S1 o dj ev P1 => ?_
  obtain ⟨d, k⟩ := p
  have P2 := P1.mono (Evo.refl.sub (F2 := Tot φ1) fun _ z => .inl z)
  cases d with
  | bl b =>
    have e : v = .bl b := (Rd1.sh (o.im_inv rfl)).blI
    exact ⟨b, e, Post.here P2 S1 rfl⟩
  | _ => exact P2.elim
end
end Pv
end

section
set_option Elab.async false
set_option linter.all false
set_option maxRecDepth 100000
set_option maxHeartbeats 4000000
namespace Pv
open PySem PySem.Spec PyProof.Rows L2
section
variable {Γ : Ct} {e a b c : Expr} {rest : List Expr} {fa fb fc : En → R Opd} {pos : Pos}

def EvW (Γ : Ct) (e : Expr) (f : En → R Bool) : Prop := ∃ t, PW Γ.X e t ∧ Ev Γ TR f t
theorem et_cmp {op : CmpOp} {g : D → D → Option (D × Nat)} (c : CmpR Γ op g) (ha : EvO Γ a fa) (hb : EvO Γ b fb) (hm : behindInMarks op b = false := by first | exact nomark _ | rfl) : EvT Γ (.Compare a [op] [b] pos) (tst (op2 g fa fb)) := by
  obtain ⟨ta, a1, a2⟩ := ha
  obtain ⟨tb, b1, b2⟩ := hb
  refine ⟨_, pt_cmpR c.ok a1 b1 hm, Ev.test fun σ H Z env φ S Q P => ?_⟩
  refine a2.bind S P fun oa env1 x H1 Z1 φ1 A e1 S1 q1 dj1 ev1 P1 => ?_
  refine b2.bind S1 (P1.mono (Evo.refl.sub fun _ z => .inl z)) fun ob env2 y H2 Z2 φ2 B e2 S2 q2 dj2 ev2 P2 => ?_
  have P3 := P2.mono (Evo.refl.sub (F2 := Tot φ2) fun _ z => .inl z)
  have q1' : OR Γ.C σ B Z2 H2 oa x := OR.go (S1.ext ev2) q1
  cases ga : oa.get env2 with
  | none => rw [ga] at P3; exact P3.elim
  | some d =>
    cases gb : ob.get env2 with
    | none => rw [ga, gb] at P3; exact P3.elim
    | some e =>
      rw [ga, gb] at P3
      cases gg : g d e with
      | none => simp only [gg] at P3; exact P3.elim
      | some p =>
        simp only [gg] at P3
        exact c.does σ H2 Z2 env2 φ2 S2 x y d e p (Opd.rd S2 q1' ga) (Opd.rd S2 q2 gb) gg Q P3
abbrev IsVal (X : Cx) (e : Expr) : Prop := ∀ whole, isTrue e X.env whole = (do let v ← whole; standAt e.pos; holding [v] (truthy v))
theorem zip_isEmpty : ∀ {ks : List Key} {vs : List V}, ks.length = vs.length → (ks.zip vs).isEmpty = ks.isEmpty
  | [], _, _ => rfl
  | _ :: _, [], h => by simp at h
  | _ :: _, _ :: _, _ => rfl
def truD : D → Option Bool
  | .non => some false
  | .bl b => some b
  | .int i => some (i != 0)
  | .str x => if x.length ≤ lim then some ((x.length : Int) != 0) else none
  | .tup xs => some (!xs.isEmpty)
  | .lst xs => some (!xs.isEmpty)
  | .dic ks _ => some (!ks.isEmpty)
  | _ => none
def tru (fa : En → R Opd) : En → R Bool := fun env => (fa env).bind fun o env1 => match o.get env1 with
  | some d => R.of (truD d) env1
  | none => .no
theorem et_tru (G : Good Γ) (ha : EvO Γ e fa) (he : IsVal Γ.X e := by intro _; rfl) : EvT Γ e (tru fa) := by
  obtain ⟨ta, a1, a2⟩ := ha
  refine ⟨_, pt_truth a1 he, fun σ H Z env φ S Q P => ?_⟩
  refine a2.bind S P fun oa env1 x H1 Z1 φ1 A e1 S1 q1 dj1 ev1 P1 => ?_
  have P3 := P1.mono (Evo.refl.sub (F2 := Tot φ1) fun _ z => .inl z)
  cases ga : oa.get env1 with
  | none => rw [ga] at P3; exact P3.elim
  | some d =>
    rw [ga] at P3
    have rd := Opd.rd S1 q1 ga
    cases gd : truD d with
    | none => simp only [gd] at P3; exact P3.elim
    | some k =>
      simp only [gd] at P3
      refine ⟨k, ?_, Post.here P3 S1 rfl⟩
      unfold truD at gd
      split at gd
      · cases gd; rw [rd.nonI]; rfl
      · cases gd; rw [rd.blI]; rfl
      · cases gd; rw [rd.intI]; rfl
      · split at gd
        · rename_i hz
          cases gd; rw [rd.strI]; exact ⟨lim_le hz, rfl⟩
        · cases gd
      · cases gd
        obtain ⟨p, vs, rfl, hp, r⟩ := rd.tupI
        rw [G.hK] at hp
        refine .inr (.inl ⟨vs, hp, ?_⟩)
        cases r <;> rfl
      · cases gd
        obtain ⟨p, vs, rfl, hp, r⟩ := rd.lstI
        refine .inl ⟨vs, SqL.of hp, ?_⟩
        cases r <;> rfl
      · cases gd
        obtain ⟨p, vs, rfl, hp, hl, r⟩ := rd.dicI
        exact .inr (.inr ⟨_, hp, by rw [zip_isEmpty hl]⟩)
      · cases gd
def notT (f : En → R Bool) : En → R Bool := fun env => (f env).bind fun b env1 => .ok (!b) env1
def andT (f g : En → R Bool) : En → R Bool := fun env => (f env).bind fun b env1 => if b = true then g env1 else .ok false env1
def orT (f g : En → R Bool) : En → R Bool := fun env => (f env).bind fun b env1 => if b = true then .ok true env1 else g env1
variable {f g h : En → R Bool}
theorem et_not (ha : EvT Γ a f) : EvT Γ (.UnaryOp .Not a pos) (notT f) := by
  obtain ⟨t, h1, h2⟩ := ha
  refine ⟨_, pt_not h1, fun σ H Z env φ S Q P => ?_⟩
  refine h2.bind S P fun x env1 y H1 Z1 φ1 A e1 S1 q1 dj1 ev1 P1 => ?_
  cases (show x = y from q1)
  exact Post.here (P1.mono (Evo.refl.sub fun _ z => .inl z)) S1 rfl
theorem ew_and1 (ha : EvT Γ a f) : EvW Γ (.BoolOp .And [a] pos) f := by
  obtain ⟨t, h1, h2⟩ := ha
  exact ⟨_, pw_and1 h1, h2⟩
theorem ew_or1 (ha : EvT Γ a f) : EvW Γ (.BoolOp .Or [a] pos) f := by
  obtain ⟨t, h1, h2⟩ := ha
  exact ⟨_, pw_or1 h1, h2⟩
theorem ew_and (ha : EvT Γ a f) (hb : EvW Γ (.BoolOp .And (b :: rest) pos) g) : EvW Γ (.BoolOp .And (a :: b :: rest) pos) (andT f g) := by
  obtain ⟨t, h1, h2⟩ := ha
  obtain ⟨u, k1, k2⟩ := hb
  refine ⟨_, pw_and h1 k1, fun σ H Z env φ S Q P => ?_⟩
  refine h2.bind S P fun x env1 y H1 Z1 φ1 A e1 S1 q1 dj1 ev1 P1 => ?_
  cases (show x = y from q1)
  have P2 := P1.mono (Evo.refl.sub (F2 := Tot φ1) fun _ z => .inl z)
  cases x with
  | true => exact k2 σ H1 Z1 env1 φ1 S1 Q P2
  | false => exact Post.here P2 S1 rfl
theorem ew_or (ha : EvT Γ a f) (hb : EvW Γ (.BoolOp .Or (b :: rest) pos) g) : EvW Γ (.BoolOp .Or (a :: b :: rest) pos) (orT f g) := by
  obtain ⟨t, h1, h2⟩ := ha
  obtain ⟨u, k1, k2⟩ := hb
  refine ⟨_, pw_or h1 k1, fun σ H Z env φ S Q P => ?_⟩
  refine h2.bind S P fun x env1 y H1 Z1 φ1 A e1 S1 q1 dj1 ev1 P1 => ?_
  cases (show x = y from q1)
  have P2 := P1.mono (Evo.refl.sub (F2 := Tot φ1) fun _ z => .inl z)
  cases x with
  | true => exact Post.here P2 S1 rfl
  | false => exact k2 σ H1 Z1 env1 φ1 S1 Q P2
theorem EvW.t (h : EvW Γ e f) : EvT Γ e f := by
  obtain ⟨t, h1, h2⟩ := h
  exact ⟨t, h1.pt, h2⟩
def blV (f : En → R Bool) : En → R D := fun env => (f env).bind fun b env1 => .ok (.bl b) env1
def vbl (f : En → R D) : En → R Bool := fun env => (f env).bind fun p env1 => match p with
  | .bl b => .ok b env1
  | _ => .no
theorem Ev.vtest {f : En → R D} {t : TE} (h : Ev Γ (VR Γ.C) f t) {σ : L2.St} {Z : Fp} {H : Hp} {env : En} {φ : Nat → Fp} (S : SttC Γ Z σ H env φ) {γ δ : Type} {rel : Rel γ δ} {g : Bool → En → R γ} {Q : δ → Hp → Prop} {Q1 : VK}
    (P : Post Γ σ Z H (Tot φ) rel ((vbl f env).bind g) Q)
    (k : ∀ b env1 H1 Z1 φ1, SttC Γ Z1 σ H1 env1 φ1 → Evo Z H (Tot φ) Z1 H1 (Tot φ1) → Post Γ σ Z1 H1 (Tot φ1) rel (g b env1) Q → Q1 (.bl b) H1) : t σ H Q1 := by
  have P' : Post Γ σ Z H (Tot φ) rel ((f env).bind fun p env1 => match p with
    | .bl b => g b env1
    | _ => .no) Q := by
    unfold vbl at P
    cases e : f env with
    | ok p env1 =>
      rw [e] at P
      cases p <;> exact P
    | ex x => rw [e] at P; exact P
    | no => rw [e] at P; exact P
  refine h.bind S P' fun p env1 v H1 Z1 φ1 A e1 S1 o dj ev P1 => ?_
  have P2 := P1.mono (Evo.refl.sub (F2 := Tot φ1) fun _ z => .inl z)
  cases p with
  | bl b =>
    have e : v = .bl b := (Rd1.sh (C := Γ.C) o).blI
    subst e
    exact k b env1 H1 Z1 φ1 S1 (ev.sub fun _ z => .inl z) P2
  | _ => exact P2.elim
def andV (f : En → R D) (g : En → R D) : En → R D := fun env => (vbl f env).bind fun b env1 => if b = true then g env1 else .ok (.bl false) env1
def orV (f : En → R D) (g : En → R D) : En → R D := fun env => (vbl f env).bind fun b env1 => if b = true then .ok (.bl true) env1 else g env1
variable {u v : En → R D}
theorem ev_one {op : BoolOp} (hb : EvV Γ b u) : EvV Γ (.BoolOp op [b] pos) u := by
  obtain ⟨t, h1, h2⟩ := hb
  exact ⟨t, pe_one h1, h2⟩
theorem ev_and (ha : EvV Γ a u) (hb : EvV Γ (.BoolOp .And (b :: rest) pos) v) : EvV Γ (.BoolOp .And (a :: b :: rest) pos) (andV u v) := by
  obtain ⟨t, h1, h2⟩ := ha
  obtain ⟨w, k1, k2⟩ := hb
  refine ⟨_, pe_and h1 k1, fun σ H Z env φ S Q P => ?_⟩
  refine h2.vtest S P fun x env1 H1 Z1 φ1 S1 ev P2 => ?_
  refine ⟨x, rfl, ?_⟩
  cases x with
  | true => exact k2 σ H1 Z1 env1 φ1 S1 Q P2
  | false => exact Post.here P2 S1 (.bl false)
theorem ev_or (ha : EvV Γ a u) (hb : EvV Γ (.BoolOp .Or (b :: rest) pos) v) : EvV Γ (.BoolOp .Or (a :: b :: rest) pos) (orV u v) := by
  obtain ⟨t, h1, h2⟩ := ha
  obtain ⟨w, k1, k2⟩ := hb
  refine ⟨_, pe_or h1 k1, fun σ H Z env φ S Q P => ?_⟩
  refine h2.vtest S P fun x env1 H1 Z1 φ1 S1 ev P2 => ?_
  refine ⟨x, rfl, ?_⟩
  cases x with
  | true => exact Post.here P2 S1 (.bl true)
  | false => exact k2 σ H1 Z1 env1 φ1 S1 Q P2
def notV (f : En → R D) : En → R D := fun env => (vbl f env).bind fun b env1 => .ok (.bl (!b)) env1
theorem ev_not (ha : EvV Γ a u) : EvV Γ (.UnaryOp .Not a pos) (notV u) := by
  obtain ⟨t, h1, h2⟩ := ha
  refine ⟨_, pe_not h1, fun σ H Z env φ S Q P => ?_⟩
  refine h2.vtest S P fun x env1 H1 Z1 φ1 S1 ev P2 => ?_
  exact ⟨x, rfl, Post.here P2 S1 (.bl _)⟩
def iteE {α : Type} (f : En → R Bool) (g h : En → R α) : En → R α := fun env => (f env).bind fun b env1 => if b = true then g env1 else h env1
theorem ev_ite {p q : En → R (D × Nat)} (hc : EvT Γ c f) (ha : EvE Γ a p) (hb : EvE Γ b q) : EvE Γ (.IfExp c a b pos) (iteE f p q) := by
  obtain ⟨t, h1, h2⟩ := hc
  obtain ⟨w, k1, k2⟩ := ha
  obtain ⟨z, l1, l2⟩ := hb
  refine ⟨_, pe_ifExp h1 k1 l1, fun σ H Z env φ S Q P => ?_⟩
  refine h2.bind S P fun x env1 y H1 Z1 φ1 A e1 S1 q1 dj1 ev1 P1 => ?_
  cases (show x = y from q1)
  have P2 := P1.mono (Evo.refl.sub (F2 := Tot φ1) fun _ z => .inl z)
  cases x with
  | true => exact k2 σ H1 Z1 env1 φ1 S1 Q P2
  | false => exact l2 σ H1 Z1 env1 φ1 S1 Q P2
def opC (g g' : D → D → Option (D × Nat)) (fa fb fc : En → R Opd) : En → R (D × Nat) := fun env => (fa env).bind fun oa env1 => (fb env1).bind fun ob env2 =>
  match oa.get env2, ob.get env2 with
  | some x, some y => (match g x y with
    | some (.bl true, _) => (fc env2).bind fun oc env3 => (match ob.get env3, oc.get env3 with
      | some y, some z => R.of (g' y z) env3
      | _, _ => .no)
    | some (.bl false, _) => .ok (.bl false, 0) env2
    | _ => .no)
  | _, _ => .no
structure CmpB (Γ : Ct) (op : CmpOp) (g : D → D → Option (D × Nat)) extends CmpR Γ op g where
  bool : ∀ (σ : L2.St) (Z : Fp) (H : Hp) (x y : V) (d e : D) (b : Bool) (k : Nat), Rd1 Γ.C Z H x d → Rd1 Γ.C Z H y e → g d e = some (.bl b, k) → ∀ Q : VK, Q (.bl b) H → r x y H Q
theorem cmp_bool {C : RC} {Z : Fp} {H : Hp} {x y : V} {d e : D} {b : Bool} {k : Nat} {f : Int → Int → Bool} (hx : Rd1 C Z H x d) (hy : Rd1 C Z H y e) (h : cmpD f d e = some (.bl b, k)) {Q : VK} (q : Q (.bl b) H) : rI0 (fun i j => .bl (f i j)) x y H Q := by
  unfold cmpD at h
  split at h
  · cases h; rw [hx.intI, hy.intI]; exact ⟨_, _, rfl, rfl, q⟩
  · cases h
def bLe : CmpB Γ .LtE (cmpD fun i j => decide (i ≤ j)) := ⟨cLe, fun _ _ _ _ _ d e b _ hx hy h Q q => cmp_bool hx hy h q⟩
theorem Ev.chain {op op' : CmpOp} {g g' : D → D → Option (D × Nat)} (k : CmpB Γ op g) (k' : CmpR Γ op' g') {ta tb tc : TE} (a2 : Ev Γ (OR Γ.C) fa ta) (b2 : Ev Γ (OR Γ.C) fb tb) (c2 : Ev Γ (OR Γ.C) fc tc) : Ev Γ (ER Γ.C) (opC g g' fa fb fc) (tChain k.r k'.r ta tb tc) := by
  intro σ H Z env φ S Q P
  refine a2.bind S P fun oa env1 x H1 Z1 φ1 A e1 S1 q1 dj1 ev1 P1 => ?_
  refine b2.bind S1 (P1.mono (Evo.refl.sub fun _ z => .inl z)) fun ob env2 y H2 Z2 φ2 B e2 S2 q2 dj2 ev2 P2 => ?_
  have P3 := P2.mono (Evo.refl.sub (F2 := Tot φ2) fun _ z => .inl z)
  have q1' : OR Γ.C σ B Z2 H2 oa x := OR.go (S1.ext ev2) q1
  cases ga : oa.get env2 with
  | none => rw [ga] at P3; exact P3.elim
  | some d =>
    cases gb : ob.get env2 with
    | none => rw [ga, gb] at P3; exact P3.elim
    | some e =>
      simp only [ga, gb] at P3
      have ra := Opd.rd S2 q1' ga
      have rb := Opd.rd S2 q2 gb
      cases gg : g d e with
      | none => rw [gg] at P3; exact P3.elim
      | some p =>
        obtain ⟨p, m⟩ := p
        rw [gg] at P3
        cases p with
        | bl w =>
          refine k.bool σ Z2 H2 x y d e w m ra rb gg _ ⟨w, rfl, ?_⟩
          cases w with
          | false => exact Post.here P3 S2 (Ow.sh (.bl false))
          | true =>
            rw [if_pos rfl]
            refine c2.bind S2 P3 fun oc env3 z H3 Z3 φ3 B3 e3 S3 q3 dj3 ev3 P4 => ?_
            have P5 := P4.mono (Evo.refl.sub (F2 := Tot φ3) fun _ z => .inl z)
            have q2' : OR Γ.C σ B3 Z3 H3 ob y := OR.go (S2.ext ev3) q2
            cases gb3 : ob.get env3 with
            | none => rw [gb3] at P5; exact P5.elim
            | some d3 =>
              cases gc3 : oc.get env3 with
              | none => rw [gb3, gc3] at P5; exact P5.elim
              | some f3 =>
                simp only [gb3, gc3] at P5
                cases g3 : g' d3 f3 with
                | none => rw [g3] at P5; exact P5.elim
                | some p3 =>
                  rw [g3] at P5
                  exact k'.does σ H3 Z3 env3 φ3 S3 y z d3 f3 p3 (Opd.rd S3 q2' gb3) (Opd.rd S3 q3 gc3) g3 Q P5
        | _ => exact P3.elim
theorem et_chain {op op' : CmpOp} {g g' : D → D → Option (D × Nat)} (k : CmpB Γ op g) (k' : CmpR Γ op' g') (ha : EvO Γ a fa) (hb : EvO Γ b fb) (hc : EvO Γ c fc) (hm : lastMarks [op, op'] [b, c] = false := by with_unfolding_all rfl) : EvT Γ (.Compare a [op, op'] [b, c] pos) (tst (opC g g' fa fb fc)) := by
  obtain ⟨ta, a1, a2⟩ := ha
  obtain ⟨tb, b1, b2⟩ := hb
  obtain ⟨tc, c1, c2⟩ := hc
  exact ⟨_, pt_chain k.ok k'.ok a1 b1 c1 hm, (Ev.chain k k' a2 b2 c2).test⟩

def aNil : En → R (List D) := fun env => .ok [] env
def aCons (u : En → R D) (r : En → R (List D)) : En → R (List D) := fun env => (u env).bind fun d env1 => (r env1).bind fun ds env2 => .ok (d :: ds) env2
theorem ea_nil : EvA Γ [] aNil := ⟨_, pa_nil, fun σ H Z env φ S Q P => Post.here P S .nil⟩
theorem ea_cons {es : List Expr} {r : En → R (List D)} (ha : EvV Γ e u) (hr : EvA Γ es r) (hs : starEach (e :: es) Γ.X.env = (false, eval e Γ.X.env) :: starEach es Γ.X.env := by rfl) : EvA Γ (e :: es) (aCons u r) := by
  obtain ⟨t, h1, h2⟩ := ha
  obtain ⟨w, k1, k2⟩ := hr
  refine ⟨_, pa_cons h1 k1 hs, fun σ H Z env φ S Q P => ?_⟩
  refine h2.bind S P fun d env1 x H1 Z1 φ1 A e1 S1 q1 dj1 ev1 P1 => ?_
  refine k2.bind S1 (P1.mono (Evo.refl.sub fun _ z => .inl z)) fun ds env2 xs H2 Z2 φ2 B e2 S2 q2 dj2 ev2 P2 => ?_
  exact Post.here (P2.mono (Evo.refl.sub fun _ z => .inl z)) S2 (.cons (Sh.ext (S1.ext ev2) _ _ q1) q2)
def tupE (r : En → R (List D)) : En → R D := fun env => (r env).bind fun ds env1 => if ds.length ≤ lim then .ok (.tup ds) env1 else .no
def lstE (r : En → R (List D)) : En → R (D × Nat) := fun env => (r env).bind fun ds env1 => if ds.length ≤ lim then .ok (.lst ds, 1) env1 else .no
theorem ev_tup {es : List Expr} {r : En → R (List D)} {k : Nat} (h : EvA Γ es r) : EvV Γ (.Tuple es k pos) (tupE r) := by
  obtain ⟨t, h1, h2⟩ := h
  refine ⟨_, pe_tup h1, fun σ H Z env φ S Q P => ?_⟩
  refine h2.bind S P fun ds env1 xs H1 Z1 φ1 A e1 S1 q1 dj1 ev1 P1 => ?_
  have P2 := P1.mono (Evo.refl.sub (F2 := Tot φ1) fun _ z => .inl z)
  have r : ShL Γ.C Z1 H1 xs ds := q1
  by_cases hz : ds.length ≤ lim
  · rw [if_pos hz] at P2
    refine ⟨by rw [r.length]; exact lim_le hz, fun p hp => ?_⟩
    exact Post.newT P2 S1 hp (.tup (SqT.of upd_same) (ShL.ext (Ext.new hp) _ _ r))
  · rw [if_neg hz] at P2; exact P2.elim
theorem ev_lst {es : List Expr} {r : En → R (List D)} (h : EvA Γ es r) : EvE Γ (.List es pos) (lstE r) := by
  obtain ⟨t, h1, h2⟩ := h
  refine ⟨_, pe_lst h1, fun σ H Z env φ S Q P => ?_⟩
  refine h2.bind S P fun ds env1 xs H1 Z1 φ1 A e1 S1 q1 dj1 ev1 P1 => ?_
  have P2 := P1.mono (Evo.refl.sub (F2 := Tot φ1) fun _ z => .inl z)
  have r : ShL Γ.C Z1 H1 xs ds := q1
  by_cases hz : ds.length ≤ lim
  · rw [if_pos hz] at P2
    refine ⟨by rw [r.length]; exact lim_le hz, fun p hp => ?_⟩
    exact Post.newL P2 S1 hp (Ow.lst1 upd_same (ShL.ext (Ext.new hp) _ _ r))
  · rw [if_neg hz] at P2; exact P2.elim
def dicE : En → R (D × Nat) := fun env => .ok (.dic [] [], 1) env
def op1 (g : D → Option (D × Nat)) (fa : En → R Opd) : En → R (D × Nat) := fun env => (fa env).bind fun oa env1 => match oa.get env1 with
  | some x => R.of (g x) env1
  | none => .no
def Does1 (Γ : Ct) (g : D → Option (D × Nat)) (r : V → Hp → VK → Prop) : Prop :=
  ∀ σ H Z env φ, SttC Γ Z σ H env φ → ∀ x d p, Rd1 Γ.C Z H x d → g d = some p → ∀ Q : VK, Post Γ σ Z H (Tot φ) (ER Γ.C σ) (.ok p env) Q → r x H Q
theorem Ev.op1 {g : D → Option (D × Nat)} {r : V → Hp → VK → Prop} {t : TE} (a2 : Ev Γ (OR Γ.C) fa t) (hr : Does1 Γ g r) : Ev Γ (ER Γ.C) (op1 g fa) (tUn r t) := by
  intro σ H Z env φ S Q P
  refine a2.bind S P fun oa env1 x H1 Z1 φ1 A e1 S1 q1 dj1 ev1 P1 => ?_
  have P3 := P1.mono (Evo.refl.sub (F2 := Tot φ1) fun _ z => .inl z)
  cases ga : oa.get env1 with
  | none => rw [ga] at P3; exact P3.elim
  | some d =>
    simp only [ga] at P3
    cases gg : g d with
    | none => rw [gg] at P3; exact P3.elim
    | some p =>
      rw [gg] at P3
      exact hr σ H1 Z1 env1 φ1 S1 x d p (Opd.rd S1 q1 ga) gg Q P3
def negD : D → Option (D × Nat)
  | .int i => some (.int (-i), 0)
  | _ => none
theorem ev_neg (ha : EvO Γ a fa) : EvE Γ (.UnaryOp .USub a pos) (op1 negD fa) := by
  obtain ⟨t, h1, h2⟩ := ha
  refine ⟨_, pe_un un_neg h1, h2.op1 fun σ H Z env φ S x d p hx hg Q P => ?_⟩
  unfold negD at hg
  split at hg
  · cases hg
    rw [hx.intI]
    exact ⟨_, rfl, Post.here P S (Ow.sh (.int _))⟩
  · cases hg

def keyV (ks : List Key) (vs : List D) (k : Key) : Option D := ((ks.zip vs).find? fun p => decide (p.1 = k)).map (·.2)
theorem keyV_val {C : RC} {Z : Fp} {H : Hp} : ∀ {ks : List Key} {xs : List V} {ds : List D} {k : Key} {d : D}, ShL C Z H xs ds → keyV ks ds k = some d → ∃ x, valV (ks.zip xs) k = some x ∧ Sh C Z H x d
  | [], _, _, _, _, _, h => by simp [keyV] at h
  | _ :: _, _, _, _, _, .nil, h => by simp [keyV] at h
  | j :: ks, _, _, k, d, .cons (v := x) (d := d') h1 r, h => by
    rw [List.zip_cons_cons]
    unfold keyV at h
    rw [List.zip_cons_cons, List.find?_cons] at h
    by_cases e : j = k
    · rw [valV_pos e]
      simp only [e, decide_true, Option.map_some, Option.some.injEq] at h
      exact ⟨x, rfl, h ▸ h1⟩
    · rw [valV_neg e]
      simp only [e, decide_false] at h
      exact keyV_val r h
def idxD : D → D → Option (D × Nat)
  | .tup xs, .int i => (atI xs i).map (·, 0)
  | .lst xs, .int i => (atI xs i).map (·, 0)
  | .scr ns, .int i => (atI ns i).map fun n => (.int n, 0)
  | .str z, .int i => if z.length ≤ lim then (atI z.cps.toList i).map fun c => (.str ⟨#[c]⟩, 0) else none
  | .dic ks vs, d => (keyD d).bind fun k => (keyV ks vs k).map (·, 0)
  | _, _ => none
theorem atI_sh {C : RC} {Z : Fp} {H : Hp} {xs : List V} {ds : List D} {i : Int} {d : D} (r : ShL C Z H xs ds) (h : atI ds i = some d) : ∃ x, atI xs i = some x ∧ Sh C Z H x d := by
  unfold atI at h ⊢
  rw [r.length]
  cases e : ixN ds.length i with
  | none => rw [e] at h; cases h
  | some j => rw [e] at h; exact r.get' h
abbrev rIxA (K : PySem.W.Frag) : R2 := fun x y H Q => rIx K x y H Q ∨ ∃ a v, x = .ref a ∧ DGet H a y (some v) ∧ Q v H
theorem ix_dict {X : Cx} (hu : X.A.units + 1 < cLine) : IxR X (fun x y H Q => ∃ a v, x = .ref a ∧ DGet H a y (some v) ∧ Q v H) := by
  intro value slice pins s σ H x y v u Q I rx ry h hs
  obtain ⟨a, z, rfl, g, q⟩ := h
  cases rx
  have hT := dict_typeIs I g
  unfold subscriptTail
  refine wpAny_bind ?_
  rw [getitemInPython_of_ne hT.not_modules]
  refine wpAny_bind (wpAny_specialOf hT PySem.F.slot_dict_getitem.lookup ?_)
  have fin : wpAny (model X.prog X.w) X.A (subscripted slice false (.ref a) u) (fun r s₃ => wpAny (model X.prog X.w) X.A (letTemporaryGo value (.ref a) r >>= fun _ => pure r) (EP X pins σ Q) X.xe s₃) X.xe s := by
    rw [hs]
    exact wpAny_operating (d_getItem hu I g ry fun w' s' I' r' => wpAny_bind (wpAny_letTemporaryGo (wpAny_pure ⟨z, H, I', r', q⟩)))
  first
    | exact wpAny_pure (wpAny_bind fin)
    | exact wpAny_bind (wpAny_pure (wpAny_bind fin))
    | exact wpAny_bind fin
end
end Pv
end

section
set_option Elab.async false
set_option linter.all false
set_option maxRecDepth 100000
set_option maxHeartbeats 4000000
namespace Pv
open PySem PySem.Spec PyProof.Rows L2

theorem CallR.or {X : Cx} {f : Value} {r r' : List V → Hp → VK → Prop} (h : CallR X f r) (h' : CallR X f r') : CallR X f (fun xs H Q => r xs H Q ∨ r' xs H Q) := by
  intro pins s σ H xs us Q I rx q
  rcases q with q | q
  · exact h pins s σ H xs us Q I rx q
  · exact h' pins s σ H xs us Q I rx q
section
variable {Γ : Ct} {e a b c : Expr} {fa fb fc : En → R Opd} {pos p q : Pos} {x : Str}
theorem does_idx (G : Good Γ) : Does2 Γ idxD (rIxA Γ.X.K) := by
  intro σ H Z env φ S x y d e p hx hy hg Q P
  unfold idxD at hg
  split at hg
  · rename_i xs i
    obtain ⟨z, e1, rfl⟩ := Option.map_eq_some_iff.mp hg
    obtain ⟨a, us, rfl, ha, ra⟩ := hx.tupI
    obtain ⟨w, h1, h2⟩ := atI_sh ra e1
    rw [G.hK] at ha
    rw [hy.intI]
    exact .inl (.inr (.inl ⟨a, us, i, w, rfl, rfl, ha, h1, Post.here P S (Ow.sh h2)⟩))
  · rename_i xs i
    obtain ⟨z, e1, rfl⟩ := Option.map_eq_some_iff.mp hg
    obtain ⟨a, us, rfl, ha, ra⟩ := hx.lstI
    obtain ⟨w, h1, h2⟩ := atI_sh ra e1
    rw [hy.intI]
    exact .inl (.inl ⟨a, us, i, w, rfl, rfl, SqL.of ha, h1, Post.here P S (Ow.sh h2)⟩)
  · rename_i ns i
    obtain ⟨z, e1, rfl⟩ := Option.map_eq_some_iff.mp hg
    obtain ⟨a, rfl, ha⟩ := hx.scrI
    obtain ⟨w, h1, h2⟩ := atI_sh (C := Γ.C) (Z := Z) (H := H) (shl_ints (ns := ns)) (i := i) (d := .int z) (by
      unfold atI at e1 ⊢
      rw [List.length_map]
      cases q : ixN ns.length i with
      | none => rw [q] at e1; cases e1
      | some j =>
        rw [q] at e1
        have e1 : ns[j]? = some z := e1
        show (ns.map D.int)[j]? = _
        rw [List.getElem?_map, e1]; rfl)
    rw [G.hK] at ha
    rw [hy.intI]
    exact .inl (.inl ⟨a, _, i, w, rfl, rfl, ha, h1, Post.here P S (Ow.sh h2)⟩)
  · rename_i z i
    split at hg
    · rename_i hz
      obtain ⟨c, e1, rfl⟩ := Option.map_eq_some_iff.mp hg
      rw [hx.strI, hy.intI]
      exact .inl (.inr (.inr ⟨z, i, c, rfl, rfl, lim_le hz, e1, Post.here P S (Ow.sh (.str _))⟩))
    · cases hg
  · rename_i ks vs d
    obtain ⟨k, e1, e2⟩ := Option.bind_eq_some_iff.mp hg
    obtain ⟨z, e3, rfl⟩ := Option.map_eq_some_iff.mp e2
    obtain ⟨a, us, rfl, ha, hl, ra⟩ := hx.dicI
    obtain ⟨w, h1, h2⟩ := keyV_val ra e3
    have ey := keyD_eq e1 hy
    subst ey
    have g := DGet.k (k := k) ha
    rw [h1] at g
    exact .inr ⟨a, w, rfl, g, Post.here P S (Ow.sh h2)⟩
  · cases hg
theorem ev_idx (G : Good Γ) {k : Nat} (hr : Room k Γ.X.A) (ha : EvO Γ a fa) (hb : EvO Γ b fb) (hs : PlainIx b := by exact fun _ _ => rfl) : EvE Γ (.Subscript a b pos) (op2 idxD fa fb) :=
  ev_op2 (ta := rIsA) (mk := fun x _ => x) ha hb (fun _ _ p q => pe_ix (ix_seq.or (ix_dict (by have := hr.un; omega))) p q hs) (does_idx G)

def cutD {α : Type} (xs : List α) (lo hi : Option Int) : List α := (xs.drop (HT.sIx xs.length 0 lo)).take (HT.sIx xs.length xs.length hi - HT.sIx xs.length 0 lo)
theorem cut_sh {C : RC} {Z : Fp} {H : Hp} {us : List V} {ds : List D} (r : ShL C Z H us ds) (lo hi : Option Int) : ShL C Z H (cutV us lo hi) (cutD ds lo hi) := by
  unfold cutV cutD
  rw [r.length]
  exact (r.drop _).take _
def slD (d : D) (lo hi : Option Int) : Option (D × Nat) :=
  match d with
  | .tup xs => some (.tup (cutD xs lo hi), 0)
  | .lst xs => some (.lst (cutD xs lo hi), 1)
  | .scr ns => some (.lst ((cutD ns lo hi).map D.int), 1)
  | _ => none
def EvP (Γ : Ct) (e : Option Expr) (f : En → R (Option Int)) : Prop := ∃ t, PO Γ.X e t ∧ Ev Γ (fun _ _ _ _ (i : Option Int) (j : Option Int) => i = j) f t
def pNone : En → R (Option Int) := fun env => .ok none env
def pSome (f : En → R D) : En → R (Option Int) := fun env => (f env).bind fun d env1 => match d with
  | .int i => .ok (some i) env1
  | _ => .no
theorem ep_none : EvP Γ none pNone := ⟨_, po_none, fun σ H Z env φ S Q P => Post.here P S rfl⟩
theorem ep_some {f : En → R D} (h : EvV Γ e f) : EvP Γ (some e) (pSome f) := by
  obtain ⟨t, h1, h2⟩ := h
  refine ⟨_, po_some h1, fun σ H Z env φ S Q P => ?_⟩
  refine h2.bind S P fun d env1 v H1 Z1 φ1 A e1 S1 o dj ev P1 => ?_
  have P2 := P1.mono (Evo.refl.sub (F2 := Tot φ1) fun _ z => .inl z)
  cases d with
  | int i => exact ⟨i, (Rd1.sh (C := Γ.C) o).intI, Post.here P2 S1 rfl⟩
  | _ => exact P2.elim
def opS (fa : En → R Opd) (fl fu : En → R (Option Int)) : En → R (D × Nat) := fun env => (fa env).bind fun oa env1 => (fl env1).bind fun l env2 => (fu env2).bind fun u env3 =>
  match oa.get env3 with
  | some d => R.of (slD d l u) env3
  | none => .no
theorem ev_slice (G : Good Γ) {lo hi : Option Expr} {fl fu : En → R (Option Int)} (ha : EvO Γ a fa) (hl : EvP Γ lo fl) (hu : EvP Γ hi fu) : EvE Γ (.Subscript a (.Slice lo hi none q) pos) (opS fa fl fu) := by
  obtain ⟨ta, a1, a2⟩ := ha
  obtain ⟨tl, l1, l2⟩ := hl
  obtain ⟨tu, u1, u2⟩ := hu
  refine ⟨_, pe_slice (sl_list.or sl_tupA) a1 l1 u1, fun σ H Z env φ S Q P => ?_⟩
  refine a2.bind S P fun oa env1 x H1 Z1 φ1 A e1 S1 q1 dj1 ev1 P1 => ?_
  refine l2.bind S1 (P1.mono (Evo.refl.sub fun _ z => .inl z)) fun l env2 l' H2 Z2 φ2 B e2 S2 q2 dj2 ev2 P2 => ?_
  cases (show l = l' from q2)
  refine u2.bind S2 (P2.mono (Evo.refl.sub fun _ z => .inl z)) fun u env3 u' H3 Z3 φ3 B3 e3 S3 q3 dj3 ev3 P3 => ?_
  cases (show u = u' from q3)
  have P4 := P3.mono (Evo.refl.sub (F2 := Tot φ3) fun _ z => .inl z)
  have q1' : OR Γ.C σ B3 Z3 H3 oa x := OR.go (S2.ext ev3) (OR.go (B := B) (S1.ext ev2) q1)
  cases ga : oa.get env3 with
  | none => rw [ga] at P4; exact P4.elim
  | some d =>
    simp only [ga] at P4
    have rd := Opd.rd S3 q1' ga
    unfold slD at P4
    split at P4
    · rename_i xs
      obtain ⟨z, us, rfl, hz, r⟩ := rd.tupI
      have hz' := hz
      rw [G.hK] at hz'
      refine .inr ⟨z, us, rfl, hz', fun hw => ?_, fun hw p hp => ?_⟩
      · have e : cutD xs l u = xs := by
          unfold cutD
          rw [← r.length, hw.1, hw.2, List.drop_zero, Nat.sub_zero, r.length, List.take_length]
        rw [e] at P4
        exact Post.here P4 S3 (Ow.sh (.tup hz r))
      · exact Post.newT P4 S3 hp (Ow.sh (.tup (SqT.of upd_same) ((cut_sh r l u).ext (Ext.new hp))))
    · rename_i xs
      obtain ⟨z, us, rfl, hz, r⟩ := rd.lstI
      exact .inl ⟨z, us, rfl, SqL.of hz, fun p hp => Post.newL P4 S3 hp (Ow.lst1 upd_same ((cut_sh r l u).ext (Ext.new hp)))⟩
    · rename_i ns
      obtain ⟨z, rfl, hz⟩ := rd.scrI
      rw [G.hK] at hz
      refine .inl ⟨z, _, rfl, hz, fun p hp => ?_⟩
      have r : ShL Γ.C Z3 H3 (cutV (ns.map V.int) l u) ((cutD ns l u).map D.int) := by
        have e : cutV (ns.map V.int) l u = (cutD ns l u).map V.int := by
          unfold cutV cutD
          rw [List.length_map, List.map_take, List.map_drop]
        rw [e]
        exact shl_ints
      exact Post.newL P4 S3 hp (Ow.lst1 upd_same (r.ext (Ext.new hp)))
    · exact P4.elim

theorem ev_b1 {id : String} {r : List V → Hp → VK → Prop} {g : D → Option (D × Nat)} (hc : CallR Γ.X (.builtin id) r) (hr : Does1 Γ g (fun v H Q => r [v] H Q)) (hg : Gl Γ.X x) (hm : Γ.X.mg x = none) (hv : bootBuiltins x = some (.builtin id)) (ha : EvO Γ a fa)
    (hn : x ≠ "__name__" := by decide) (hdb : (x == ("__debug__" : Str)) = false := by decide) (hs : starEach [a] Γ.X.env = [(false, eval a Γ.X.env)] := by rfl) : EvE Γ (.Call (.Name x p) [a] [] pos) (op1 g fa) := by
  obtain ⟨t, h1, h2⟩ := ha
  have pa : PA Γ.X [a] (tCons t tNil) := pa_cons h1 pa_nil hs
  exact ⟨_, pe_callB hc hg hm hv pa hn hdb hs rfl, h2.op1 hr⟩
theorem ev_t1 {T : String} {r : List V → Hp → VK → Prop} {g : D → Option (D × Nat)} (hc : CallR Γ.X (.type T) r) (hr : Does1 Γ g (fun v H Q => r [v] H Q)) (hg : Gl Γ.X x) (hm : Γ.X.mg x = none) (hv : bootBuiltins x = some (.type T)) (ha : EvO Γ a fa)
    (hn : x ≠ "__name__" := by decide) (hdb : (x == ("__debug__" : Str)) = false := by decide) (hs : starEach [a] Γ.X.env = [(false, eval a Γ.X.env)] := by rfl) : EvE Γ (.Call (.Name x p) [a] [] pos) (op1 g fa) := by
  obtain ⟨t, h1, h2⟩ := ha
  have pa : PA Γ.X [a] (tCons t tNil) := pa_cons h1 pa_nil hs
  exact ⟨_, pe_callTy hc hg hm hv pa hn hdb hs rfl, h2.op1 hr⟩
theorem ev_b2 {id : String} {r : List V → Hp → VK → Prop} {g : D → D → Option (D × Nat)} (hc : CallR Γ.X (.builtin id) r) (hr : Does2 Γ g (fun v w H Q => r [v, w] H Q)) (hg : Gl Γ.X x) (hm : Γ.X.mg x = none) (hv : bootBuiltins x = some (.builtin id)) (ha : EvO Γ a fa) (hb : EvO Γ b fb)
    (hn : x ≠ "__name__" := by decide) (hdb : (x == ("__debug__" : Str)) = false := by decide) (hs : starEach [a, b] Γ.X.env = [(false, eval a Γ.X.env), (false, eval b Γ.X.env)] := by rfl) (hs2 : starEach [b] Γ.X.env = [(false, eval b Γ.X.env)] := by rfl) : EvE Γ (.Call (.Name x p) [a, b] [] pos) (op2 g fa fb) := by
  refine ev_op2 (ta := rIsA) (mk := fun x _ => x) ha hb (fun ta tb h1 h2 => ?_) hr
  have pb : PA Γ.X [b] (tCons tb tNil) := pa_cons h2 pa_nil hs2
  have pa : PA Γ.X [a, b] (tCons ta (tCons tb tNil)) := pa_cons h1 pb (by rw [hs, hs2])
  exact pe_callB hc hg hm hv pa hn hdb (by rw [hs, hs2]) (by rw [hs2]; rfl)
def lenD : D → Option (D × Nat)
  | .tup xs => some (.int xs.length, 0)
  | .lst xs => some (.int xs.length, 0)
  | .scr ns => some (.int ns.length, 0)
  | .str z => if z.length ≤ lim then some (.int z.length, 0) else none
  | .dic ks _ => some (.int ks.length, 0)
  | _ => none
abbrev rLenA (K : PySem.W.Frag) : List V → Hp → VK → Prop := fun xs H Q => (∃ p ys, xs = [.ref p] ∧ (SqL K H p ys ∨ SqT K H p ys) ∧ Q (.int ys.length) H) ∨ (∃ z, xs = [.str z] ∧ z.length ≤ sizeLine ∧ Q (.int z.length) H) ∨ (∃ a kvs, xs = [V.ref a] ∧ H a = some (.dK kvs) ∧ Q (.int kvs.length) H)
theorem does_len (G : Good Γ) : Does1 Γ lenD (fun v H Q => rLenA Γ.X.K [v] H Q) := by
  intro σ H Z env φ S x d p hx hg Q P
  unfold lenD at hg
  split at hg
  · cases hg
    obtain ⟨a, us, rfl, ha, r⟩ := hx.tupI
    rw [G.hK] at ha
    exact .inl ⟨a, us, rfl, .inr ha, by rw [r.length]; exact Post.here P S (Ow.sh (.int _))⟩
  · cases hg
    obtain ⟨a, us, rfl, ha, r⟩ := hx.lstI
    exact .inl ⟨a, us, rfl, .inl (SqL.of ha), by rw [r.length]; exact Post.here P S (Ow.sh (.int _))⟩
  · cases hg
    obtain ⟨a, rfl, ha⟩ := hx.scrI
    rw [G.hK] at ha
    exact .inl ⟨a, _, rfl, .inl ha, by rw [List.length_map]; exact Post.here P S (Ow.sh (.int _))⟩
  · split at hg
    · rename_i hz
      cases hg
      rw [hx.strI]
      exact .inr (.inl ⟨_, rfl, lim_le hz, Post.here P S (Ow.sh (.int _))⟩)
    · cases hg
  · cases hg
    obtain ⟨a, us, rfl, ha, hl, r⟩ := hx.dicI
    refine .inr (.inr ⟨a, _, rfl, ha, ?_⟩)
    rw [List.length_zip, hl, Nat.min_self, ← hl]
    exact Post.here P S (Ow.sh (.int _))
  · cases hg
theorem ev_len (G : Good Γ) (hg : Gl Γ.X "len") (hm : Γ.X.mg "len" = none) (ha : EvO Γ a fa) (hs : starEach [a] Γ.X.env = [(false, eval a Γ.X.env)] := by rfl) : EvE Γ (.Call (.Name "len" p) [a] [] pos) (op1 lenD fa) :=
  ev_b1 (CallR.or call_len_seq (CallR.or call_len_str call_lenD)) (does_len G) hg hm PySem.boot_len ha (hs := hs)

def intD : D → Option (D × Nat)
  | .int i => some (.int i, 0)
  | .bl b => some (.int (if b then 1 else 0), 0)
  | _ => none
theorem ev_int1 (hg : Gl Γ.X "int") (hm : Γ.X.mg "int" = none) (ha : EvO Γ a fa) (hs : starEach [a] Γ.X.env = [(false, eval a Γ.X.env)] := by rfl) : EvE Γ (.Call (.Name "int" p) [a] [] pos) (op1 intD fa) :=
  ev_t1 call_int1 (fun σ H Z env φ S x d p hx hg Q P => by
    unfold intD at hg
    split at hg
    · cases hg
      rw [hx.intI]
      exact .inl ⟨_, rfl, Post.here P S (Ow.sh (.int _))⟩
    · cases hg
      rw [hx.blI]
      exact .inr ⟨_, rfl, Post.here P S (Ow.sh (.int _))⟩
    · cases hg) hg hm (by decide +kernel) ha (hs := hs)
def tupD : D → Option (D × Nat)
  | .tup xs => some (.tup xs, 0)
  | .lst xs => some (.tup xs, 0)
  | _ => none
theorem ev_tuple (G : Good Γ) (hg : Gl Γ.X "tuple") (hm : Γ.X.mg "tuple" = none) (ha : EvO Γ a fa) (hs : starEach [a] Γ.X.env = [(false, eval a Γ.X.env)] := by rfl) : EvE Γ (.Call (.Name "tuple" p) [a] [] pos) (op1 tupD fa) :=
  ev_t1 call_tuple_of (fun σ H Z env φ S x d p hx hg Q P => by
    unfold tupD at hg
    split at hg
    · cases hg
      obtain ⟨a, us, rfl, ha, r⟩ := hx.tupI
      have ha' := ha
      rw [G.hK] at ha'
      exact ⟨a, us, rfl, .inr ⟨ha', Post.here P S (Ow.sh (.tup ha r))⟩⟩
    · cases hg
      obtain ⟨a, us, rfl, ha, r⟩ := hx.lstI
      exact ⟨a, us, rfl, .inl ⟨SqL.of ha, fun l hl => Post.newT P S hl (Ow.sh (.tup (SqT.of upd_same) (r.ext (Ext.new hl))))⟩⟩
    · cases hg) hg hm (by decide +kernel) ha (hs := hs)
def lisD : D → Option (D × Nat)
  | .tup xs => some (.lst xs, 1)
  | .lst xs => some (.lst xs, 1)
  | .scr ns => some (.lst (ns.map D.int), 1)
  | _ => none
theorem ev_list (G : Good Γ) (hg : Gl Γ.X "list") (hm : Γ.X.mg "list" = none) (ha : EvO Γ a fa) (hs : starEach [a] Γ.X.env = [(false, eval a Γ.X.env)] := by rfl) : EvE Γ (.Call (.Name "list" p) [a] [] pos) (op1 lisD fa) :=
  ev_t1 call_list_of (fun σ H Z env φ S x d p hx hg Q P => by
    unfold lisD at hg
    split at hg
    · cases hg
      obtain ⟨a, us, rfl, ha, r⟩ := hx.tupI
      rw [G.hK] at ha
      exact ⟨a, us, rfl, .inr ha, fun l hl => Post.newL P S hl (Ow.lst1 upd_same (r.ext (Ext.new hl)))⟩
    · cases hg
      obtain ⟨a, us, rfl, ha, r⟩ := hx.lstI
      exact ⟨a, us, rfl, .inl (SqL.of ha), fun l hl => Post.newL P S hl (Ow.lst1 upd_same (r.ext (Ext.new hl)))⟩
    · cases hg
      obtain ⟨a, rfl, ha⟩ := hx.scrI
      rw [G.hK] at ha
      exact ⟨a, _, rfl, .inl ha, fun l hl => Post.newL P S hl (Ow.lst1 upd_same (shl_ints.ext (Ext.new hl)))⟩
    · cases hg) hg hm (by decide +kernel) ha (hs := hs)
def absD : D → Option (D × Nat)
  | .int i => some (.int (if i < 0 then -i else i), 0)
  | _ => none
theorem ev_abs (hg : Gl Γ.X "abs") (hm : Γ.X.mg "abs" = none) (ha : EvO Γ a fa) (hs : starEach [a] Γ.X.env = [(false, eval a Γ.X.env)] := by rfl) : EvE Γ (.Call (.Name "abs" p) [a] [] pos) (op1 absD fa) :=
  ev_b1 call_abs (fun σ H Z env φ S x d p hx hg Q P => by
    unfold absD at hg
    split at hg
    · cases hg
      rw [hx.intI]
      exact ⟨_, rfl, Post.here P S (Ow.sh (.int _))⟩
    · cases hg) hg hm (by decide +kernel) ha (hs := hs)
def D.bls : List D → Option (List Bool)
  | [] => some []
  | .bl i :: r => (D.bls r).map (i :: ·)
  | _ :: _ => none
theorem D.bls_eq : ∀ {ds : List D} {ns : List Bool}, D.bls ds = some ns → ds = ns.map D.bl
  | [], ns, h => by cases h; rfl
  | .bl i :: r, ns, h => by
    unfold D.bls at h
    obtain ⟨ms, e, rfl⟩ := Option.map_eq_some_iff.mp h
    rw [List.map_cons, ← D.bls_eq e]
  | .non :: _, _, h => by cases h
  | .int _ :: _, _, h => by cases h
  | .str _ :: _, _, h => by cases h
  | .fn _ :: _, _, h => by cases h
  | .tup _ :: _, _, h => by cases h
  | .lst _ :: _, _, h => by cases h
  | .dic _ _ :: _, _, h => by cases h
  | .scr _ :: _, _, h => by cases h
@[simp] theorem D.bls_map : ∀ ns : List Bool, D.bls (ns.map D.bl) = some ns
  | [] => rfl
  | n :: ns => by rw [List.map_cons, D.bls, D.bls_map ns]; rfl
def allD : D → Option (D × Nat)
  | .lst xs => (D.bls xs).map fun ns => (.bl (ns.all id), 0)
  | _ => none
theorem ev_all (G : Good Γ) (hg : Gl Γ.X "all") (hm : Γ.X.mg "all" = none) (ha : EvO Γ a fa) (hs : starEach [a] Γ.X.env = [(false, eval a Γ.X.env)] := by rfl) : EvE Γ (.Call (.Name "all" p) [a] [] pos) (op1 allD fa) :=
  ev_b1 (cr_all G.calm) (fun σ H Z env φ S x d p hx hg Q P => by
    unfold allD at hg
    split at hg
    · obtain ⟨ns, e1, rfl⟩ := Option.map_eq_some_iff.mp hg
      obtain ⟨a, us, rfl, ha, r⟩ := hx.lstI
      rw [D.bls_eq e1] at r
      rw [r.bools] at ha
      exact ⟨a, ns, rfl, SqL.of ha, Post.here P S (Ow.sh (.bl _))⟩
    · cases hg) hg hm (by decide +kernel) ha (hs := hs)

def max2D : D → D → Option (D × Nat)
  | .int i, .int j => some (.int (max i j), 0)
  | _, _ => none
def min2D : D → D → Option (D × Nat)
  | .int i, .int j => some (.int (min i j), 0)
  | _, _ => none
theorem ev_max2 (G : Good Γ) (hg : Gl Γ.X "max") (hm : Γ.X.mg "max" = none) (ha : EvO Γ a fa) (hb : EvO Γ b fb) (hs : starEach [a, b] Γ.X.env = [(false, eval a Γ.X.env), (false, eval b Γ.X.env)] := by rfl) (hs2 : starEach [b] Γ.X.env = [(false, eval b Γ.X.env)] := by rfl) : EvE Γ (.Call (.Name "max" p) [a, b] [] pos) (op2 max2D fa fb) :=
  ev_b2 (call_max2 G.calm) (fun σ H Z env φ S x y d e p hx hy hg Q P => by
    unfold max2D at hg
    split at hg
    · rename_i i j
      cases hg
      rw [hx.intI, hy.intI]
      refine ⟨_, _, rfl, ?_⟩
      have e : (if j > i then j else i) = max i j := by rw [Int.max_def]; split <;> split <;> omega
      rw [e]
      exact Post.here P S (Ow.sh (.int _))
    · cases hg) hg hm (by decide +kernel) ha hb (hs := hs) (hs2 := hs2)
def tyD : D → Option String
  | .non => some "NoneType"
  | .bl _ => some "bool"
  | .int _ => some "int"
  | .str _ => some "str"
  | .tup _ => some "tuple"
  | .lst _ => some "list"
  | .dic _ _ => some "dict"
  | .scr _ => some "list"
  | .fn _ => none
def isiD (T : String) (d : D) : Option (D × Nat) := (tyD d).bind fun s => if s = T then some (.bl true, 0) else if s = "bool" ∧ T = "int" then some (.bl true, 0) else some (.bl false, 0)
end
theorem SqT.tyx {K : PySem.W.Frag} {H : Hp} {a : Addr} {xs : List V} (h : SqT K H a xs) : TyX K H (.ref a) (.type "tuple") := by
  rcases h with (h | ⟨o, h⟩) | ⟨o, its, n, h1, h2, _⟩
  · exact .base (.tup h)
  · exact .fTuple h
  · exact .kTuple h1 h2
theorem SqL.tyx {K : PySem.W.Frag} {H : Hp} {a : Addr} {xs : List V} (h : SqL K H a xs) : TyX K H (.ref a) (.type "list") := by
  rcases h with (h | ⟨o, h⟩) | ⟨o, its, n, h1, h2, _⟩
  · exact .base (.lst h)
  · exact .base (.frz h)
  · exact .kList h1 h2
theorem tyD_x {C : RC} {Z : Fp} {H : Hp} {v : V} {d : D} {T : String} (h : Rd1 C Z H v d) (e : tyD d = some T) : TyX C.K H v (.type T) := by
  cases h with
  | sh h =>
    cases h with
    | non => cases e; exact .base .non
    | bl b => cases e; exact .base (.bl b)
    | int i => cases e; exact .base (.int i)
    | str x => cases e; exact .base (.str x)
    | fn _ => cases e
    | tup s r => cases e; exact SqT.tyx s
    | lst s z r => cases e; exact .base (.lst s)
    | dic s z l r => cases e; exact .base (.dK s)
    | scr s => cases e; exact SqL.tyx s.sqL
  | lst s r => cases e; exact .base (.lst s)
  | dic s l r => cases e; exact .base (.dK s)
def isiTs : List String := ["int", "bool", "str", "tuple", "list", "dict"]
theorem kit_all : ∀ s ∈ ["NoneType", "bool", "int", "str", "tuple", "list", "dict"], ∀ T ∈ isiTs, kitB s T = some (decide (s = T) || (decide (s = "bool") && decide (T = "int"))) := by decide +kernel
theorem tyD_mem {d : D} {s : String} (h : tyD d = some s) : s ∈ ["NoneType", "bool", "int", "str", "tuple", "list", "dict"] := by
  cases d <;> first | (cases h; decide) | cases h
section
variable {Γ : Ct} {e a b c : Expr} {fa fb fc : En → R Opd} {pos p q : Pos} {x : Str}
theorem ev_isi (G : Good Γ) {T : String} (hT : T ∈ isiTs) (hx : bootBuiltins x = some (.type T)) (hg : Gl Γ.X "isinstance") (hm : Γ.X.mg "isinstance" = none) (hg2 : Gl Γ.X x) (hm2 : Γ.X.mg x = none) (ha : EvO Γ a fa)
    (hn : x ≠ "__name__" := by decide) (hdb : (x == ("__debug__" : Str)) = false := by decide) (hs : starEach [a, .Name x q] Γ.X.env = [(false, eval a Γ.X.env), (false, eval (.Name x q) Γ.X.env)] := by rfl) : EvE Γ (.Call (.Name "isinstance" p) [a, .Name x q] [] pos) (op1 (isiD T) fa) := by
  obtain ⟨t, h1, h2⟩ := ha
  have pb : PA Γ.X [.Name x q] (tCons (tC (.ty T)) tNil) := pa_cons (pe_bltn hg2 hm2 hx rfl hn hdb) pa_nil
  have pa : PA Γ.X [a, .Name x q] (tCons t (tCons (tC (.ty T)) tNil)) := pa_cons h1 pb (by rw [hs]; rfl)
  refine ⟨_, pe_callB call_isi hg hm (by decide +kernel) pa (by decide) (by decide) (by rw [hs]; rfl) rfl, ?_⟩
  have h3 := Ev.op1 (g := isiD T) (r := fun v H Q => rIsi Γ.X.K [v, .ty T] H Q) h2 (fun σ H Z env φ S x d p hx hg Q P => by
    unfold isiD at hg
    obtain ⟨s, e1, e2⟩ := Option.bind_eq_some_iff.mp hg
    have k := kit_all s (tyD_mem e1) T hT
    have ty := tyD_x hx e1
    rw [G.hK] at ty
    refine ⟨x, .ty T, _, _, _, rfl, .ty T, ty, kit_ty k, ?_⟩
    have e3 : p = (.bl (decide (s = T) || (decide (s = "bool") && decide (T = "int"))), 0) := by
      by_cases h : s = T
      · rw [if_pos h] at e2
        cases e2
        simp [h]
      · rw [if_neg h] at e2
        by_cases h' : s = "bool" ∧ T = "int"
        · rw [if_pos h'] at e2
          cases e2
          simp [h'.1, h'.2]
        · rw [if_neg h'] at e2
          cases e2
          have : (decide (s = T) || (decide (s = "bool") && decide (T = "int"))) = false := by
            rw [Bool.or_eq_false_iff, Bool.and_eq_false_iff]
            refine ⟨decide_eq_false h, ?_⟩
            by_cases q : s = "bool"
            · exact .inr (decide_eq_false fun z => h' ⟨q, z⟩)
            · exact .inl (decide_eq_false q)
          rw [this]
    rw [e3] at P
    exact Post.here P S (Ow.sh (.bl _)))
  exact h3
end
end Pv
end

section
set_option Elab.async false
set_option linter.all false
set_option maxRecDepth 100000
set_option maxHeartbeats 4000000
namespace Pv
open PySem PySem.Spec PyProof.Rows L2

inductive SR where
  | nx (e : En) | ret (p : D × Nat) (e : En) | bk (e : En) | ct (e : En) | ex (x : Xn) | no
def PostS (Γ : Ct) (Z : Fp) (H : Hp) (F : Fp) (r : SR) (Dn : Ends) : Prop :=
  match r with
  | .nx env' => ∀ σ' H' Z' φ', SttC Γ Z' σ' H' env' φ' → Evo Z H F Z' H' (Tot φ') → Dn.nx σ' H'
  | .bk env' => ∀ σ' H' Z' φ', SttC Γ Z' σ' H' env' φ' → Evo Z H F Z' H' (Tot φ') → Dn.bk σ' H'
  | .ct env' => ∀ σ' H' Z' φ', SttC Γ Z' σ' H' env' φ' → Evo Z H F Z' H' (Tot φ') → Dn.ct σ' H'
  | .ret p env' => ∀ v σ' H' Z' φ' A, SttC Γ Z' σ' H' env' φ' → Ow Γ.C Z' H' p.2 v p.1 A → (∀ x, A x → ¬ Tot φ' x ∧ ¬ Z' x) → Evo Z H F Z' H' (fun x => Tot φ' x ∨ A x) → Dn.rt v H'
  | .ex x => ∀ σ', (∀ i ∈ Γ.io, σ'[i]? = Γ.σ₀[i]?) → (Γ.io ≠ [] → σ'.length = Γ.σ₀.length) → PostX Γ σ' Z H F x
  | .no => False
def EvsT (Γ : Ct) (f : En → SR) (t : TS) : Prop := ∀ σ H Z env φ, SttC Γ Z σ H env φ → ∀ Dn : Ends, PostS Γ Z H (Tot φ) (f env) Dn → t Dn σ H
def EvS (Γ : Ct) (st : Stmt) (f : En → SR) : Prop := ∃ t, PS Γ.X st t ∧ EvsT Γ f t
def EvB (Γ : Ct) (st : List Stmt) (f : En → SR) : Prop := ∃ t, PSs Γ.X st t ∧ EvsT Γ f t
section
variable {Γ : Ct} {α β γ δ : Type} {σ : L2.St} {Z Z1 : Fp} {H H1 : Hp} {F F1 : Fp}
theorem PostS.mono {r : SR} {Dn : Ends} (h : PostS Γ Z H F r Dn) (e : Evo Z H F Z1 H1 F1) : PostS Γ Z1 H1 F1 r Dn := by
  cases r with
  | nx env => exact fun σ' H' Z' φ' S e2 => h σ' H' Z' φ' S (e.trans e2)
  | bk env => exact fun σ' H' Z' φ' S e2 => h σ' H' Z' φ' S (e.trans e2)
  | ct env => exact fun σ' H' Z' φ' S e2 => h σ' H' Z' φ' S (e.trans e2)
  | ret p env => exact fun v σ' H' Z' φ' A S o d e2 => h v σ' H' Z' φ' A S o d (e.trans e2)
  | ex x => exact fun σ' hσ hl => (h σ' hσ hl).mono e
  | no => exact h
def R.then {α : Type} (r : R α) (g : α → En → SR) : SR :=
  match r with
  | .ok a e => g a e
  | .ex x => .ex x
  | .no => .no
@[simp] theorem R.then_ok (a : α) (e : En) (g : α → En → SR) : (R.ok a e).then g = g a e := rfl
@[simp] theorem R.then_ex (x : Xn) (g : α → En → SR) : (R.ex x : R α).then g = .ex x := rfl
@[simp] theorem R.then_no (g : α → En → SR) : (R.no : R α).then g = .no := rfl
theorem Ev.then {rel1 : L2.St → Rel α β} {f : En → R α} {t : L2.St → Hp → (β → Hp → Prop) → Prop} (h : Ev Γ rel1 f t) {env : En} {φ : Nat → Fp} (S : SttC Γ Z σ H env φ) {g : α → En → SR} {Dn : Ends} {Q1 : β → Hp → Prop}
    (P : PostS Γ Z H (Tot φ) ((f env).then g) Dn)
    (k : ∀ a env1 b H1 Z1 φ1 A, f env = .ok a env1 → SttC Γ Z1 σ H1 env1 φ1 → rel1 σ A Z1 H1 a b → (∀ x, A x → ¬ Tot φ1 x ∧ ¬ Z1 x) → Evo Z H (Tot φ) Z1 H1 (fun x => Tot φ1 x ∨ A x) →
      PostS Γ Z1 H1 (fun x => Tot φ1 x ∨ A x) (g a env1) Dn → Q1 b H1) : t σ H Q1 := by
  refine h σ H Z env φ S Q1 ?_
  cases e : f env with
  | ok a env1 =>
    rw [e] at P
    exact fun b H1 Z1 φ1 A S1 q d ev => k a env1 b H1 Z1 φ1 A e S1 q d ev (PostS.mono P ev)
  | ex x => rw [e] at P; exact P σ S.io S.l0
  | no => rw [e] at P; exact P
theorem Evo.dropA {φ : Nat → Fp} {A : Fp} : Evo Z H (fun x => Tot φ x ∨ A x) Z H (Tot φ) := Evo.refl.sub fun _ z => .inl z
theorem PostS.here {env : En} {φ : Nat → Fp} {Dn : Ends} (h : PostS Γ Z H (Tot φ) (.nx env) Dn) (S : SttC Γ Z σ H env φ) : Dn.nx σ H := h σ H Z φ S Evo.refl

def passS : En → SR := fun env => .nx env
def seqS (f g : En → SR) : En → SR := fun env => match f env with
  | .nx e => g e
  | r => r
variable {st : Stmt} {rest body : List Stmt} {f g : En → SR} {e : Expr} {pos : Pos}
theorem eb_nil : EvB Γ [] passS := ⟨_, pss_nil, fun σ H Z env φ S Dn P => PostS.here P S⟩
theorem eb_one (h : EvS Γ st f) : EvB Γ [st] f := by
  obtain ⟨t, h1, h2⟩ := h
  exact ⟨t, pss_one h1, h2⟩
theorem eb_cons (h : EvS Γ st f) (k : EvB Γ rest g) : EvB Γ (st :: rest) (seqS f g) := by
  obtain ⟨t, h1, h2⟩ := h
  obtain ⟨u, k1, k2⟩ := k
  refine ⟨_, pss_cons h1 k1, fun σ H Z env φ S Dn P => ?_⟩
  refine h2 σ H Z env φ S _ ?_
  unfold seqS at P
  cases e : f env with
  | nx env1 =>
    rw [e] at P
    exact fun σ' H' Z' φ' S' ev => k2 σ' H' Z' env1 φ' S' Dn (PostS.mono P ev)
  | bk env1 => rw [e] at P; exact P
  | ct env1 => rw [e] at P; exact P
  | ret p env1 => rw [e] at P; exact P
  | ex x => rw [e] at P; exact P
  | no => rw [e] at P; exact P
def noS : En → SR := fun _ => .no
def exprS (fe : En → R (D × Nat)) : En → SR := fun env => (fe env).then fun _ env1 => .nx env1
theorem es_expr {fe : En → R (D × Nat)} (h : EvE Γ e fe) (hs : swapsWith e none pos.line Γ.X.env = pure false := by rfl) : EvS Γ (.Expr e pos) (exprS fe) := by
  obtain ⟨t, h1, h2⟩ := h
  refine ⟨_, ps_expr h1 hs, fun σ H Z env φ S Dn P => ?_⟩
  refine h2.then S P fun p env1 v H1 Z1 φ1 A e1 S1 o dj ev P1 => ?_
  exact PostS.here (P1.mono Evo.dropA) S1
def retS (fe : En → R (D × Nat)) : En → SR := fun env => (fe env).then fun p env1 => .ret p env1
theorem es_ret {fe : En → R (D × Nat)} (h : EvE Γ e fe) : EvS Γ (.Return (some e) pos) (retS fe) := by
  obtain ⟨t, h1, h2⟩ := h
  refine ⟨_, ps_ret h1, fun σ H Z env φ S Dn P => ?_⟩
  refine h2.then S P fun p env1 v H1 Z1 φ1 A e1 S1 o dj ev P1 => ?_
  exact P1 v σ H1 Z1 φ1 A S1 o dj Evo.refl
def retN : En → SR := fun env => .ret (.non, 0) env
def retM (i : Nat) : En → SR := fun env => match env[i]? with
  | some (some p) => .ret p (env.set i none)
  | _ => .no
theorem es_retM {i : Nat} {x : Str} {pos' : Pos} (hN : Γ.X.N[i]? = some x) (hv : Vis Γ.X.env.scope x) (hd : (x == ("__debug__" : Str)) = false := by decide) (hcd : (x == ("__classdict__" : Str)) = false := by decide) : EvS Γ (.Return (some (.Name x pos')) pos) (retM i) := by
  refine ⟨_, ps_ret (pe_var hN hv hd hcd), fun σ H Z env φ S Dn P => ?_⟩
  unfold retM at P
  split at P
  · rename_i p h
    obtain ⟨d, k⟩ := p
    obtain ⟨v, h1, o⟩ := S.slot i d k h
    refine ⟨v, h1, P v σ H Z _ (φ i) (S.drop i) o (fun x z => ⟨fun ⟨j, q, y⟩ => q (S.dj j i x y z), S.nz i x z⟩) ⟨fun _ _ q _ => q, fun _ z => z, fun _ z => .inl z, fun x z => .inl (z.elim (fun ⟨j, _, y⟩ => ⟨j, y⟩) fun z => ⟨i, z⟩)⟩⟩
  · exact P.elim
def putE (env : En) (i : Nat) (p : D × Nat) : SR := if i < env.length then .nx (env.set i (some p)) else .no
def setS (i : Nat) (fe : En → R (D × Nat)) : En → SR := fun env => (fe env).then fun p env1 => putE env1 i p
theorem put_ok {i : Nat} {env : En} {φ : Nat → Fp} (hio : i ∉ Γ.io) (S : SttC Γ Z σ H env φ) {p : D × Nat} {v : V} {A : Fp} (o : Ow Γ.C Z H p.2 v p.1 A) (dj : ∀ x, A x → ¬ Tot φ x ∧ ¬ Z x) {Dn : Ends} (P : PostS Γ Z H (fun x => Tot φ x ∨ A x) (putE env i p) Dn) : Dn.nx (σ.set i (some v)) H := by
  unfold putE at P
  split at P
  · rename_i hi
    refine P _ H Z _ (S.put hi hio o (fun j a _ h z => (dj a z).1 ⟨j, h⟩) fun a z => (dj a z).2) ⟨fun _ _ q _ => q, fun _ z => z, fun _ z => .inl z, fun x ⟨j, z⟩ => .inl ?_⟩
    by_cases q : j = i
    · simp only [if_pos q] at z; exact .inr z
    · simp only [if_neg q] at z; exact .inl ⟨j, z⟩
  · exact P.elim
theorem es_set {i : Nat} {x : Str} {pos' : Pos} {fe : En → R (D × Nat)} (G : Good Γ) (hi : Γ.X.N[i]? = some x) (hx : Loc Γ.X.env.scope x) (hio : i ∉ Γ.io) (h : EvE Γ e fe) (hs : swapsWith e (some (.Name x pos')) pos.line Γ.X.env = pure false := by rfl)
    (hf : Γ.X.fn x = true ∨ Γ.X.env.scope.names.lookup x = some .local := by first | exact .inl rfl | exact .inr rfl | assumption) : EvS Γ (.Assign [.Name x pos'] e pos) (setS i fe) := by
  obtain ⟨t, h1, h2⟩ := h
  refine ⟨_, ps_set G.nd hi hx h1 hs hf, fun σ H Z env φ S Dn P => ?_⟩
  refine h2.then S P fun p env1 v H1 Z1 φ1 A e1 S1 o dj ev P1 => ?_
  exact put_ok hio S1 o dj P1
def iteS (c : En → R Bool) (f g : En → SR) : En → SR := fun env => (c env).then fun b env1 => if b = true then f env1 else g env1
theorem es_if {c : Expr} {fc : En → R Bool} {els : List Stmt} (hc : EvT Γ c fc) (ha : EvB Γ body f) (hb : EvB Γ els g) : EvS Γ (.If c body els pos) (iteS fc f g) := by
  obtain ⟨t, h1, h2⟩ := hc
  obtain ⟨u, k1, k2⟩ := ha
  obtain ⟨w, l1, l2⟩ := hb
  refine ⟨_, ps_if h1 k1 l1, fun σ H Z env φ S Dn P => ?_⟩
  refine h2.then S P fun b env1 b' H1 Z1 φ1 A e1 S1 q dj ev P1 => ?_
  cases (show b = b' from q)
  have P2 := P1.mono Evo.dropA
  cases b with
  | true => exact k2 σ H1 Z1 env1 φ1 S1 Dn P2
  | false => exact l2 σ H1 Z1 env1 φ1 S1 Dn P2

inductive OwL (C : RC) (Z : Fp) (H : Hp) : List V → List (D × Nat) → Fp → Prop
  | nil {A : Fp} : (∀ a, ¬ A a) → OwL C Z H [] [] A
  | cons {v : V} {vs : List V} {p : D × Nat} {ps : List (D × Nat)} {A B U : Fp} : Ow C Z H p.2 v p.1 A → OwL C Z H vs ps B → (∀ a, A a → ¬ B a) → (∀ a, U a ↔ A a ∨ B a) → OwL C Z H (v :: vs) (p :: ps) U
abbrev LR (C : RC) : L2.St → Rel (List (D × Nat)) (List V) := fun _ A Z H ps vs => OwL C Z H vs ps A
def EvL (Γ : Ct) (es : List Expr) (f : En → R (List (D × Nat))) : Prop := ∃ t, PA Γ.X es t ∧ Ev Γ (LR Γ.C) f t
def lNil : En → R (List (D × Nat)) := fun env => .ok [] env
def lCons (u : En → R (D × Nat)) (r : En → R (List (D × Nat))) : En → R (List (D × Nat)) := fun env => (u env).bind fun d env1 => (r env1).bind fun ds env2 => .ok (d :: ds) env2
theorem el_nil : EvL Γ [] lNil := ⟨_, pa_nil, fun σ H Z env φ S Q P => Post.here P S (.nil fun _ z => z)⟩
theorem el_cons {es : List Expr} {u : En → R (D × Nat)} {r : En → R (List (D × Nat))} (ha : EvE Γ e u) (hr : EvL Γ es r) (hs : starEach (e :: es) Γ.X.env = (false, eval e Γ.X.env) :: starEach es Γ.X.env := by rfl) : EvL Γ (e :: es) (lCons u r) := by
  obtain ⟨t, h1, h2⟩ := ha
  obtain ⟨w, k1, k2⟩ := hr
  refine ⟨_, pa_cons h1 k1 hs, fun σ H Z env φ S Q P => ?_⟩
  refine h2.bind S P fun d env1 x H1 Z1 φ1 A e1 S1 q1 dj1 ev1 P1 => ?_
  -- the values in hand are kept apart: they are shared by no slot
  have P1' : Post Γ σ Z1 H1 (fun x => Tot φ1 x ∨ A x) (LR Γ.C σ) ((r env1).bind fun ds env2 => .ok (d :: ds) env2) Q := P1
  refine k2 σ H1 Z1 env1 φ1 S1 _ ?_
  cases e2 : r env1 with
  | ok ds env2 =>
    rw [e2] at P1'
    intro xs H2 Z2 φ2 B S2 q2 dj2 ev2
    have am := Ow.mut q1
    have aF : ∀ a, A a → ¬ Tot φ1 a := fun a z => (dj1 a z).1
    have aZ : ∀ a, A a → ¬ Z2 a := fun a z y => by
      rcases ev2.zn a y with y | y | y
      · exact (dj1 a z).2 y
      · exact aF a z y
      · have := am a z; rw [y] at this; exact this
    have aT : ∀ a, A a → ¬ (Tot φ2 a ∨ B a) := fun a z y => by
      rcases ev2.fn a y with y | y
      · exact aF a z y
      · have := am a z; rw [y] at this; exact this
    refine P1' (x :: xs) H2 Z2 φ2 (fun a => A a ∨ B a) S2 (.cons (Ow.ext (S1.ext ev2) q1 fun a o z h => ev2.keep a o h (aF a z)) q2 (fun a z y => aT a z (.inr y)) fun _ => Iff.rfl) (fun a z => z.elim (fun z => ⟨fun y => aT a z (.inl y), aZ a z⟩) (dj2 a)) ?_
    refine ⟨fun a o h n => ev2.keep a o h fun z => n (.inl z), ev2.zm, fun a z => (ev2.zn a z).imp id fun q => q.imp .inl id, fun a z => ?_⟩
    rcases z with z | z | z
    · exact (ev2.fn a (.inl z)).imp .inl id
    · exact .inl (.inr z)
    · exact (ev2.fn a (.inr z)).imp .inl id
  | ex x => rw [e2] at P1'; exact PostX.mono P1' (Evo.refl.sub fun _ z => .inl z)
  | no => rw [e2] at P1'; exact P1'
def parS (i j : Nat) (fa : En → R (List (D × Nat))) : En → SR := fun env => (fa env).then fun ps env1 => match ps with
  | [p, q] => if i < env1.length ∧ j < env1.length then .nx ((env1.set i (some p)).set j (some q)) else .no
  | _ => .no
theorem es_par {i j : Nat} {x y : Str} {a b : Expr} {fa : En → R (List (D × Nat))} {px py pt : Pos} {kt k2 : Nat} {pt2 : Pos} (G : Good Γ) (hi : Γ.X.N[i]? = some x) (hj : Γ.X.N[j]? = some y) (hij : i ≠ j) (hio : i ∉ Γ.io) (hjo : j ∉ Γ.io)
    (hx : Γ.X.env.scope.names.lookup x = some .local) (hy : Γ.X.env.scope.names.lookup y = some .local) (ha : EvL Γ [a, b] fa)
    (hw : swappedStores [.Tuple [.Name x px, .Name y py] kt pt] (.Tuple [a, b] k2 pt2) Γ.X.env = pure (some [x, y]) := by rfl)
    (hs : swapsWithSole [.Tuple [.Name x px, .Name y py] kt pt] (.Tuple [a, b] k2 pt2) pos.line Γ.X.env = pure false := by rfl) :
    EvS Γ (.Assign [.Tuple [.Name x px, .Name y py] kt pt] (.Tuple [a, b] k2 pt2) pos) (parS i j fa) := by
  obtain ⟨t, h1, h2⟩ := ha
  refine ⟨_, ps_par G.calm G.nd hi hj hij hx hy h1 hw hs, fun σ H Z env φ S Dn P => ?_⟩
  refine h2.then S P fun ps env1 vs H1 Z1 φ1 A e1 S1 q1 dj1 ev1 P1 => ?_
  have q1 : OwL Γ.C Z1 H1 vs ps A := q1
  cases q1 with
  | nil _ => exact P1.elim
  | @cons v vs p ps A1 B U o r d1 u1 =>
    cases r with
    | nil _ => exact P1.elim
    | @cons w ws q qs A2 B2 U2 o2 r2 d2 u2 =>
      cases r2 with
      | cons _ _ _ _ => exact P1.elim
      | nil n2 =>
        refine ⟨v, w, rfl, ?_⟩
        simp only at P1
        split at P1
        · rename_i hl
          have S2 := S1.put hl.1 hio o (fun j a _ h z => (dj1 a ((u1 a).mpr (.inl z))).1 ⟨j, h⟩) fun a z => (dj1 a ((u1 a).mpr (.inl z))).2
          have S3 := S2.put (i := j) (by simpa using hl.2) hjo o2 (fun l a hlj h z => by
            by_cases q : l = i
            · simp only [if_pos q] at h
              exact d1 a h ((u2 a).mpr (.inl z))
            · simp only [if_neg q] at h
              exact (dj1 a ((u1 a).mpr (.inr ((u2 a).mpr (.inl z))))).1 ⟨l, h⟩) fun a z => (dj1 a ((u1 a).mpr (.inr ((u2 a).mpr (.inl z))))).2
          refine P1 _ H1 Z1 _ S3 ⟨fun _ _ q _ => q, fun _ z => z, fun _ z => .inl z, fun x ⟨l, z⟩ => .inl ?_⟩
          by_cases q : l = j
          · simp only [if_pos q] at z; exact .inr ((u1 x).mpr (.inr ((u2 x).mpr (.inl z))))
          · simp only [if_neg q] at z
            by_cases q2 : l = i
            · simp only [if_pos q2] at z; exact .inr ((u1 x).mpr (.inl z))
            · simp only [if_neg q2] at z; exact .inl ⟨l, z⟩
        · exact P1.elim
end

inductive FR where
  | ok (p : D × Nat) (fin : Sl) | ex (x : Xn) | no
def FinOk (C : RC) (Z : Fp) (H : Hp) (v₀ : V) (s : Sl) (φ : Fp) : Prop :=
  match s with
  | some q => Ow C Z H q.2 v₀ q.1 φ
  | none => ∀ a, ¬ φ a
def spF (C : RC) (n : Nat) (io : Bool) (F : Sl → List D → FR) : Sp := fun vs H Q E => vs.length = n ∧
  match io, vs with
  | false, vs => ∃ ds Z, ShL C Z H vs ds ∧ (∀ a, Z a → H a ≠ none) ∧ (match F none ds with
    | .ok p _ => ∀ v H' Z' A, Ow C Z' H' p.2 v p.1 A → (∀ a, A a → ¬ Z' a) → (∀ a, Z' a → H' a ≠ none) → Evo Z H (fun _ => False) Z' H' A → Q v H'
    | .ex x => ∀ cls dx H' Z', Evo Z H (fun _ => False) Z' H' (fun _ => False) → (∀ a, Z' a → H' a ≠ none) → ExR C Z' H' x cls dx → E cls dx H'
    | .no => False)
  | true, [] => False
  | true, v₀ :: vs => ∃ p₀ ds Z A₀, Ow C Z H p₀.2 v₀ p₀.1 A₀ ∧ ShL C Z H vs ds ∧ (∀ a, A₀ a → ¬ Z a) ∧ (∀ a, Z a → H a ≠ none) ∧ (match F (some p₀) ds with
    | .ok p fin => ∀ v H' Z' A φ, Ow C Z' H' p.2 v p.1 A → FinOk C Z' H' v₀ fin φ → (∀ a, A a → ¬ φ a ∧ ¬ Z' a) → (∀ a, φ a → ¬ Z' a) → (∀ a, Z' a → H' a ≠ none) → Evo Z H A₀ Z' H' (fun a => φ a ∨ A a) → Q v H'
    | .ex x => ∀ cls dx H' Z', Evo Z H A₀ Z' H' (fun _ => False) → (∀ a, Z' a → H' a ≠ none) → ExR C Z' H' x cls dx → E cls dx H'
    | .no => False)
abbrev FnV (P : Program) (w : World) (K : PySem.W.Frag) (mg : Str → Option Value) (base : Heap) (C : RC) (k : Nat) (f : Addr) (fd : FuncData) (ps : List Str) (io : Bool) (F : Sl → List D → FR) : Prop :=
  FnOk P w K mg base (L2.CX P w) k f fd ps (spF C ps.length io F)
def en0 (n : Nat) (a₀ : Sl) (ds : List D) : En := (match a₀ with
  | some p => [some p]
  | none => []) ++ ds.map (fun d => some (d, 0)) ++ List.replicate (n - ((match a₀ with
  | some _ => 1
  | none => 0) + ds.length)) none
def fnF (n : Nat) (io : Bool) (f : En → SR) : Sl → List D → FR := fun a₀ ds =>
  match f (en0 n a₀ ds) with
  | .nx e => .ok (.non, 0) (if io then (e[0]?).getD none else none)
  | .ret p e => .ok p (if io then (e[0]?).getD none else none)
  | .ex x => .ex x
  | _ => .no
end Pv
end

section
set_option Elab.async false
set_option linter.all false
set_option maxRecDepth 100000
set_option maxHeartbeats 4000000
namespace Pv
open PySem PySem.Spec PyProof.Rows L2

def bodyCt (P : Program) (w : World) (K : PySem.W.Frag) (mg : Str → Option Value) (base : Heap) (C : RC) (N : List Str) (qual : Str) (sc : Scope) (f : Addr) (fx : List Nat) (cdv : Value) (A : Around) (outer : List Env) (s : Shared) (H : Hp) (E : XK) (σ₀ : L2.St) : Ct :=
  ⟨cxOf (L2.CX P w) P w K mg base N qual sc f cdv A outer s H E, C, fun cls d _ H' => E cls d H', fx, σ₀⟩
theorem en0_none {n : Nat} {ds : List D} {i : Nat} {d : D} {k : Nat} (h : (en0 n none ds)[i]? = some (some (d, k))) : ds[i]? = some d ∧ k = 0 := by
  unfold en0 at h
  rw [List.nil_append] at h
  by_cases hi : i < ds.length
  · rw [List.getElem?_append_left (by simpa using hi), List.getElem?_map] at h
    cases e : ds[i]? with
    | none => rw [e] at h; cases h
    | some d' => rw [e] at h; cases h; exact ⟨rfl, rfl⟩
  · rw [List.getElem?_append_right (by simpa using Nat.le_of_not_lt hi), List.getElem?_replicate] at h
    exact absurd h (by split <;> simp)
theorem start_get {N : List Str} {vs : List V} {i : Nat} {v : V} (h : vs[i]? = some v) : (start N vs)[i]? = some (some v) := by
  unfold L2.start
  have hi := (List.getElem?_eq_some_iff.mp h).1
  rw [List.getElem?_append_left (by simpa using hi), List.getElem?_map, h]
  rfl
theorem en0_len {N : List Str} {vs : List V} {a₀ : Sl} {ds : List D} {m : Nat} (hv : vs.length = m) (hm : m ≤ N.length) (hd : (match a₀ with
    | some _ => 1
    | none => 0) + ds.length = m) : (start N vs).length = (en0 N.length a₀ ds).length := by
  unfold L2.start en0
  cases a₀ with
  | none => simp at hd ⊢; omega
  | some p => simp at hd ⊢; omega
section
variable {P : Program} {w : World} {K : PySem.W.Frag} {mg : Str → Option Value} {base : Heap} {C : RC}
theorem fnV_of {x qual : Str} {st : Stmt} {f : Addr} {fd : FuncData} {N ps : List Str} {k : Nat} {g : En → SR} (F : Fun K x qual st f fd) (S : FnScope N ps (defScope st)) (io : Bool) (fx : List Nat) (hC : C.K = K)
    (hio : io = true → 0 < ps.length ∧ 0 ∈ fx)
    (hb : ∀ cdv A outer s H E σ₀, Room k (A.deeper (envOfC qual (defScope st) s.heap.objs.size f cdv)) → Good (bodyCt P w K mg base C N qual (defScope st) f fx cdv A outer s H E σ₀) → EvB (bodyCt P w K mg base C N qual (defScope st) f fx cdv A outer s H E σ₀) (defBody st) g) :
    FnV P w K mg base C (k + 1) f fd ps io (fnF N.length io g) := by
  have hpn : ps.length ≤ N.length := by
    have := congrArg List.length S.pre
    rw [List.length_take] at this
    omega
  refine F.okX S (fun vs H Q E h => h.1) fun cdv A outer s H vs Q E hr h => ?_
  have G : Good (bodyCt P w K mg base C N qual (defScope st) f fx cdv A outer s H E (start N vs)) := ⟨hC, S.nd, rfl, takes_of rfl rfl rfl rfl⟩
  obtain ⟨t, h1, h2⟩ := hb cdv A outer s H E (start N vs) hr G
  refine ⟨t, h1, ?_⟩
  obtain ⟨hl, h⟩ := h
  cases io with
  | false =>
    obtain ⟨ds, Z, r, zh, q⟩ := h
    have St0 : SttC (bodyCt P w K mg base C N qual (defScope st) f fx cdv A outer s H E (start N vs)) Z (start N vs) H (en0 N.length none ds) (fun _ _ => False) :=
      { len := en0_len hl hpn (by simp only [Nat.zero_add]; rw [← r.length]; exact hl)
        slot := fun i d k hi => by
          obtain ⟨e1, rfl⟩ := en0_none hi
          obtain ⟨v, e2, e3⟩ := r.get' e1
          exact ⟨v, start_get e2, e3, fun _ z => z⟩
        off := fun _ _ _ z => z
        dj := fun _ _ _ z => z.elim
        nz := fun _ _ z => z.elim
        zh := zh
        io := fun _ _ => rfl
        l0 := fun _ => rfl }
    have T0 : ∀ a, ¬ Tot (fun (_ : Nat) (_ : Addr) => False) a := fun a ⟨_, z⟩ => z
    have ev0 : ∀ {Z' H' F'}, Evo Z H (Tot (fun (_ : Nat) (_ : Addr) => False)) Z' H' F' → ∀ {F2 : Fp}, (∀ a, F2 a → F' a) → Evo Z H (fun _ => False) Z' H' F2 := fun {Z' H' F'} e {F2} hs => (e.sub hs).mono0 T0
    refine h2 _ H Z _ _ St0 _ ?_
    unfold fnF at q
    cases e : g (en0 N.length none ds) with
    | nx env =>
      rw [e] at q
      exact fun σ' H' Z' φ' S' ev => q .non H' Z' (fun _ => False) (Ow.sh .non) (fun _ z => z.elim) S'.zh (ev0 ev fun _ z => z.elim)
    | ret p env =>
      rw [e] at q
      exact fun v σ' H' Z' φ' B S' o d ev => q v H' Z' B o (fun a z => (d a z).2) S'.zh (ev0 ev fun _ z => .inr z)
    | ex x =>
      rw [e] at q
      exact fun σ' _ _ cls dx H' Z' ev zh' xr => q cls dx H' Z' (ev0 ev fun _ z => z.elim) zh' xr
    | bk env => rw [e] at q; exact q.elim
    | ct env => rw [e] at q; exact q.elim
    | no => rw [e] at q; exact q.elim
  | true =>
    cases vs with
    | nil => exact h.elim
    | cons v₀ vs =>
      obtain ⟨p₀, ds, Z, A₀, o₀, r, nz₀, zh, q⟩ := h
      obtain ⟨hp0, hfx⟩ := hio rfl
      have get1 : ∀ i d k, (en0 N.length (some p₀) ds)[i + 1]? = some (some (d, k)) → ds[i]? = some d ∧ k = 0 := fun i d k hi => by
        have : (en0 N.length (some p₀) ds)[i + 1]? = (ds.map (fun d => some (d, 0)) ++ List.replicate (N.length - (1 + ds.length)) (none : Sl))[i]? := by
          unfold en0
          simp only [List.cons_append, List.nil_append, List.getElem?_cons_succ]
        rw [this] at hi
        by_cases hi2 : i < ds.length
        · rw [List.getElem?_append_left (by simpa using hi2), List.getElem?_map] at hi
          cases e : ds[i]? with
          | none => rw [e] at hi; cases hi
          | some d' => rw [e] at hi; cases hi; exact ⟨rfl, rfl⟩
        · rw [List.getElem?_append_right (by simpa using Nat.le_of_not_lt hi2), List.getElem?_replicate] at hi
          exact absurd hi (by split <;> simp)
      have St0 : SttC (bodyCt P w K mg base C N qual (defScope st) f fx cdv A outer s H E (start N (v₀ :: vs))) Z (start N (v₀ :: vs)) H (en0 N.length (some p₀) ds) (fun i a => i = 0 ∧ A₀ a) :=
        { len := en0_len hl hpn (by have := r.length; simp at hl ⊢; omega)
          slot := fun i d k hi => by
            cases i with
            | zero =>
              have e : p₀ = (d, k) := by
                have : (en0 N.length (some p₀) ds)[0]? = some (some p₀) := by unfold en0; simp
                rw [this] at hi
                exact Option.some.inj (Option.some.inj hi)
              subst e
              exact ⟨v₀, start_get rfl, o₀.congr fun a => ⟨fun z => ⟨rfl, z⟩, fun z => z.2⟩⟩
            | succ i =>
              obtain ⟨e1, rfl⟩ := get1 i d k hi
              obtain ⟨v, e2, e3⟩ := r.get' e1
              exact ⟨v, start_get (by simpa using e2), e3, fun _ z => nomatch z.1⟩
          off := fun i h a z => by
            obtain ⟨rfl, z⟩ := z
            exact h p₀ (by unfold en0; simp)
          dj := fun _ _ _ z y => z.1.trans y.1.symm
          nz := fun _ a z => nz₀ a z.2
          zh := zh
          io := fun _ _ => rfl
          l0 := fun _ => rfl }
      have T0 : ∀ a, Tot (fun (i : Nat) (a : Addr) => i = 0 ∧ A₀ a) a ↔ A₀ a := fun a => ⟨fun ⟨_, z⟩ => z.2, fun z => ⟨0, rfl, z⟩⟩
      have ev0 : ∀ {Z' H' F'}, Evo Z H (Tot (fun (i : Nat) (a : Addr) => i = 0 ∧ A₀ a)) Z' H' F' → ∀ {F2 : Fp}, (∀ a, F2 a → F' a) → Evo Z H A₀ Z' H' F2 := fun {Z' H' F'} e {F2} hs => (e.sub hs).more fun a z => (T0 a).mp z
      have fin : ∀ {σ' : L2.St} {H' : Hp} {Z' : Fp} {φ' : Nat → Fp} {env : En}, SttC (bodyCt P w K mg base C N qual (defScope st) f fx cdv A outer s H E (start N (v₀ :: vs))) Z' σ' H' env φ' →
          FinOk C Z' H' v₀ ((env[0]?).getD none) (φ' 0) := fun {σ' H' Z' φ' env} S' => by
        cases e : (env[0]?).getD none with
        | none =>
          refine S'.off 0 fun p hp => ?_
          rw [hp] at e; cases e
        | some q =>
          obtain ⟨d, k⟩ := q
          have e2 : env[0]? = some (some (d, k)) := by
            cases e3 : env[0]? with
            | none => rw [e3] at e; cases e
            | some y => rw [e3] at e; exact congrArg some e
          obtain ⟨v, hv, o⟩ := S'.slot 0 d k e2
          have hs : σ'[0]? = (start N (v₀ :: vs))[0]? := S'.io 0 hfx
          rw [hs, start_get (v := v₀) rfl] at hv
          cases hv
          exact o
      refine h2 _ H Z _ _ St0 _ ?_
      unfold fnF at q
      cases e : g (en0 N.length (some p₀) ds) with
      | nx env =>
        rw [e] at q
        exact fun σ' H' Z' φ' S' ev => q .non H' Z' (fun _ => False) (φ' 0) (Ow.sh .non) (fin S') (fun _ z => z.elim) (fun a z => S'.nz 0 a z) S'.zh (ev0 ev fun a z => z.elim (fun z => ⟨0, z⟩) fun z => z.elim)
      | ret p env =>
        rw [e] at q
        exact fun v σ' H' Z' φ' B S' o d ev => q v H' Z' B (φ' 0) o (fin S') (fun a z => ⟨fun y => (d a z).1 ⟨0, y⟩, (d a z).2⟩) (fun a z => S'.nz 0 a z) S'.zh (ev0 ev fun a z => z.imp (fun z => ⟨0, z⟩) id)
      | ex x =>
        rw [e] at q
        exact fun σ' _ _ cls dx H' Z' ev zh' xr => q cls dx H' Z' (ev0 ev fun _ z => z.elim) zh' xr
      | bk env => rw [e] at q; exact q.elim
      | ct env => rw [e] at q; exact q.elim
      | no => rw [e] at q; exact q.elim
end

section
variable {Γ : Ct} {k : Nat} {f : Addr} {fd : FuncData} {ps : List Str} {F : Sl → List D → FR} {x : Str} {p pos : Pos} {e : Expr} {es : List Expr}
abbrev FnC (Γ : Ct) (k : Nat) (f : Addr) (fd : FuncData) (ps : List Str) (io : Bool) (F : Sl → List D → FR) : Prop := FnV Γ.X.prog Γ.X.w Γ.X.K Γ.X.mg Γ.X.base Γ.C k f fd ps io F
def frR (r : FR) (env : En) : R (D × Nat) :=
  match r with
  | .ok p _ => .ok p env
  | .ex x => .ex x
  | .no => .no
def callF (n : Nat) (F : Sl → List D → FR) (r : En → R (List D)) : En → R (D × Nat) := fun env => (r env).bind fun ds env1 => if ds.length = n then frR (F none ds) env1 else .no
theorem call_core {σ : L2.St} {Z : Fp} {H : Hp} {env : En} {φ : Nat → Fp} (S : SttC Γ Z σ H env φ) {vs : List V} {ds : List D} {n : Nat} (hn : ∀ H Q E, spF Γ.C n false F vs H Q E → vs.length = n) (hl : vs.length = n) (r : ShL Γ.C Z H vs ds) {Q : VK}
    (P : Post Γ σ Z H (Tot φ) (ER Γ.C σ) (frR (F none ds) env) Q) : spF Γ.C n false F vs H Q (WE Γ.W σ) := by
  refine ⟨hl, ds, Z, r, S.zh, ?_⟩
  have go : ∀ {Z' H' A}, Evo Z H (fun _ => False) Z' H' A → (∀ a, Z' a → H' a ≠ none) → SttC Γ Z' σ H' env φ := fun {Z' H' A} ev zh => S.go (ev.ext (fun _ z => z.elim) fun _ z => z.elim) (fun a o _ h => ev.keep a o h fun z => z) (fun a z y => by
    rcases ev.zn a y with y | y | y
    · exact S.tnz a z y
    · exact y
    · have := S.mu a z; rw [y] at this; exact this) zh
  cases e : F none ds with
  | ok q fin =>
    rw [e] at P
    intro v H' Z' A o nz zh ev
    refine P v H' Z' φ A (go ev zh) o (fun a z => ⟨fun y => ?_, nz a z⟩) ⟨fun a u h _ => ev.keep a u h fun z => z, ev.zm, fun a z => (ev.zn a z).imp id fun q => q.imp (fun z => z.elim) id, fun a z => z.elim .inl fun z => .inr ((ev.fn a z).elim (fun z => z.elim) id)⟩
    rcases ev.fn a z with z | z
    · exact z
    · have := S.mu a y; rw [z] at this; exact this
  | ex x =>
    rw [e] at P
    exact fun cls dx H' Z' ev zh xr => P cls dx H' Z' (ev.more fun _ z => z.elim) zh xr
  | no => rw [e] at P; exact P
theorem ev_call (G : Good Γ) (hF : FnC Γ k f fd ps false F) (hr : Room k Γ.X.A) (hg : Gl Γ.X x) (hm : Γ.X.mg x = some (.ref f)) (hk : PySem.W.keepIn Γ.X.K (.ref f) = true) (hb : Binds Γ.X.K fd ps []) {r : En → R (List D)} (ha : EvA Γ (e :: es) r) 
    (hdb : (x == ("__debug__" : Str)) = false := by decide) (he : starEach (e :: es) Γ.X.env = (false, eval e Γ.X.env) :: starEach es Γ.X.env := by rfl) (hpl : (backTo pos (starEach es Γ.X.env)).any (·.1) = false := by rfl) :
    EvE Γ (.Call (.Name x p) (e :: es) [] pos) (callF ps.length F r) := by
  obtain ⟨t, h1, h2⟩ := ha
  refine ⟨_, pe_callS hF hr hg hm hk hb (passAt G.tk) h1 hdb he hpl, fun σ H Z env φ S Q P => ?_⟩
  refine h2.bind S P fun ds env1 vs H1 Z1 φ1 A e1 S1 q1 dj1 ev1 P1 => ?_
  have q1 : ShL Γ.C Z1 H1 vs ds := q1
  have P2 := P1.mono Evo.dropA
  by_cases hl : ds.length = ps.length
  · rw [if_pos hl] at P2
    exact call_core S1 (fun _ _ _ h => h.1) (by rw [q1.length]; exact hl) q1 P2
  · rw [if_neg hl] at P2; exact P2.elim

def callL (T : Nat → Option (Nat × (Sl → List D → FR))) (i : Nat) (r : En → R (List D)) : En → R (D × Nat) := fun env => match env[i]? with
  | some (some (.fn m, _)) => (match T m with
    | some (n, F) => callF n F r env
    | none => .no)
  | _ => .no
def callI (n : Nat) (F : Sl → List D → FR) (i : Nat) (r : En → R (List D)) : En → R (D × Nat) := fun env => match env[i]? with
  | some (some _) => (r env).bind fun ds env1 => if ds.length + 1 = n then
    (match env1[i]? with
      | some (some q) => (match F (some q) ds with
        | .ok p fin => .ok p (env1.set i fin)
        | .ex x => .ex x
        | .no => .no)
      | _ => .no) else .no
  | _ => .no
theorem Stt.putSl {i : Nat} {C : RC} {io : List Nat} {σ₀ σ : L2.St} {Z : Fp} {H : Hp} {env : En} {φ : Nat → Fp} (S : Stt C io σ₀ Z σ H (env.set i none) φ) {v : V} (hi : i < env.length) (hv : σ[i]? = some (some v)) {s : Sl} {A : Fp} (o : FinOk C Z H v s A) (dj : ∀ j a, j ≠ i → φ j a → ¬ A a) (nz : ∀ a, A a → ¬ Z a) :
    Stt C io σ₀ Z σ H (env.set i s) (fun j => if j = i then A else φ j) := by
  cases s with
  | some q =>
    have S2 := S.reput (i := i) (by simpa using hi) hv o dj nz
    have e1 : (env.set i none).set i (some (q.1, q.2)) = env.set i (some q) := by rw [List.set_set]
    rw [e1] at S2
    exact S2
  | none =>
    have o : ∀ a, ¬ A a := o
    have h0 : ∀ a, ¬ φ i a := S.off i fun p h => by rw [List.getElem?_set_self hi] at h; cases h
    have e : (fun j => if j = i then A else φ j) = φ := by
      funext j
      by_cases q : j = i
      · rw [if_pos q]
        funext a
        exact propext ⟨fun z => (o a z).elim, fun z => (h0 a (q ▸ z)).elim⟩
      · rw [if_neg q]
    rw [e]
    exact S
theorem ev_callI (G : Good Γ) (hF : FnC Γ k f fd ps true F) (hr : Room k Γ.X.A) (hg : Gl Γ.X x) (hm : Γ.X.mg x = some (.ref f)) (hk : PySem.W.keepIn Γ.X.K (.ref f) = true) (hb : Binds Γ.X.K fd ps []) {i : Nat} {y : Str} {yp : Pos} (hN : Γ.X.N[i]? = some y) (hv : Vis Γ.X.env.scope y) {r : En → R (List D)} (ha : EvA Γ es r)
    (hdb : (x == ("__debug__" : Str)) = false := by decide) (hdy : (y == ("__debug__" : Str)) = false := by decide) (hcy : (y == ("__classdict__" : Str)) = false := by decide) (he : starEach (.Name y yp :: es) Γ.X.env = (false, eval (.Name y yp) Γ.X.env) :: starEach es Γ.X.env := by rfl) (hpl : (backTo pos (starEach es Γ.X.env)).any (·.1) = false := by rfl) :
    EvE Γ (.Call (.Name x p) (.Name y yp :: es) [] pos) (callI ps.length F i r) := by
  obtain ⟨t, h1, h2⟩ := ha
  refine ⟨_, pe_callS hF hr hg hm hk hb (passAt G.tk) (pa_cons (pe_var hN hv hdy hcy) h1 he) hdb he hpl, fun σ H Z env φ S Q P => ?_⟩
  show ∃ v, σ[i]? = some (some v) ∧ t σ H fun vs H1 => spF Γ.C ps.length true F (v :: vs) H1 Q (WE Γ.W σ)
  unfold callI at P
  split at P
  case h_2 => exact P.elim
  rename_i q₀ hq₀
  obtain ⟨v₀, hv₀, _⟩ := S.slot i q₀.1 q₀.2 hq₀
  refine ⟨v₀, hv₀, ?_⟩
  suffices key : ∀ v, σ[i]? = some (some v) → t σ H fun vs H1 => spF Γ.C ps.length true F (v :: vs) H1 Q (WE Γ.W σ) from key v₀ hv₀
  intro v hv0
  · refine h2.bind S P fun ds env1 vs H1 Z1 φ1 A e1 S1 q1 dj1 ev1 P1 => ?_
    have q1 : ShL Γ.C Z1 H1 vs ds := q1
    have P2 := P1.mono Evo.dropA
    by_cases hl : ds.length + 1 = ps.length
    · rw [if_pos hl] at P2
      split at P2
      · rename_i q hq
        obtain ⟨d0, k0⟩ := q
        obtain ⟨v', hv', o⟩ := S1.slot i d0 k0 hq
        rw [hv0] at hv'; cases hv'
        have hi : i < env1.length := (List.getElem?_eq_some_iff.mp hq).1
        refine ⟨by rw [List.length_cons, q1.length]; exact hl, (d0, k0), ds, Z1, φ1 i, o, q1, fun a z => S1.nz i a z, S1.zh, ?_⟩
        have Sd := S1.drop i
        have go : ∀ {Z' H' B}, Evo Z1 H1 (φ1 i) Z' H' B → (∀ a, Z' a → H' a ≠ none) → SttC Γ Z' σ H' (env1.set i none) (fun j a => j ≠ i ∧ φ1 j a) := fun {Z' H' B} ev zh =>
          Sd.go (ev.ext (fun a z => S1.mu a ⟨i, z⟩) fun a z => S1.nz i a z) (fun a u ⟨j, hj, z⟩ h => ev.keep a u h fun y => hj (S1.dj j i a z y)) (fun a ⟨j, hj, z⟩ y => by
            rcases ev.zn a y with y | y | y
            · exact S1.nz j a z y
            · exact hj (S1.dj j i a z y)
            · have := S1.mu a ⟨j, z⟩; rw [y] at this; exact this) zh
        cases eF : F (some (d0, k0)) ds with
        | ok p' fin =>
          rw [eF] at P2
          intro w H' Z' B φ₀ o' fo d1 d2 zh ev
          have S3 := go ev zh
          have fr : ∀ a, (φ₀ a ∨ B a) → ∀ j, j ≠ i → ¬ φ1 j a := fun a z j hj y => by
            rcases ev.fn a z with z | z
            · exact hj (S1.dj j i a y z)
            · have := S1.mu a ⟨j, y⟩; rw [z] at this; exact this
          have S4 := S3.putSl hi hv0 fo (fun j a hj z y => fr a (.inl y) j hj z.2) d2
          refine P2 w H' Z' _ B S4 o' (fun a z => ⟨fun ⟨j, y⟩ => ?_, (d1 a z).2⟩) ⟨fun a u h n => ev.keep a u h fun z => n ⟨i, z⟩, ev.zm, fun a z => (ev.zn a z).imp id fun q => q.imp (fun z => ⟨i, z⟩) id, fun a z => ?_⟩
          · by_cases q : j = i
            · simp only [if_pos q] at y; exact (d1 a z).1 y
            · simp only [if_neg q] at y; exact fr a (.inr z) j q y.2
          · rcases z with ⟨j, z⟩ | z
            · by_cases q : j = i
              · simp only [if_pos q] at z; exact (ev.fn a (.inl z)).imp (fun z => ⟨i, z⟩) id
              · simp only [if_neg q] at z; exact .inl ⟨j, z.2⟩
            · exact (ev.fn a (.inr z)).imp (fun z => ⟨i, z⟩) id
        | ex x =>
          rw [eF] at P2
          exact fun cls dx H' Z' ev zh xr => P2 cls dx H' Z' (ev.more fun a z => ⟨i, z⟩) zh xr
        | no => rw [eF] at P2; exact P2
      · exact P2.elim
    · rw [if_neg hl] at P2; exact P2.elim
end
end Pv
end

section
set_option Elab.async false
set_option linter.all false
set_option maxRecDepth 100000
set_option maxHeartbeats 4000000
namespace Pv
open PySem PySem.Spec PyProof.Rows L2

section
variable {Γ : Ct} {x : Str} {p pos : Pos} {e a b : Expr} {es : List Expr}
def EvG (Γ : Ct) (tg : Expr) (ws : List Nat) (g : D → En → Option En) : Prop := ∃ t, PG Γ.X tg t ∧ ∀ σ H Z env φ, SttC Γ Z σ H env φ → ∀ v d env', Sh Γ.C Z H v d → g d env = some env' → ∀ Q : L2.St → Hp → Prop,
  (∀ σ' φ', SttC Γ Z σ' H env' φ' → (∀ a, Tot φ' a → Tot φ a) → (σ'.length = σ.length ∧ ∀ i, i ∉ ws → σ'[i]? = σ[i]?) → Q σ' H) → t v σ H Q
def EvGs (Γ : Ct) (tgs : List Expr) (ws : List Nat) (g : List D → En → Option En) : Prop := ∃ t, PGs Γ.X tgs t ∧ ∀ σ H Z env φ, SttC Γ Z σ H env φ → ∀ vs ds env', ShL Γ.C Z H vs ds → g ds env = some env' → ∀ Q : L2.St → Hp → Prop,
  (∀ σ' φ', SttC Γ Z σ' H env' φ' → (∀ a, Tot φ' a → Tot φ a) → (σ'.length = σ.length ∧ ∀ i, i ∉ ws → σ'[i]? = σ[i]?) → Q σ' H) → t vs σ H Q
def nameG (i : Nat) : D → En → Option En := fun d env => if i < env.length then some (env.set i (some (d, 0))) else none
theorem eg_name {i : Nat} (G : Good Γ) (hi : Γ.X.N[i]? = some x) (hx : Loc Γ.X.env.scope x) (hio : i ∉ Γ.io) (hf : Γ.X.fn x = true ∨ Γ.X.env.scope.names.lookup x = some .local := by first | exact .inl rfl | exact .inr rfl | assumption) : EvG Γ (.Name x pos) [i] (nameG i) := by
  refine ⟨_, pg_name G.nd hi hx hf, fun σ H Z env φ S v d env' sh hg Q q => ?_⟩
  unfold nameG at hg
  split at hg
  · rename_i hl
    cases hg
    refine q _ _ (S.put hl hio (Ow.sh sh) (fun _ _ _ _ z => z) fun _ z => z.elim) (fun a ⟨j, z⟩ => ?_) ⟨List.length_set, fun j hj => ?_⟩
    · by_cases q : j = i
      · simp only [if_pos q] at z
      · simp only [if_neg q] at z; exact ⟨j, z⟩
    · rw [List.getElem?_set_ne (by simpa [eq_comm] using hj)]
  · cases hg
def nilG : List D → En → Option En := fun ds env => if ds.isEmpty then some env else none
def consG (g : D → En → Option En) (r : List D → En → Option En) : List D → En → Option En := fun ds env => match ds with
  | d :: ds => (g d env).bind fun env1 => r ds env1
  | [] => none
theorem egs_nil : EvGs Γ [] [] nilG := by
  refine ⟨_, pgs_nil, fun σ H Z env φ S vs ds env' sh hg Q q => ?_⟩
  unfold nilG at hg
  split at hg
  · rename_i h
    cases hg
    cases sh with
    | nil => exact ⟨rfl, q σ φ S (fun _ z => z) ⟨rfl, fun _ _ => rfl⟩⟩
    | cons _ _ => cases h
  · cases hg
theorem egs_cons {ws us : List Nat} {g : D → En → Option En} {r : List D → En → Option En} (h1 : EvG Γ e ws g) (h2 : EvGs Γ es us r) (hs : (assignEach (e :: es) Γ.X.env).map (·.2) = assign e Γ.X.env :: (assignEach es Γ.X.env).map (·.2) := by rfl) : EvGs Γ (e :: es) (ws ++ us) (consG g r) := by
  obtain ⟨t, a1, a2⟩ := h1
  obtain ⟨u, b1, b2⟩ := h2
  refine ⟨_, pgs_cons a1 b1 hs, fun σ H Z env φ S vs ds env' sh hg Q q => ?_⟩
  unfold consG at hg
  cases sh with
  | nil => cases hg
  | @cons v vs d ds h r0 =>
    obtain ⟨env1, e1, e2⟩ := Option.bind_eq_some_iff.mp hg
    refine ⟨v, vs, rfl, a2 σ H Z env φ S v d env1 h e1 _ fun σ1 φ1 S1 t1 k1 => ?_⟩
    refine b2 σ1 H Z env1 φ1 S1 vs ds env' r0 e2 _ fun σ2 φ2 S2 t2 k2 => ?_
    exact q σ2 φ2 S2 (fun a z => t1 a (t2 a z)) ⟨k2.1.trans k1.1, fun i hi => (k2.2 i fun z => hi (List.mem_append_right _ z)).trans (k1.2 i fun z => hi (List.mem_append_left _ z))⟩
def tupG (n : Nat) (r : List D → En → Option En) : D → En → Option En := fun d env => match d with
  | .tup ds => if ds.length = n then r ds env else none
  | _ => none
theorem eg_tup {k : Nat} {ws : List Nat} {n : Nat} {r : List D → En → Option En} (G : Good Γ) (h : EvGs Γ es ws r) (hn : (assignEach es Γ.X.env).length = n := by rfl) (hst : (assignEach es Γ.X.env).findIdx? (·.1) = none := by rfl) : EvG Γ (.Tuple es k pos) ws (tupG n r) := by
  obtain ⟨t, h1, h2⟩ := h
  refine ⟨_, pg_tup G.calm h1 hn hst, fun σ H Z env φ S v d env' sh hg Q q => ?_⟩
  unfold tupG at hg
  split at hg
  · split at hg
    · rename_i hl
      cases sh with
      | tup s r0 =>
        have s' := s
        rw [G.hK] at s'
        exact ⟨_, _, rfl, s', by rw [r0.length]; exact hl, h2 σ H Z env φ S _ _ env' r0 hg Q q⟩
    · cases hg
  · cases hg
def asgS (g : D → En → Option En) (f : En → R D) : En → SR := fun env => (f env).then fun d env1 => match g d env1 with
  | some e => .nx e
  | none => .no
theorem es_asg {ws : List Nat} {g : D → En → Option En} {f : En → R D} (he : EvV Γ e f) (hg : EvG Γ a ws g) (hs : swapsWithSole [a] e pos.line Γ.X.env = pure false := by rfl) (hw : swappedStores [a] e Γ.X.env = pure none := by rfl)
    (h1 : (assignEach [a] Γ.X.env).map (·.2) = [assign a Γ.X.env] := by rfl) : EvS Γ (.Assign [a] e pos) (asgS g f) := by
  obtain ⟨t, a1, a2⟩ := he
  obtain ⟨u, b1, b2⟩ := hg
  refine ⟨_, ps_asg a1 b1 hs hw h1, fun σ H Z env φ S Dn P => ?_⟩
  refine a2.then S P fun d env1 v H1 Z1 φ1 A e1 S1 q dj ev P1 => ?_
  have P2 := P1.mono Evo.dropA
  cases hg : g d env1 with
  | none => rw [hg] at P2; exact P2.elim
  | some env2 =>
    rw [hg] at P2
    exact b2 σ H1 Z1 env1 φ1 S1 v d env2 q hg _ fun σ' φ' S' t' _ => P2 σ' H1 Z1 φ' S' (Evo.refl.sub t')

def Grow (H H' : Hp) : Prop := H' = H ∨ ∃ T o, H T = none ∧ H' = upd H T o
def ItD (C : RC) (J : It) (ds : List D) (Z₀ : Fp) (H₀ : Hp) : Prop := ∀ Z H, Ext Z₀ H₀ Z H → J.stop ds.length H ∧ ∀ i d, ds[i]? = some d → J.go i H ∧ ∀ x H', J.yld i H x H' → Sh C Z H' x d ∧ Grow H H'
def EvI (Γ : Ct) (tg iter : Expr) (f : En → R (List D)) : Prop := ∃ wi, PI Γ.X tg iter wi ∧ ∀ σ H Z env φ, SttC Γ Z σ H env φ → ∀ R : It → Hp → Prop, (match f env with
  | .ok ds env1 => ∀ J H1 Z1 φ1, SttC Γ Z1 σ H1 env1 φ1 → ItD Γ.C J ds Z1 H1 → Evo Z H (Tot φ) Z1 H1 (Tot φ1) → R J H1
  | .ex x => PostX Γ σ Z H (Tot φ) x
  | .no => False) → wi σ H R
def iSeq (K : PySem.W.Frag) (tl : TE) : TI := fun σ H R => tl σ H fun v H1 => (∃ a xs, v = .ref a ∧ SqL K H1 a xs ∧ R (Itl K a) H1) ∨ (∃ a xs, v = .ref a ∧ SqT K H1 a xs ∧ R (Itt K a) H1) ∨ ∃ x, v = .str x ∧ R (Its x) H1
theorem pi_seq {X : Cx} {tg l : Expr} {tl : TE} (hl : PE X l tl) : PI X tg l (iSeq X.K tl) := by
  refine ⟨fun pins s σ H R I h => ?_⟩
  refine thn (hl.run pins s σ H _ I h) fun v s1 ⟨x, H1, I1, r1, q1⟩ => ?_
  rcases q1 with ⟨a, xs, rfl, hq, q⟩ | ⟨a, xs, rfl, hq, q⟩ | ⟨y, rfl, q⟩
  · have hk : PI X tg l (iList X.K tl) := pi_list hl
    cases r1
    obtain ⟨its, rv, p, hz⟩ := I1.list hq
    refine wpAny_pyIter_list p.isList ?_
    refine ⟨s1.heap.objs.size, [s1.heap.objs.size], _, _, H1, rfl, I1.kept (t' := s1.toks) fun b o e => Heap.get?_push_of_some _ e, turn_list a _, ⟨_, Heap.get?_push_size _ rfl, rfl, rfl⟩, fun b hb => ?_, q⟩
    have e : b = s1.heap.objs.size := by simpa using hb
    subst e
    exact I1.fpOk (Nat.le_refl _) (I1.hok.fresh (Nat.le_refl _))
  · cases r1
    obtain ⟨its, rv, p, hz⟩ := I1.tuple hq
    refine wpAny_pyIter_tuple (show s1.heap.IsTuple a its.toArray from p) ?_
    refine ⟨s1.heap.objs.size, [s1.heap.objs.size], _, _, H1, rfl, I1.kept (t' := s1.toks) fun b o e => Heap.get?_push_of_some _ e, turn_tuple a _, ⟨_, Heap.get?_push_size _ rfl, rfl, rfl⟩, fun b hb => ?_, q⟩
    have e : b = s1.heap.objs.size := by simpa using hb
    subst e
    exact I1.fpOk (Nat.le_refl _) (I1.hok.fresh (Nat.le_refl _))
  · obtain ⟨t, rfl⟩ := r1
    cases ha : y.cps.all (· < 128)
    · exact wpAny_pyIter_wide ha (pi_one (tk := s1.toks) I1 _ (turn_str _ y t "str_iterator" (.inr rfl)) ⟨_, Heap.get?_push_size _ rfl, rfl, rfl⟩ q)
    · exact wpAny_pyIter_ascii ha (pi_one (tk := s1.toks) I1 _ (turn_str _ y t "str_ascii_iterator" (.inl rfl)) ⟨_, Heap.get?_push_size _ rfl, rfl, rfl⟩ q)
def itsD : D → Option (List D)
  | .lst ds => some ds
  | .tup ds => some ds
  | .scr ns => some (ns.map .int)
  | .str x => some (x.cps.toList.map fun c => .str ⟨#[c]⟩)
  | _ => none
def seqI' (f : En → R D) : En → R (List D) := fun env => (f env).bind fun d env1 => R.of (itsD d) env1
theorem ei_seq {tg l : Expr} {f : En → R D} (G : Good Γ) (h : EvV Γ l f) : EvI Γ tg l (seqI' f) := by
  obtain ⟨t, h1, h2⟩ := h
  refine ⟨_, pi_seq h1, fun σ H Z env φ S R P => ?_⟩
  refine h2 σ H Z env φ S _ ?_
  unfold seqI' at P
  cases e : f env with
  | ex x => rw [e] at P; exact P
  | no => rw [e] at P; exact P
  | ok d env1 =>
    rw [e] at P
    intro v H1 Z1 φ1 A S1 sh dj ev
    have ev' := ev.sub (F2 := Tot φ1) fun _ z => .inl z
    have sh : Sh Γ.C Z1 H1 v d := sh
    cases sh with
    | @lst a xs ds hs z r =>
      refine .inl ⟨a, xs, rfl, SqL.of hs, P (Itl Γ.X.K a) H1 Z1 φ1 S1 (fun Z2 H2 x => ?_) ev'⟩
      have h2' := x.zk a _ z hs
      have r2 := r.ext x
      refine ⟨⟨xs, SqL.of h2', by rw [r.length]; exact Nat.le_refl _⟩, fun i d hd => ?_⟩
      obtain ⟨w, hw, hwd⟩ := r2.get' hd
      refine ⟨⟨xs, w, SqL.of h2', hw⟩, fun y H' hy => ?_⟩
      obtain ⟨rfl, hy⟩ := hy
      have := hy xs (SqL.of h2')
      rw [hw] at this; cases this
      exact ⟨hwd, .inl rfl⟩
    | @tup a xs ds hs r =>
      have hs' := hs
      rw [G.hK] at hs'
      refine .inr (.inl ⟨a, xs, rfl, hs', P (Itt Γ.X.K a) H1 Z1 φ1 S1 (fun Z2 H2 x => ?_) ev'⟩)
      have h2' : SqT Γ.X.K H2 a xs := by rw [← G.hK]; exact x.sqT hs
      have r2 := r.ext x
      refine ⟨⟨xs, h2', by rw [r.length]; exact Nat.le_refl _⟩, fun i d hd => ?_⟩
      obtain ⟨w, hw, hwd⟩ := r2.get' hd
      refine ⟨⟨xs, w, h2', hw⟩, fun y H' hy => ?_⟩
      obtain ⟨rfl, hy⟩ := hy
      have := hy xs h2'
      rw [hw] at this; cases this
      exact ⟨hwd, .inl rfl⟩
    | @scr a ns hs =>
      have hq := hs.sqL
      rw [G.hK] at hq
      refine .inl ⟨a, _, rfl, hq, P (Itl Γ.X.K a) H1 Z1 φ1 S1 (fun Z2 H2 x => ?_) ev'⟩
      have h2' : SqL Γ.X.K H2 a (ns.map V.int) := by rw [← G.hK]; exact (x.scr hs).sqL
      have r2 : ShL Γ.C Z2 H2 (ns.map V.int) (ns.map D.int) := shl_ints
      refine ⟨⟨_, h2', by rw [List.length_map, List.length_map]; exact Nat.le_refl _⟩, fun i d hd => ?_⟩
      obtain ⟨w, hw, hwd⟩ := r2.get' hd
      refine ⟨⟨_, w, h2', hw⟩, fun y H' hy => ?_⟩
      obtain ⟨rfl, hy⟩ := hy
      have := hy _ h2'
      rw [hw] at this; cases this
      exact ⟨hwd, .inl rfl⟩
    | str y =>
      refine .inr (.inr ⟨y, rfl, P (Its y) H1 Z1 φ1 S1 (fun Z2 H2 x => ?_) ev'⟩)
      have hl : ∀ i : Nat, (y.cps.toList)[i]? = y.cps[i]? := fun i => Array.getElem?_toList
      refine ⟨(show y.cps.size ≤ (y.cps.toList.map fun c => D.str ⟨#[c]⟩).length by rw [List.length_map, Array.length_toList]; exact Nat.le_refl _), fun i d hd => ?_⟩
      rw [List.getElem?_map, hl] at hd
      obtain ⟨c, hc, rfl⟩ := Option.map_eq_some_iff.mp hd
      refine ⟨(Array.getElem?_eq_some_iff.mp hc).1, fun z H' hz => ?_⟩
      obtain ⟨rfl, c', hc', rfl⟩ := hz
      rw [hc] at hc'; cases hc'
      exact ⟨.str _, .inl rfl⟩
    | non => exact P.elim
    | bl _ => exact P.elim
    | int _ => exact P.elim
    | fn _ => exact P.elim
    | dic _ _ _ _ => exact P.elim
def rgB (lo hi : Int) : Bool := Nat.ble lo.natAbs 4611686018427387903 && Nat.ble hi.natAbs 4611686018427387903
theorem rgB_ok {lo hi : Int} (h : rgB lo hi = true) : -(2 ^ 62) ≤ lo ∧ lo < 2 ^ 62 ∧ -(2 ^ 62) ≤ hi ∧ hi < 2 ^ 62 := by
  unfold rgB at h
  rw [Bool.and_eq_true] at h
  have h1 := Nat.le_of_ble_eq_true h.1
  have h2 := Nat.le_of_ble_eq_true h.2
  omega
def rgD (lo hi : Int) : Option (List D) := if rgB lo hi = true then some ((List.range (hi - lo).toNat).map fun k : Nat => .int (lo + k)) else none
theorem itr_d {C : RC} {lo : Int} {n : Nat} {Z : Fp} {H : Hp} : ItD C (Itr lo n) ((List.range n).map fun k : Nat => .int (lo + k)) Z H := fun Z2 H2 x => by
  refine ⟨(show n ≤ ((List.range n).map fun k : Nat => D.int (lo + k)).length by simp), fun i d hd => ?_⟩
  rw [List.getElem?_map] at hd
  obtain ⟨j, hj, rfl⟩ := Option.map_eq_some_iff.mp hd
  obtain ⟨h1, h2⟩ := List.getElem?_eq_some_iff.mp hj
  rw [List.length_range] at h1
  rw [List.getElem_range] at h2
  subst h2
  exact ⟨h1, fun y H' ⟨e1, e2⟩ => by subst e1 e2; exact ⟨.int _, .inl rfl⟩⟩
def rg1D : List D → Option (List D)
  | [.int j] => rgD 0 j
  | _ => none
def rg2D : List D → Option (List D)
  | [.int i, .int j] => rgD i j
  | _ => none
def rg1 (f : En → R (List D)) : En → R (List D) := fun env => (f env).bind fun ds env1 => R.of (rg1D ds) env1
def rg2 (f : En → R (List D)) : En → R (List D) := fun env => (f env).bind fun ds env1 => R.of (rg2D ds) env1
theorem ei_rg1 {tg : Expr} {f : En → R (List D)} (hg : Gl Γ.X "range") (hm : Γ.X.mg "range" = none) (ha : EvA Γ [a] f) (hs : starEach [a] Γ.X.env = [(false, eval a Γ.X.env)] := by rfl) : EvI Γ tg (.Call (.Name "range" p) [a] [] pos) (rg1 f) := by
  obtain ⟨t, h1, h2⟩ := ha
  refine ⟨_, pi_range1 hg hm h1 hs, fun σ H Z env φ S R P => ?_⟩
  refine h2 σ H Z env φ S _ ?_
  unfold rg1 at P
  cases e : f env with
  | ex x => rw [e] at P; exact P
  | no => rw [e] at P; exact P
  | ok ds env1 =>
    rw [e] at P
    simp only [Pv.R.bind_ok] at P
    intro vs H1 Z1 φ1 A S1 sh0 dj ev
    have ev' := ev.sub (F2 := Tot φ1) fun _ z => .inl z
    have sh : ShL Γ.C Z1 H1 vs ds := sh0
    cases eD : rg1D ds with
    | none => rw [eD] at P; exact P.elim
    | some items =>
      rw [eD] at P
      unfold rg1D at eD
      split at eD
      · rename_i j
        cases sh with
        | cons h r =>
          cases r
          cases h
          unfold rgD at eD
          split at eD
          · rename_i hb
            have hb := rgB_ok hb
            cases eD
            have e0 : (j - 0).toNat = j.toNat := by rw [Int.sub_zero]
            refine ⟨j, rfl, hb.2.2.1, hb.2.2.2, P _ H1 Z1 φ1 S1 ?_ ev'⟩
            rw [e0]
            exact itr_d
          · cases eD
      · cases eD
theorem ei_rg2 {tg : Expr} {f : En → R (List D)} (hg : Gl Γ.X "range") (hm : Γ.X.mg "range" = none) (ha : EvA Γ [a, b] f) (hs : starEach [a, b] Γ.X.env = [(false, eval a Γ.X.env), (false, eval b Γ.X.env)] := by rfl) (hs2 : starEach [b] Γ.X.env = [(false, eval b Γ.X.env)] := by rfl) : EvI Γ tg (.Call (.Name "range" p) [a, b] [] pos) (rg2 f) := by
  obtain ⟨t, h1, h2⟩ := ha
  refine ⟨_, pi_range2 hg hm h1 hs hs2, fun σ H Z env φ S R P => ?_⟩
  refine h2 σ H Z env φ S _ ?_
  unfold rg2 at P
  cases e : f env with
  | ex x => rw [e] at P; exact P
  | no => rw [e] at P; exact P
  | ok ds env1 =>
    rw [e] at P
    simp only [Pv.R.bind_ok] at P
    intro vs H1 Z1 φ1 A S1 sh0 dj ev
    have ev' := ev.sub (F2 := Tot φ1) fun _ z => .inl z
    have sh : ShL Γ.C Z1 H1 vs ds := sh0
    cases eD : rg2D ds with
    | none => rw [eD] at P; exact P.elim
    | some items =>
      rw [eD] at P
      unfold rg2D at eD
      split at eD
      · rename_i i j
        cases sh with
        | cons h r =>
          cases r with
          | cons h' r =>
            cases r
            cases h
            cases h'
            unfold rgD at eD
            split at eD
            · rename_i hb
              have hb := rgB_ok hb
              cases eD
              exact ⟨i, j, rfl, hb, P _ H1 Z1 φ1 S1 itr_d ev'⟩
            · cases eD
      · cases eD
def zipD : D → D → Option (List D)
  | .lst xs, .lst ys => some ((xs.zip ys).map fun q => .tup [q.1, q.2])
  | .tup xs, .tup ys => some ((xs.zip ys).map fun q => .tup [q.1, q.2])
  | _, _ => none
def zipD2 : List D → Option (List D)
  | [d, e] => zipD d e
  | _ => none
def zipI (f : En → R (List D)) : En → R (List D) := fun env => (f env).bind fun ds env1 => R.of (zipD2 ds) env1
theorem zip_get {α β : Type} {xs : List α} {ys : List β} {i : Nat} {q : α × β} (h : (xs.zip ys)[i]? = some q) : xs[i]? = some q.1 ∧ ys[i]? = some q.2 := by
  rw [List.zip, List.getElem?_zipWith] at h
  cases e1 : xs[i]? with
  | none => rw [e1] at h; simp at h
  | some x =>
    cases e2 : ys[i]? with
    | none => rw [e1, e2] at h; simp at h
    | some y => rw [e1, e2] at h; simp at h; subst h; exact ⟨rfl, rfl⟩
theorem ei_zip {ts : List Expr} {kk : Nat} {tpos : Pos} {f : En → R (List D)} (G : Good Γ) (hg : Gl Γ.X "zip") (hm : Γ.X.mg "zip" = none) (ha : EvA Γ [a, b] f)
    (hs : starEach [a, b] Γ.X.env = (false, eval a Γ.X.env) :: starEach [b] Γ.X.env := by rfl) (hpl : (backTo pos (starEach [b] Γ.X.env)).any (·.1) = false := by rfl) : EvI Γ (.Tuple ts kk tpos) (.Call (.Name "zip" p) [a, b] [] pos) (zipI f) := by
  obtain ⟨t, h1, h2⟩ := ha
  refine ⟨_, RZ.pi_zipA hg hm h1 hs hpl, fun σ H Z env φ S R P => ?_⟩
  refine h2 σ H Z env φ S _ ?_
  unfold zipI at P
  cases e : f env with
  | ex x => rw [e] at P; exact P
  | no => rw [e] at P; exact P
  | ok ds env1 =>
    rw [e] at P
    simp only [Pv.R.bind_ok] at P
    intro vs H1 Z1 φ1 A S1 sh0 dj ev
    have ev' := ev.sub (F2 := Tot φ1) fun _ z => .inl z
    have sh : ShL Γ.C Z1 H1 vs ds := sh0
    cases eD : zipD2 ds with
    | none => rw [eD] at P; exact P.elim
    | some items =>
     rw [eD] at P
     unfold zipD2 at eD
     split at eD
     · rename_i d e
       cases sh with
       | cons h r =>
         cases r with
         | cons h' r =>
           cases r
           unfold zipD at eD
           split at eD
           · rename_i xs ys
             cases eD
             cases h with
             | @lst a us _ ha za ra =>
               cases h' with
               | @lst b ws _ hb zb rb =>
                 refine ⟨a, b, us, ws, rfl, .inl ⟨SqL.of ha, SqL.of hb, P _ H1 Z1 φ1 S1 (fun Z2 H2 x => ?_) ev'⟩⟩
                 have ha2 := x.zk a _ za ha
                 have hb2 := x.zk b _ zb hb
                 have ra2 := ra.ext x
                 have rb2 := rb.ext x
                 refine ⟨⟨us, ws, SqL.of ha2, SqL.of hb2, by rw [List.length_map, List.length_zip, ra.length, rb.length]; omega⟩, fun i d hd => ?_⟩
                 rw [List.getElem?_map] at hd
                 obtain ⟨q, hq, rfl⟩ := Option.map_eq_some_iff.mp hd
                 obtain ⟨q1, q2⟩ := zip_get hq
                 obtain ⟨w1, e1, s1⟩ := ra2.get' q1
                 obtain ⟨w2, e2, s2⟩ := rb2.get' q2
                 refine ⟨⟨us, ws, w1, w2, SqL.of ha2, SqL.of hb2, e1, e2⟩, fun y H' hy => ?_⟩
                 obtain ⟨T, y1, y2, rfl, hT, rfl, k1, k2⟩ := hy
                 have f1 := k1 us (SqL.of ha2)
                 have f2 := k2 ws (SqL.of hb2)
                 rw [e1] at f1; cases f1
                 rw [e2] at f2; cases f2
                 have xn : Ext Z2 H2 Z2 (upd H2 T (.tup [w1, w2])) := Ext.new hT
                 exact ⟨.tup (SqT.of upd_same) (.cons (s1.ext xn) (.cons (s2.ext xn) .nil)), .inr ⟨T, _, hT, rfl⟩⟩
           · rename_i xs ys
             cases eD
             cases h with
             | @tup a us _ ha ra =>
               cases h' with
               | @tup b ws _ hb rb =>
                 have ha' := ha
                 have hb' := hb
                 rw [G.hK] at ha' hb'
                 refine ⟨a, b, us, ws, rfl, .inr ⟨ha', hb', P _ H1 Z1 φ1 S1 (fun Z2 H2 x => ?_) ev'⟩⟩
                 have ha2 : SqT Γ.X.K H2 a us := by rw [← G.hK]; exact x.sqT ha
                 have hb2 : SqT Γ.X.K H2 b ws := by rw [← G.hK]; exact x.sqT hb
                 have ra2 := ra.ext x
                 have rb2 := rb.ext x
                 refine ⟨⟨us, ws, ha2, hb2, by rw [List.length_map, List.length_zip, ra.length, rb.length]; omega⟩, fun i d hd => ?_⟩
                 rw [List.getElem?_map] at hd
                 obtain ⟨q, hq, rfl⟩ := Option.map_eq_some_iff.mp hd
                 obtain ⟨q1, q2⟩ := zip_get hq
                 obtain ⟨w1, e1, s1⟩ := ra2.get' q1
                 obtain ⟨w2, e2, s2⟩ := rb2.get' q2
                 refine ⟨⟨us, ws, w1, w2, ha2, hb2, e1, e2⟩, fun y H' hy => ?_⟩
                 obtain ⟨T, y1, y2, rfl, hT, rfl, k1, k2⟩ := hy
                 have f1 := k1 us ha2
                 have f2 := k2 ws hb2
                 rw [e1] at f1; cases f1
                 rw [e2] at f2; cases f2
                 have xn : Ext Z2 H2 Z2 (upd H2 T (.tup [w1, w2])) := Ext.new hT
                 exact ⟨.tup (SqT.of upd_same) (.cons (s1.ext xn) (.cons (s2.ext xn) .nil)), .inr ⟨T, _, hT, rfl⟩⟩
           · cases eD
     · cases eD

def loopS (g : D → En → Option En) (body : En → SR) : List D → En → SR
  | [], env => .nx env
  | d :: ds, env => match g d env with
    | none => .no
    | some env1 => match body env1 with
      | .nx e => loopS g body ds e
      | .ct e => loopS g body ds e
      | .bk e => .nx e
      | .ret p e => .ret p e
      | .ex x => .ex x
      | .no => .no
def forS (fi : En → R (List D)) (g : D → En → Option En) (body : En → SR) : En → SR := fun env => (fi env).then fun ds env1 => loopS g body ds env1
theorem Grow.stt {σ : L2.St} {H H' : Hp} {Z : Fp} {env : En} {φ : Nat → Fp} (h : Grow H H') (S : SttC Γ Z σ H env φ) : SttC Γ Z σ H' env φ ∧ Ext Z H Z H' ∧ Evo Z H (Tot φ) Z H' (Tot φ) := by
  rcases h with rfl | ⟨T, o, hT, rfl⟩
  · exact ⟨S, Ext.refl, Evo.refl⟩
  · exact ⟨S.new hT, Ext.new hT, Evo.new hT fun _ z => .inl z⟩
theorem es_for {tg iter : Expr} {ws : List Nat} {body : List Stmt} {fi : En → R (List D)} {g : D → En → Option En} {fb : En → SR} (G : Good Γ) (hp : PassesOwn (model Γ.X.prog Γ.X.w) Γ.X.A Γ.X.env Γ.X.xe) (hi : EvI Γ tg iter fi) (hg : EvG Γ tg ws g) (hb : EvB Γ body fb)
    (hs : ∀ x, foldedSetIterable iter Γ.X.env x = pure x := by intro _; rfl) : EvS Γ (.For tg iter body [] pos) (forS fi g fb) := by
  obtain ⟨wi, i1, i2⟩ := hi
  obtain ⟨t, g1, g2⟩ := hg
  obtain ⟨u, b1, b2⟩ := hb
  refine ⟨_, ps_for hp G.calm i1 g1 b1 hs, fun σ H Z env φ S Dn P => ?_⟩
  refine i2 σ H Z env φ S _ ?_
  unfold forS at P
  cases e : fi env with
  | ex x => rw [e] at P; exact P σ S.io S.l0
  | no => rw [e] at P; exact P
  | ok ds env1 =>
    rw [e] at P
    simp only [Pv.R.then_ok] at P
    intro J H1 Z1 φ1 S1 it ev
    have P1 := PostS.mono P ev
    refine ⟨fun i m σ' H' => m = ds.length - i ∧ i ≤ ds.length ∧ ∃ env' Z' φ', SttC Γ Z' σ' H' env' φ' ∧ Ext Z1 H1 Z' H' ∧ PostS Γ Z' H' (Tot φ') (loopS g fb (ds.drop i) env') Dn, ⟨ds.length, by simp, Nat.zero_le _, env1, Z1, φ1, S1, Ext.refl, by rw [List.drop_zero]; exact P1⟩, ?_⟩
    rintro i m σ' H' ⟨rfl, hi, env', Z', φ', S', x', P'⟩
    obtain ⟨stop, go⟩ := it Z' H' x'
    by_cases hlt : i < ds.length
    · obtain ⟨hgo, hy⟩ := go i ds[i] (List.getElem?_eq_getElem hlt)
      refine .inr ⟨hgo, fun σ2 H2 => ∃ env2 Z2 φ2, SttC Γ Z2 σ2 H2 env2 φ2 ∧ Ext Z1 H1 Z2 H2 ∧ PostS Γ Z2 H2 (Tot φ2) (loopS g fb (ds.drop (i + 1)) env2) Dn, fun σ2 H2 ⟨env2, Z2, φ2, S2, x2, P2⟩ => ⟨ds.length - (i + 1), by omega, rfl, hlt, env2, Z2, φ2, S2, x2, P2⟩, fun v H2 hv => ?_⟩
      obtain ⟨sh, gr⟩ := hy v H2 hv
      obtain ⟨S2, x2, ev2⟩ := gr.stt S'
      have P2 := PostS.mono P' ev2
      rw [List.drop_eq_getElem_cons hlt] at P2
      unfold loopS at P2
      cases eg : g ds[i] env' with
      | none => rw [eg] at P2; exact P2.elim
      | some env2 =>
        rw [eg] at P2
        simp only at P2
        refine g2 σ' H2 Z' env' φ' S2 v ds[i] env2 sh eg _ fun σ3 φ3 S3 t3 _ => ?_
        have P3 := PostS.mono P2 (Evo.refl.sub t3)
        refine b2 σ3 H2 Z' env2 φ3 S3 _ ?_
        cases eb : fb env2 with
        | nx e =>
          rw [eb] at P3
          exact fun σ4 H4 Z4 φ4 S4 ev4 => ⟨e, Z4, φ4, S4, (x'.trans x2).trans (S3.ext ev4), PostS.mono P3 ev4⟩
        | ct e =>
          rw [eb] at P3
          exact fun σ4 H4 Z4 φ4 S4 ev4 => ⟨e, Z4, φ4, S4, (x'.trans x2).trans (S3.ext ev4), PostS.mono P3 ev4⟩
        | bk e => rw [eb] at P3; exact P3
        | ret p e => rw [eb] at P3; exact P3
        | ex x => rw [eb] at P3; exact P3
        | no => rw [eb] at P3; exact P3
    · have e1 : i = ds.length := by omega
      subst e1
      rw [List.drop_length] at P'
      exact .inl ⟨stop, PostS.here P' S'⟩

def whileS (c : En → R Bool) (body : En → SR) : Nat → En → SR
  | 0, _ => .no
  | n + 1, env => (c env).then fun b env1 => if b = true then (match body env1 with
      | .nx e => whileS c body n e
      | .ct e => whileS c body n e
      | .bk e => .nx e
      | .ret p e => .ret p e
      | .ex x => .ex x
      | .no => .no) else .nx env1
theorem es_while {c : Expr} {body : List Stmt} {fc : En → R Bool} {fb : En → SR} (n : Nat) (hp : PassesOwn (model Γ.X.prog Γ.X.w) Γ.X.A Γ.X.env Γ.X.xe) (hc : EvT Γ c fc) (hb : EvB Γ body fb) : EvS Γ (.While c body [] pos) (whileS fc fb n) := by
  obtain ⟨t, c1, c2⟩ := hc
  obtain ⟨u, b1, b2⟩ := hb
  refine ⟨_, ps_while hp c1 b1, fun σ H Z env φ S Dn P => ?_⟩
  refine ⟨fun m σ' H' => ∃ env' Z' φ', SttC Γ Z' σ' H' env' φ' ∧ PostS Γ Z' H' (Tot φ') (whileS fc fb m env') Dn, ⟨n, env, Z, φ, S, P⟩, ?_⟩
  rintro m σ' H' ⟨env', Z', φ', S', P'⟩
  cases m with
  | zero => exact P'.elim
  | succ m =>
    unfold whileS at P'
    refine c2.then S' P' fun b env1 b' H1 Z1 φ1 A e1 S1 q dj ev P1 => ?_
    cases (show b = b' from q)
    have P2 := P1.mono Evo.dropA
    cases b with
    | false =>
      rw [if_neg Bool.false_ne_true] at P2 ⊢
      exact PostS.here P2 S1
    | true =>
      rw [if_pos rfl] at P2 ⊢
      refine ⟨fun σ2 H2 => ∃ env2 Z2 φ2, SttC Γ Z2 σ2 H2 env2 φ2 ∧ PostS Γ Z2 H2 (Tot φ2) (whileS fc fb m env2) Dn, fun σ2 H2 h => ⟨m, Nat.lt_succ_self m, h⟩, ?_⟩
      refine b2 σ' H1 Z1 env1 φ1 S1 _ ?_
      cases eb : fb env1 with
      | nx e =>
        rw [eb] at P2
        exact fun σ4 H4 Z4 φ4 S4 ev4 => ⟨e, Z4, φ4, S4, PostS.mono P2 ev4⟩
      | ct e =>
        rw [eb] at P2
        exact fun σ4 H4 Z4 φ4 S4 ev4 => ⟨e, Z4, φ4, S4, PostS.mono P2 ev4⟩
      | bk e => rw [eb] at P2; exact P2
      | ret p e => rw [eb] at P2; exact P2
      | ex x => rw [eb] at P2; exact P2
      | no => rw [eb] at P2; exact P2
end
end Pv
end

section
set_option Elab.async false
set_option linter.all false
set_option maxRecDepth 100000
set_option maxHeartbeats 4000000
namespace Pv
open PySem PySem.Spec PyProof.Rows L2

def wipeE (env : En) : List Nat → En
  | [] => env
  | v :: vs => (wipeE env vs).set v none
theorem wipeE_length (env : En) : ∀ vs : List Nat, (wipeE env vs).length = env.length
  | [] => rfl
  | v :: vs => by unfold wipeE; rw [List.length_set, wipeE_length env vs]
theorem wipeE_out {env : En} {i : Nat} : ∀ {vs : List Nat}, i ∉ vs → (wipeE env vs)[i]? = env[i]?
  | [], _ => rfl
  | v :: vs, h => by
    unfold wipeE
    rw [List.getElem?_set_ne (fun e => h (by rw [e]; exact List.mem_cons_self)), wipeE_out fun z => h (List.mem_cons_of_mem _ z)]
theorem wipeE_in {env : En} {i : Nat} {p : D × Nat} : ∀ {vs : List Nat}, i ∈ vs → (wipeE env vs)[i]? ≠ some (some p)
  | v :: vs, h, e => by
    unfold wipeE at e
    by_cases hv : v = i
    · subst hv
      by_cases hl : v < (wipeE env vs).length
      · rw [List.getElem?_set_self hl] at e; cases e
      · rw [List.getElem?_eq_none (by simpa using hl)] at e; cases e
    · rw [List.getElem?_set_ne hv] at e
      exact wipeE_in ((List.mem_cons.mp h).resolve_left fun z => hv z.symm) e
theorem wipe_of {σ σ2 : L2.St} {vs ws : List Nat} (hs : ∀ i ∈ ws, i ∈ vs) (hl : σ2.length = (wipe σ vs).length) (h : ∀ i, i ∉ ws → σ2[i]? = (wipe σ vs)[i]?) : wipe σ2 vs = wipe σ vs := by
  apply List.ext_getElem?
  intro i
  by_cases hi : i ∈ vs
  · have lk : ∀ (τ : L2.St) (us : List Nat), i ∈ us → (wipe τ us)[i]? = if i < τ.length then some none else none := fun τ us => by
      induction us with
      | nil => intro h; cases h
      | cons v us ih =>
        intro hm
        unfold wipe
        by_cases hv : v = i
        · subst hv
          by_cases hl2 : v < (wipe τ us).length
          · rw [List.getElem?_set_self hl2, if_pos (by rwa [wipe_length] at hl2)]
          · rw [List.getElem?_eq_none (by simpa using hl2), if_neg (by rwa [wipe_length] at hl2)]
        · rw [List.getElem?_set_ne hv]
          exact ih ((List.mem_cons.mp hm).resolve_left fun z => hv z.symm)
    rw [lk _ _ hi, lk _ _ hi, hl, wipe_length]
  · rw [wipe_out hi, h i fun z => hi (hs i z)]
section
variable {C : RC} {σ : L2.St} {Z : Fp} {H : Hp} {env : En} {φ : Nat → Fp}
theorem Stt.wipe {io : List Nat} {σ₀ : L2.St} (S : Stt C io σ₀ Z σ H env φ) (vs : List Nat) : Stt C [] [] Z (L2.wipe σ vs) H (wipeE env vs) (fun i a => i ∉ vs ∧ φ i a) where
  len := by rw [wipe_length, wipeE_length, S.len]
  slot := fun i d k h => by
    by_cases hi : i ∈ vs
    · exact (wipeE_in hi h).elim
    · rw [wipeE_out hi] at h
      obtain ⟨v, h1, h2⟩ := S.slot i d k h
      exact ⟨v, by rw [wipe_out hi]; exact h1, h2.congr fun a => ⟨fun z => ⟨hi, z⟩, fun z => z.2⟩⟩
  off := fun i h a ⟨hi, z⟩ => S.off i (fun p => by have := h p; rwa [wipeE_out hi] at this) a z
  dj := fun i j a h1 h2 => S.dj i j a h1.2 h2.2
  nz := fun i a h => S.nz i a h.2
  zh := S.zh
  io := fun _ h => by cases h
  l0 := fun h => (h rfl).elim
end
def backE (env1 env2 : En) : List Nat → En
  | [] => env2
  | v :: vs => (backE env1 env2 vs).set v (match env1[v]? with
    | some (some (d, 0)) => some (d, 0)
    | _ => none)
theorem backE_length (env1 env2 : En) : ∀ vs : List Nat, (backE env1 env2 vs).length = env2.length
  | [] => rfl
  | v :: vs => by unfold backE; rw [List.length_set, backE_length env1 env2 vs]
theorem backE_out {env1 env2 : En} {i : Nat} : ∀ {vs : List Nat}, i ∉ vs → (backE env1 env2 vs)[i]? = env2[i]?
  | [], _ => rfl
  | v :: vs, h => by
    unfold backE
    rw [List.getElem?_set_ne (fun e => h (by rw [e]; exact List.mem_cons_self)), backE_out fun z => h (List.mem_cons_of_mem _ z)]
theorem backE_in {env1 env2 : En} {i : Nat} {p : D × Nat} : ∀ {vs : List Nat}, i ∈ vs → (backE env1 env2 vs)[i]? = some (some p) → env1[i]? = some (some p) ∧ p.2 = 0
  | v :: vs, h, e => by
    unfold backE at e
    by_cases hv : v = i
    · subst hv
      by_cases hl : v < (backE env1 env2 vs).length
      · rw [List.getElem?_set_self hl] at e
        split at e
        · rename_i d h1
          cases e
          exact ⟨h1, rfl⟩
        · cases e
      · rw [List.getElem?_eq_none (by simpa using hl)] at e; cases e
    · rw [List.getElem?_set_ne hv] at e
      exact backE_in ((List.mem_cons.mp h).resolve_left fun z => hv z.symm) e
def R.noX {α : Type} (r : R α) : R α :=
  match r with
  | .ok a e => .ok a e
  | _ => .no
@[simp] theorem R.noX_ok {α : Type} (a : α) (e : En) : (R.ok a e).noX = .ok a e := rfl
def compL (g : D → En → Option En) (tt : En → R Bool) (te : En → R (D × Nat)) (m : Nat) (vs : List Nat) : List D → En → List D → R (List D)
  | [], env, acc => .ok acc env
  | d :: ds, env, acc => match g d env with
    | none => .no
    | some env1 => (tt env1).noX.bind fun b env2 => if b = true then
        (te env2).noX.bind fun y env3 => if y.2 = m ∧ acc.length < lim then compL g tt te m vs ds (wipeE env3 vs) (acc ++ [y.1]) else .no
      else compL g tt te m vs ds (wipeE env2 vs) acc
def comp (fi : En → R (List D)) (g : D → En → Option En) (tt : En → R Bool) (te : En → R (D × Nat)) (m : Nat) (vs : List Nat) : En → R (D × Nat) := fun env =>
  (fi env).bind fun ds env1 => (compL g tt te m vs ds (wipeE env1 vs) []).bind fun acc env2 => .ok (.lst acc, m + 1) (backE env1 env2 vs)

abbrev blkCt (Γ : Ct) (scope : Scope) (s : Shared) (H : Hp) (c : Addr) (cl : List (Str × Addr)) (fp : List Addr) : Ct :=
  ⟨Γ.X.blk s H scope (compEnvC scope cl c Γ.X.env) fp, Γ.C, fun _ _ _ _ => False, [], []⟩
theorem Good.blk {Γ : Ct} (G : Good Γ) {scope : Scope} {s : Shared} {H : Hp} {c : Addr} {cl : List (Str × Addr)} {fp : List Addr} : Good (blkCt Γ scope s H c cl fp) :=
  ⟨G.hK, G.nd, G.calm, fun _ _ ⟨_, _, _, _, _, _, _, _, _, _, _, _, _, _, _, _, w⟩ => w.elim⟩
abbrev blk0 (Γ : Ct) : Ct := ⟨Γ.X, Γ.C, fun _ _ _ _ => False, [], []⟩
section
variable {Γ : Ct} {scope : Scope} {elt tg iter : Expr} {ifs : List Expr}
theorem pe_weak {X : Cx} {e : Expr} {t t' : TE} (h : PE X e t) (k : ∀ σ H Q, t' σ H Q → t σ H Q) : PE X e t' := ⟨fun pins s σ H Q I q => h.run pins s σ H Q I (k _ _ _ q)⟩
theorem blk_e {f : En → R (D × Nat)} (h : ∀ s H c cl fp, EvE (blkCt Γ scope s H c cl fp) elt f) :
    ∃ te, (∀ (s : Shared) (H : Hp) (c : Addr) (cl : List (Str × Addr)) (fp : List Addr), PE (Γ.X.blk s H scope (compEnvC scope cl c Γ.X.env) fp) elt te) ∧ Ev (blk0 Γ) (ER Γ.C) f te := by
  refine ⟨fun σ H Q => ∀ s H0 c cl fp, Classical.choose (h s H0 c cl fp) σ H Q, fun s H c cl fp => pe_weak (Classical.choose_spec (h s H c cl fp)).1 fun σ H' Q q => q s H c cl fp, fun σ H Z env φ S Q P s H0 c cl fp => ?_⟩
  exact (Classical.choose_spec (h s H0 c cl fp)).2 σ H Z env φ S Q P
theorem blk_g {ws : List Nat} {g : D → En → Option En} (h : ∀ s H c cl fp, EvG (blkCt Γ scope s H c cl fp) tg ws g) :
    ∃ t, (∀ (s : Shared) (H : Hp) (c : Addr) (cl : List (Str × Addr)) (fp : List Addr), PG (Γ.X.blk s H scope (compEnvC scope cl c Γ.X.env) fp) tg t) ∧
      ∀ σ H Z env φ, SttC (blk0 Γ) Z σ H env φ → ∀ v d env', Sh Γ.C Z H v d → g d env = some env' → ∀ Q : L2.St → Hp → Prop, (∀ σ' φ', SttC (blk0 Γ) Z σ' H env' φ' → (∀ a, Tot φ' a → Tot φ a) → (σ'.length = σ.length ∧ ∀ i, i ∉ ws → σ'[i]? = σ[i]?) → Q σ' H) → t v σ H Q := by
  refine ⟨fun v σ H Q => ∀ s H0 c cl fp, Classical.choose (h s H0 c cl fp) v σ H Q, fun s H c cl fp => ⟨fun pins s' σ H' v u Q I r q => (Classical.choose_spec (h s H c cl fp)).1.run pins s' σ H' v u Q I r (q s H c cl fp)⟩, fun σ H Z env φ S v d env' sh hg Q q s H0 c cl fp => ?_⟩
  exact (Classical.choose_spec (h s H0 c cl fp)).2 σ H Z env φ S v d env' sh hg Q q
def EvPT (Γ : Ct) (ifs : List Expr) (f : En → R Bool) : Prop := ∃ t, PTs Γ.X ifs t ∧ Ev Γ TR f t
def yesT : En → R Bool := fun env => .ok true env
theorem ept_nil : EvPT Γ [] yesT := ⟨_, pts_nil, fun σ H Z env φ S Q P => Post.here P S rfl⟩
theorem blk_t {f : En → R Bool} (h : ∀ s H c cl fp, EvPT (blkCt Γ scope s H c cl fp) ifs f) :
    ∃ t, (∀ (s : Shared) (H : Hp) (c : Addr) (cl : List (Str × Addr)) (fp : List Addr), PTs (Γ.X.blk s H scope (compEnvC scope cl c Γ.X.env) fp) ifs t) ∧ Ev (blk0 Γ) TR f t := by
  refine ⟨fun σ H Q => ∀ s H0 c cl fp, Classical.choose (h s H0 c cl fp) σ H Q, fun s H c cl fp => ⟨fun pins s' σ H' Q I q => (Classical.choose_spec (h s H c cl fp)).1.run pins s' σ H' Q I (q s H c cl fp)⟩, fun σ H Z env φ S Q P s H0 c cl fp => ?_⟩
  exact (Classical.choose_spec (h s H0 c cl fp)).2 σ H Z env φ S Q P

structure Acc (C : RC) (Z : Fp) (H : Hp) (m : Nat) (D₀ : Addr) (vs : List V) (ds : List D) (B : Nat → Fp) : Prop where
  at' : H D₀ = some (.lst vs)
  len : vs.length = ds.length
  ow : ∀ (i : Nat) (x : V) (e : D), vs[i]? = some x → ds[i]? = some e → Ow C Z H m x e (B i)
  dj : ∀ i j b, B i b → B j b → i = j
  nd : ∀ i, ¬ B i D₀
  off : ∀ i b, B i b → i < vs.length
theorem Acc.fin {C : RC} {Z : Fp} {H : Hp} {m : Nat} {D₀ : Addr} {vs : List V} {ds : List D} {B : Nat → Fp} (a : Acc C Z H m D₀ vs ds B) : Ow C Z H (m + 1) (.ref D₀) (.lst ds) (fun b => b = D₀ ∨ ∃ i, B i b) :=
  .inr (.inl ⟨D₀, vs, ds, B, rfl, rfl, a.at', a.len, a.ow, a.dj, a.nd, a.off, fun _ => Iff.rfl⟩)
theorem Acc.mut {C : RC} {Z : Fp} {H : Hp} {m : Nat} {D₀ : Addr} {vs : List V} {ds : List D} {B : Nat → Fp} (a : Acc C Z H m D₀ vs ds B) {b : Addr} {i : Nat} (h : B i b) : isM (H b) := by
  have hi := a.off i b h
  exact (a.ow i vs[i] (ds[i]'(a.len ▸ hi)) (List.getElem?_eq_getElem hi) (List.getElem?_eq_getElem _)).mut b h
theorem Acc.ext {C : RC} {Z Z' : Fp} {H H' : Hp} {m : Nat} {D₀ : Addr} {vs : List V} {ds : List D} {B : Nat → Fp} (a : Acc C Z H m D₀ vs ds B) (x : Ext Z H Z' H') (k : ∀ b o, (b = D₀ ∨ ∃ i, B i b) → H b = some o → H' b = some o) : Acc C Z' H' m D₀ vs ds B :=
  ⟨k _ _ (.inl rfl) a.at', a.len, fun i y e h1 h2 => (a.ow i y e h1 h2).ext x fun b o q => k b o (.inr ⟨i, q⟩), a.dj, a.nd, a.off⟩
abbrev AT (D₀ : Addr) (B : Nat → Fp) : Fp := fun b => b = D₀ ∨ ∃ i, B i b
theorem Acc.snoc {C : RC} {Z : Fp} {H : Hp} {m : Nat} {D₀ : Addr} {vs : List V} {ds : List D} {B : Nat → Fp} (a : Acc C Z H m D₀ vs ds B) (nz : ¬ Z D₀) {v : V} {d : D} {A : Fp} (o : Ow C Z H m v d A) (hA : ∀ b, A b → ¬ AT D₀ B b) :
    Acc C Z (upd H D₀ (.lst (vs ++ [v]))) m D₀ (vs ++ [v]) (ds ++ [d]) (fun i => if i = vs.length then A else B i) ∧ Ext Z H Z (upd H D₀ (.lst (vs ++ [v]))) := by
  have x : Ext Z H Z (upd H D₀ (.lst (vs ++ [v]))) := ⟨fun b u z h => by rw [upd_ne fun e : b = D₀ => nz (by rw [← e]; exact z)]; exact h, fun _ z => z, fun b u h => by rw [upd_ne (ne_of h a.at' fun e => by cases e)]; exact h, fun b u w h => by rw [upd_ne (ne_of h a.at' fun e => by cases e)]; exact h⟩
  have hB : ∀ b, B vs.length b → False := fun b z => Nat.lt_irrefl _ (a.off _ b z)
  refine ⟨⟨upd_same, by rw [List.length_append, List.length_append, a.len]; rfl, fun i y e h1 h2 => ?_, fun i j b h1 h2 => ?_, fun i h => ?_, fun i b h => ?_⟩, x⟩
  · by_cases hi : i = vs.length
    · subst hi
      have e1 : y = v := by simpa using h1.symm
      have e2 : e = d := by rw [a.len] at h2; simpa using h2.symm
      subst e1 e2
      rw [if_pos rfl]
      exact o.ext x fun b u q h => by rw [upd_ne fun z => hA b q (.inl z)]; exact h
    · rw [if_neg hi]
      have hl : i < vs.length := by
        have := (List.getElem?_eq_some_iff.mp h1).1
        rw [List.length_append] at this
        simp at this
        omega
      rw [List.getElem?_append_left hl] at h1
      rw [List.getElem?_append_left (a.len ▸ hl)] at h2
      exact (a.ow i y e h1 h2).ext x fun b u q h => by rw [upd_ne fun z : b = D₀ => a.nd i (by rw [← z]; exact q)]; exact h
  · by_cases hi : i = vs.length
    · rw [if_pos hi] at h1
      by_cases hj : j = vs.length
      · omega
      · rw [if_neg hj] at h2
        exact (hA b h1 (.inr ⟨j, h2⟩)).elim
    · rw [if_neg hi] at h1
      by_cases hj : j = vs.length
      · rw [if_pos hj] at h2
        exact (hA b h2 (.inr ⟨i, h1⟩)).elim
      · rw [if_neg hj] at h2
        exact a.dj i j b h1 h2
  · by_cases hi : i = vs.length
    · rw [if_pos hi] at h; exact hA _ h (.inl rfl)
    · rw [if_neg hi] at h; exact a.nd i h
  · rw [List.length_append]
    by_cases hi : i = vs.length
    · rw [hi]; simp
    · rw [if_neg hi] at h
      have := a.off i b h
      simp; omega
theorem lc_ev {vs ws : List Nat} {wi : TI} {tG : TG} {tT : TT} {tE : TE} {fi : En → R (List D)} {g : D → En → Option En} {tt : En → R Bool} {te : En → R (D × Nat)} (m : Nat)
    (i2 : ∀ σ H Z env φ, SttC Γ Z σ H env φ → ∀ R : It → Hp → Prop, (match fi env with
      | .ok ds env1 => ∀ J H1 Z1 φ1, SttC Γ Z1 σ H1 env1 φ1 → ItD Γ.C J ds Z1 H1 → Evo Z H (Tot φ) Z1 H1 (Tot φ1) → R J H1
      | .ex x => PostX Γ σ Z H (Tot φ) x
      | .no => False) → wi σ H R)
    (g2 : ∀ σ H Z env φ, SttC (blk0 Γ) Z σ H env φ → ∀ v d env', Sh Γ.C Z H v d → g d env = some env' → ∀ Q : L2.St → Hp → Prop, (∀ σ' φ', SttC (blk0 Γ) Z σ' H env' φ' → (∀ a, Tot φ' a → Tot φ a) → (σ'.length = σ.length ∧ ∀ i, i ∉ ws → σ'[i]? = σ[i]?) → Q σ' H) → tG v σ H Q)
    (t2 : Ev (blk0 Γ) TR tt tT) (e2 : Ev (blk0 Γ) (ER Γ.C) te tE) (hws : ∀ i ∈ ws, i ∈ vs) : Ev Γ (ER Γ.C) (comp fi g tt te m vs) (tLc wi tG tT tE vs) := by
  intro σ H Z env φ S Q P
  refine i2 σ H Z env φ S _ ?_
  unfold comp at P
  cases e : fi env with
  | ex x => rw [e] at P; exact P
  | no => rw [e] at P; exact P
  | ok ds env1 =>
    rw [e] at P
    simp only [Pv.R.bind_ok] at P
    intro J H1 Z1 φ1 S1 it ev D₀ hD
    have P1 := Post.mono P ev
    have Sw := S1.wipe vs
    have nD : ¬ Z1 D₀ ∧ ¬ Tot φ1 D₀ := S1.fresh hD
    -- the place at a turn
    let Inv' : Nat → Hp → Prop := fun i H' => ∃ env' Z' φ' accV accD B, SttC (blk0 Γ) Z' (L2.wipe σ vs) H' env' φ' ∧ Ext Z1 H1 Z' H' ∧ Acc Γ.C Z' H' m D₀ accV accD B ∧
      (∀ b, AT D₀ B b → ¬ Tot φ' b ∧ ¬ Z' b) ∧ (∀ v ∈ vs, ∀ p, env'[v]? ≠ some (some p)) ∧ Post Γ σ Z' H' (fun a => Tot φ' a ∨ AT D₀ B a) (ER Γ.C σ) ((compL g tt te m vs (ds.drop i) env' accD).bind fun acc env2 => .ok (.lst acc, m + 1) (backE env1 env2 vs)) Q
    have ev0 : Evo Z1 H1 (Tot φ1) Z1 (upd H1 D₀ (.lst [])) (fun a => Tot (fun i a => i ∉ vs ∧ φ1 i a) a ∨ AT D₀ (fun _ _ => False) a) := Evo.new hD fun a z => z.elim (fun ⟨j, z⟩ => .inl ⟨j, z.2⟩) fun z => z.elim .inr fun ⟨_, z⟩ => z.elim
    refine ⟨fun i k H' => k = ds.length - i ∧ i ≤ ds.length ∧ Inv' i H', ⟨ds.length, by simp, Nat.zero_le _, wipeE env1 vs, Z1, _, [], [], fun _ _ => False, Sw.new hD, Ext.new hD, ⟨upd_same, rfl, fun i x e h => by simp at h, fun _ _ _ z => z.elim, fun _ z => z, fun _ _ z => z.elim⟩, fun b z => ?_, fun v hv p => wipeE_in hv, ?_⟩, ?_⟩
    · rcases z with rfl | ⟨_, z⟩
      · exact ⟨fun ⟨j, z⟩ => nD.2 ⟨j, z.2⟩, nD.1⟩
      · exact z.elim
    · rw [List.drop_zero]
      exact Post.mono P1 ev0
    rintro i k H' ⟨rfl, hi, env', Z', φ', accV, accD, B, S', x', a, hA, hw, P'⟩
    obtain ⟨stop, go⟩ := it Z' H' x'
    by_cases hlt : i < ds.length
    · obtain ⟨hgo, hy⟩ := go i ds[i] (List.getElem?_eq_getElem hlt)
      refine .inr ⟨hgo, fun H2 => Inv' (i + 1) H2, fun H2 h2 => ⟨ds.length - (i + 1), by omega, rfl, hlt, h2⟩, fun v H2 hv => ?_⟩
      obtain ⟨sh, gr⟩ := hy v H2 hv
      obtain ⟨S2, x2, ev2⟩ := gr.stt (Γ := blk0 Γ) S'
      -- what is made stands through a step
      have kept : ∀ {Za Zb : Fp} {Ha Hb : Hp} {Fb : Fp} {φa : Nat → Fp}, Evo Za Ha (Tot φa) Zb Hb Fb → Ext Za Ha Zb Hb → Acc Γ.C Za Ha m D₀ accV accD B → (∀ b, AT D₀ B b → ¬ Tot φa b ∧ ¬ Za b) →
          Acc Γ.C Zb Hb m D₀ accV accD B ∧ (∀ b, AT D₀ B b → ¬ Fb b ∧ ¬ Zb b) := fun {Za Zb Ha Hb Fb φa} e x a0 h0 => by
        have hn : ∀ b, AT D₀ B b → Ha b ≠ none := fun b hb z => by
          rcases hb with rfl | ⟨j, hb⟩
          · rw [a0.at'] at z; cases z
          · have := a0.mut hb; rw [z] at this; exact this
        refine ⟨a0.ext x fun b o hb h => e.keep b o h (h0 b hb).1, fun b hb => ⟨fun z => ?_, fun z => ?_⟩⟩
        · rcases e.fn b z with z | z
          · exact (h0 b hb).1 z
          · exact hn b hb z
        · rcases e.zn b z with z | z | z
          · exact (h0 b hb).2 z
          · exact (h0 b hb).1 z
          · exact hn b hb z
      have lift : ∀ {Za Zb : Fp} {Ha Hb : Hp} {φa : Nat → Fp} {Fb : Fp}, Evo Za Ha (Tot φa) Zb Hb Fb → Evo Za Ha (fun b => Tot φa b ∨ AT D₀ B b) Zb Hb (fun b => Fb b ∨ AT D₀ B b) := fun {Za Zb Ha Hb φa Fb} e =>
        ⟨fun b o h n => e.keep b o h fun z => n (.inl z), e.zm, fun b z => (e.zn b z).imp id fun q => q.imp .inl id, fun b z => z.elim (fun z => (e.fn b z).imp .inl id) fun z => .inl (.inr z)⟩
      obtain ⟨a2, hA2⟩ := kept ev2 x2 a hA
      have P2 := Post.mono P' (lift ev2)
      rw [List.drop_eq_getElem_cons hlt] at P2
      unfold compL at P2
      cases eg : g ds[i] env' with
      | none => rw [eg] at P2; exact P2.elim
      | some env2 =>
        rw [eg] at P2
        simp only at P2
        refine g2 (L2.wipe σ vs) H2 Z' env' φ' S2 v ds[i] env2 sh eg _ fun σ3 φ3 S3 t3 k3 => ?_
        have hwσ : L2.wipe σ3 vs = L2.wipe σ vs := by
          have := wipe_of (σ := σ) (σ2 := σ3) hws k3.1 k3.2
          exact this
        refine ⟨hwσ, ?_⟩
        have hA3 : ∀ b, AT D₀ B b → ¬ Tot φ3 b ∧ ¬ Z' b := fun b hb => ⟨fun z => (hA2 b hb).1 (t3 b z), (hA2 b hb).2⟩
        have P3 := Post.mono P2 (show Evo Z' H2 (fun b => Tot φ' b ∨ AT D₀ B b) Z' H2 (fun b => Tot φ3 b ∨ AT D₀ B b) from Evo.refl.sub fun b z => z.imp (t3 b) id)
        -- the tests
        refine t2 σ3 H2 Z' env2 φ3 S3 _ ?_
        cases et : tt env2 with
        | ex x => rw [et] at P3; exact P3.elim
        | no => rw [et] at P3; exact P3.elim
        | ok b env3 =>
          rw [et] at P3
          intro b' H3 Z3 φ4 A3 S4 eb dj3 ev3
          cases (show b = b' from eb)
          have ev3' := ev3.sub (F2 := Tot φ4) fun _ z => .inl z
          have x3 := S3.ext ev3'
          obtain ⟨a4, hA4⟩ := kept ev3' x3 a2 hA3
          have P4 := Post.mono P3 (lift ev3')
          cases b with
          | false =>
            rw [if_neg Bool.false_ne_true]
            simp only [R.noX_ok, Pv.R.bind_ok, if_neg Bool.false_ne_true] at P4
            have S5 := S4.wipe vs
            rw [hwσ] at S5
            exact ⟨_, Z3, _, accV, accD, B, S5, (x'.trans x2).trans x3, a4, fun c hc => ⟨fun ⟨j, z⟩ => (hA4 c hc).1 ⟨j, z.2⟩, (hA4 c hc).2⟩, fun u hu p => wipeE_in hu, P4.mono (Evo.refl.sub fun c z => z.imp (fun ⟨j, z⟩ => ⟨j, z.2⟩) id)⟩
          | true =>
            rw [if_pos rfl]
            simp only [R.noX_ok, Pv.R.bind_ok, if_true] at P4
            refine e2 σ3 H3 Z3 env3 φ4 S4 _ ?_
            cases ee : te env3 with
            | ex x => rw [ee] at P4; exact P4.elim
            | no => rw [ee] at P4; exact P4.elim
            | ok y env4 =>
              rw [ee] at P4
              simp only [R.noX_ok, Pv.R.bind_ok] at P4
              intro yv H5 Z5 φ5 A5 S5 o5 dj5 ev5
              have x5 := S4.ext ev5
              obtain ⟨a5, hA5⟩ := kept ev5 x5 a4 hA4
              have P5 := Post.mono P4 (lift ev5)
              by_cases hy2 : y.2 = m ∧ accD.length < lim
              · rw [if_pos hy2] at P5
                obtain ⟨yd, yk⟩ := y
                obtain ⟨rfl, hz⟩ := hy2
                refine ⟨accV, a5.at', by rw [a5.len]; exact Nat.lt_of_lt_of_le hz (lim_le (Nat.le_refl _)), ?_⟩
                obtain ⟨a6, x6⟩ := a5.snoc (hA5 D₀ (.inl rfl)).2 o5 (fun b hb z => (hA5 b z).1 (.inr hb))
                have S6 := S5.go (Z' := Z5) x6 (fun b u hb h => by
                  rw [upd_ne fun z : b = D₀ => (hA5 D₀ (.inl rfl)).1 (.inl (by rw [← z]; exact hb))]
                  exact h) S5.tnz fun b z => by
                    by_cases q : b = D₀
                    · rw [q, upd_same]; exact Option.some_ne_none _
                    · rw [upd_ne q]; exact S5.zh b z
                have S7 := S6.wipe vs
                rw [hwσ] at S7
                have hAT : ∀ c, AT D₀ (fun i => if i = accV.length then A5 else B i) c → AT D₀ B c ∨ A5 c := fun c hc => by
                  rcases hc with rfl | ⟨j, hc⟩
                  · exact .inl (.inl rfl)
                  · by_cases q : j = accV.length
                    · simp only [if_pos q] at hc; exact .inr hc
                    · simp only [if_neg q] at hc; exact .inl (.inr ⟨j, hc⟩)
                refine ⟨_, Z5, _, _, _, _, S7, ((x'.trans x2).trans x3).trans (x5.trans x6), a6, fun c hc => ?_, fun u hu p => wipeE_in hu, P5.mono ?_⟩
                · rcases hAT c hc with h | h
                  · exact ⟨fun ⟨j, z⟩ => (hA5 c h).1 (.inl ⟨j, z.2⟩), (hA5 c h).2⟩
                  · exact ⟨fun ⟨j, z⟩ => (dj5 c h).1 ⟨j, z.2⟩, (dj5 c h).2⟩
                · refine ⟨fun b u h n => ?_, fun _ z => z, fun _ z => .inl z, fun b z => .inl ?_⟩
                  · rw [upd_ne fun z : b = D₀ => n (.inr (.inl z))]; exact h
                  · rcases z with ⟨j, z⟩ | z
                    · exact .inl (.inl ⟨j, z.2⟩)
                    · rcases hAT b z with h | h
                      · exact .inr h
                      · exact .inl (.inr h)
              · rw [if_neg hy2] at P5; exact P5.elim
    · have e1 : i = ds.length := by omega
      subst e1
      refine .inl ⟨stop, ?_⟩
      rw [List.drop_length] at P'
      simp only [compL, Pv.R.bind_ok] at P'
      -- the slots behind
      refine P' (.ref D₀) H' Z' (fun i c => i ∉ vs ∧ φ' i c) (AT D₀ B) ?_ a.fin (fun c hc => ⟨fun ⟨j, z⟩ => (hA c hc).1 ⟨j, z.2⟩, (hA c hc).2⟩) (Evo.refl.sub fun c z => z.imp (fun ⟨j, z⟩ => ⟨j, z.2⟩) id)
      refine ⟨?_, fun i d k h => ?_, fun i h c ⟨hi, z⟩ => ?_, fun i j c h1 h2 => S'.dj i j c h1.2 h2.2, fun i c h => S'.nz i c h.2, S'.zh, S1.l0, S1.io⟩
      · rw [backE_length, ← S'.len, wipe_length]
      · by_cases hi : i ∈ vs
        · obtain ⟨h1, h2⟩ := backE_in hi h
          simp only at h2
          subst h2
          obtain ⟨w, q1, q2⟩ := S1.slot i d 0 h1
          exact ⟨w, q1, q2.1.ext x', fun c z => z.1 hi⟩
        · rw [backE_out hi] at h
          obtain ⟨w, q1, q2⟩ := S'.slot i d k h
          rw [wipe_out hi] at q1
          exact ⟨w, q1, q2.congr fun c => ⟨fun z => ⟨hi, z⟩, fun z => z.2⟩⟩
      · exact S'.off i (fun p => by have := h p; rwa [backE_out hi] at this) c z
theorem ev_lc {own : List (Str × Nat)} {vs ws : List Nat} {pos : Pos} {fi : En → R (List D)} {g : D → En → Option En} {tt : En → R Bool} {te : En → R (D × Nat)} (m : Nat) (G : Good Γ) (hi : EvI Γ tg iter fi) (ok : BlkOk Γ.X.N Γ.X.env.scope scope own) (hvs : own.map (·.2) = vs) (hws : ∀ i ∈ ws, i ∈ vs)
    (hg : ∀ s H c cl fp, EvG (blkCt Γ scope s H c cl fp) tg ws g) (ht : ∀ s H c cl fp, EvPT (blkCt Γ scope s H c cl fp) ifs tt) (he : ∀ s H c cl fp, EvE (blkCt Γ scope s H c cl fp) elt te) (hs : ∀ x, foldedSetIterable iter Γ.X.env x = pure x := by intro _; rfl) :
    EvE Γ (.ListComp elt [⟨tg, iter, ifs, 0⟩] scope pos) (comp fi g tt te m vs) := by
  obtain ⟨wi, i1, i2⟩ := hi
  obtain ⟨tG, g1, g2⟩ := blk_g hg
  obtain ⟨tT, t1, t2⟩ := blk_t ht
  obtain ⟨tE, e1, e2⟩ := blk_e he
  have p0 := pe_lc (pos := pos) G.calm G.nd i1 ok g1 t1 e1 hs
  rw [hvs] at p0
  exact ⟨_, p0, lc_ev m i2 g2 t2 e2 hws⟩
end
end Pv
end

section
set_option Elab.async false
set_option linter.all false
set_option maxRecDepth 100000
set_option maxHeartbeats 4000000
namespace Pv
open PySem PySem.Spec PyProof.Rows L2

section
variable {C : RC} {io : List Nat} {σ₀ σ : L2.St} {Z : Fp} {H : Hp} {env : En} {φ : Nat → Fp}
theorem Ext.upd {a : Addr} {o u : HO} (h : H a = some u) (nz : ¬ Z a) (mu : isM (some u)) : Ext Z H Z (upd H a o) :=
  ⟨fun b w z e => by rw [upd_ne fun q : b = a => nz (by rw [← q]; exact z)]; exact e, fun _ z => z, fun b w e => by rw [upd_ne (ne_of e h fun q => by subst q; exact mu)]; exact e, fun b w v e => by rw [upd_ne (ne_of e h fun q => by subst q; exact mu)]; exact e⟩
theorem Stt.upd (S : Stt C io σ₀ Z σ H env φ) {i : Nat} {a : Addr} {o u : HO} {d : D} {k : Nat} (hv : σ[i]? = some (some (.ref a))) (hi : i < env.length) (h : H a = some u) (mu : isM (some u)) (hφ : φ i a) {A : Fp} (hA : ∀ b, A b → φ i b) (ow : Ow C Z (upd H a o) k (.ref a) d A) :
    Stt C io σ₀ Z σ (upd H a o) (env.set i (some (d, k))) (fun j => if j = i then A else φ j) ∧ Evo Z H (Tot φ) Z (upd H a o) (Tot fun j => if j = i then A else φ j) := by
  have nz := S.nz i a hφ
  have x : Ext Z H Z (L2.upd H a o) := Ext.upd h nz mu
  have Sd := S.drop i
  have S1 := Sd.go x (fun b w ⟨j, hj, z⟩ e => by
    rw [upd_ne fun q : b = a => hj (S.dj j i b z (by rw [q]; exact hφ))]; exact e) (fun b ⟨j, _, z⟩ => S.nz j b z) fun b z => by
      by_cases q : b = a
      · rw [q, upd_same]; exact Option.some_ne_none _
      · rw [upd_ne q]; exact S.zh b z
  have S2 := S1.reput (i := i) (by simpa using hi) hv ow (fun j b hj z y => hj (S.dj j i b z.2 (hA b y))) (fun b z => S.nz i b (hA b z))
  rw [List.set_set] at S2
  have e2 : (fun j => if j = i then A else fun b => j ≠ i ∧ φ j b) = fun j => if j = i then A else φ j := by
    funext j
    by_cases q : j = i
    · rw [if_pos q, if_pos q]
    · rw [if_neg q, if_neg q]
      funext b
      exact propext ⟨fun z => z.2, fun z => ⟨q, z⟩⟩
  rw [e2] at S2
  refine ⟨S2, ⟨fun b w e n => by rw [upd_ne fun q : b = a => n ⟨i, by rw [q]; exact hφ⟩]; exact e, fun _ z => z, fun _ z => .inl z, fun b ⟨j, z⟩ => .inl ?_⟩⟩
  by_cases q : j = i
  · simp only [if_pos q] at z; exact ⟨i, hA b z⟩
  · simp only [if_neg q] at z; exact ⟨j, z⟩
theorem Ow.lst_at {k : Nat} {v : V} {ds : List D} {A : Fp} (h : Ow C Z H k v (.lst ds) A) : ∃ a xs, v = .ref a ∧ H a = some (.lst xs) ∧ xs.length = ds.length := by
  cases k with
  | zero => cases h.1 with | lst s z r => exact ⟨_, _, rfl, s, r.length⟩
  | succ k =>
    rcases h with ⟨m, _⟩ | ⟨b, xs, ds', B, rfl, e0, hb, hl, _⟩ | ⟨_, _, _, _, _, e, _⟩
    · cases m
    · cases e0; exact ⟨b, xs, rfl, hb, hl⟩
    · cases e
end

section
variable {Γ : Ct} {x : Str} {p pos apos cpos : Pos} {e a b : Expr} {es : List Expr}
theorem es_setLc {elt tg iter : Expr} {ifs : List Expr} {scope : Scope} {i : Nat} {y : Str} {py spos : Pos} {own : List (Str × Nat)} {vs ws : List Nat} {fi : En → R (List D)} {g : D → En → Option En} {tt : En → R Bool} {te : En → R (D × Nat)} (m : Nat) (G : Good Γ) (hy : Γ.X.N[i]? = some y) (hyl : Γ.X.env.scope.names.lookup y = some .local) (hio : i ∉ Γ.io)
    (hsw : swapsWith (.ListComp elt [⟨tg, iter, ifs, 0⟩] scope pos) (some (.Name y py)) spos.line Γ.X.env = pure true)
    (hi : EvI Γ tg iter fi) (ok : BlkOk Γ.X.N Γ.X.env.scope scope own) (hvs : own.map (·.2) = vs) (hws : ∀ i ∈ ws, i ∈ vs)
    (hg : ∀ s H c cl fp, EvG (blkCt Γ scope s H c cl fp) tg ws g) (ht : ∀ s H c cl fp, EvPT (blkCt Γ scope s H c cl fp) ifs tt) (he : ∀ s H c cl fp, EvE (blkCt Γ scope s H c cl fp) elt te) (hs : ∀ x, foldedSetIterable iter Γ.X.env x = pure x := by intro _; rfl) :
    EvS Γ (.Assign [.Name y py] (.ListComp elt [⟨tg, iter, ifs, 0⟩] scope pos) spos) (setS i (comp fi g tt te m vs)) := by
  obtain ⟨wi, i1, i2⟩ := hi
  obtain ⟨tG, g1, g2⟩ := blk_g hg
  obtain ⟨tT, t1, t2⟩ := blk_t ht
  obtain ⟨tE, e1, e2⟩ := blk_e he
  have p0 := ps_setLc (i := i) (py := py) (spos := spos) (pos := pos) G.calm G.nd hy hyl hsw i1 ok g1 t1 e1 hs
  rw [hvs] at p0
  refine ⟨_, p0, fun σ H Z env φ S Dn P => ?_⟩
  refine (lc_ev m i2 g2 t2 e2 hws).then S P fun p env1 v H1 Z1 φ1 A e1 S1 o dj ev P1 => ?_
  exact put_ok hio S1 o dj P1
def isLst (s : Option Sl) : Bool := match s with
  | some (some (.lst _, _)) => true
  | _ => false
def appS (i : Nat) (fe : En → R D) : En → SR := fun env => if isLst env[i]? = true then (fe env).then fun d env1 => match env1[i]? with
    | some (some (.lst ds, 1)) => if ds.length < lim then .nx (env1.set i (some (.lst (ds ++ [d]), 1))) else .no
    | _ => .no
  else .no
theorem isLst_at {σ : L2.St} {Z : Fp} {H : Hp} {env : En} {φ : Nat → Fp} (S : SttC Γ Z σ H env φ) {i : Nat} (h : isLst env[i]? = true) : ∃ a xs, σ[i]? = some (some (.ref a)) ∧ H a = some (.lst xs) := by
  unfold isLst at h
  split at h
  · rename_i ds k hi
    obtain ⟨v, hv, o⟩ := S.slot i _ _ hi
    obtain ⟨a, xs, rfl, ha, _⟩ := o.lst_at
    exact ⟨a, xs, hv, ha⟩
  · cases h
theorem es_app {i : Nat} {fe : En → R D} (G : Good Γ) (hN : Γ.X.N[i]? = some x) (hv : Vis Γ.X.env.scope x) (he : EvV Γ e fe) (hd : (x == ("__debug__" : Str)) = false := by decide) (hcd : (x == ("__classdict__" : Str)) = false := by decide)
    (hfew : ((backTo cpos (starEach [e] Γ.X.env)).all (fun x => !x.1) && (backToKw cpos (keywordEach [] Γ.X.env)).all (fun x => x.1.isSome) && decide ([e].length + ([] : List Keyword).length + (if ([] : List Keyword).isEmpty then 0 else 1) < 30)) = true := by rfl)
    (hline : (apos.endLine == cpos.line) = true := by rfl) (hs : starEach [e] Γ.X.env = (false, eval e Γ.X.env) :: starEach [] Γ.X.env := by rfl) (hsw : swapsWith (.Call (.Attribute (.Name x p) "append" apos) [e] [] cpos) none pos.line Γ.X.env = pure false := by rfl) :
    EvS Γ (.Expr (.Call (.Attribute (.Name x p) "append" apos) [e] [] cpos) pos) (appS i fe) := by
  obtain ⟨t, h1, h2⟩ := he
  refine ⟨_, ps_expr (pe_bm PySem.F.plainAttrs_list PySem.F.slot_list_append PySem.F.type_list_append mt_append (pe_var hN hv hd hcd) (pa_cons h1 pa_nil hs) rfl hfew hline hs rfl) hsw, fun σ H Z env φ S Dn P => ?_⟩
  unfold appS at P
  split at P
  · rename_i hl
    obtain ⟨a, xs, hv0, ha0⟩ := isLst_at S hl
    refine ⟨.ref a, hv0, .inl ⟨rfl, xs, SqL.of ha0⟩, ?_⟩
    refine h2.then S P fun d env1 w H1 Z1 φ1 A e1 S1 q1 dj1 ev1 P1 => ?_
    have P2 := P1.mono Evo.dropA
    split at P2
    · rename_i ds hds
      split at P2
      · rename_i hz
        obtain ⟨v, hv1, o⟩ := S1.slot i _ _ hds
        rw [hv0] at hv1; cases hv1
        obtain ⟨a', ys, e0, ha, r, hφ⟩ := o.lst_inv
        cases e0
        refine ⟨a, ys, w, rfl, rfl, ha, by rw [r.length]; exact Nat.lt_of_lt_of_le hz (lim_le (Nat.le_refl _)), ?_⟩
        have x : Ext Z1 H1 Z1 (upd H1 a (.lst (ys ++ [w]))) := Ext.upd ha (S1.nz i a ((hφ a).mpr rfl)) trivial
        obtain ⟨S2, ev2⟩ := S1.upd (o := .lst (ys ++ [w])) (A := fun b => b = a) hv0 (List.getElem?_eq_some_iff.mp hds).1 ha trivial ((hφ a).mpr rfl) (fun b hb => (hφ b).mpr hb) (Ow.lst1 upd_same ((r.snoc q1).ext x))
        exact PostS.here (P2.mono ev2) S2
      · exact P2.elim
    · exact P2.elim
  · exact P.elim
def putVs (ks : List Key) (vs : List D) (k : Key) (d : D) : List D := (ks.zip vs).map fun q => if q.1 = k then d else q.2
def putD (d : D) (di v : D) : Option D :=
  match d with
  | .lst ds => match di with
    | .int j => (ixN ds.length j).map fun m => .lst (ds.set m v)
    | _ => none
  | .dic ks vs => (keyD di).bind fun k => if ks.length < lim then some (if hasK ks k then .dic ks (putVs ks vs k v) else .dic (ks ++ [k]) (vs ++ [v])) else none
  | _ => none
theorem pset_or {X : Cx} {r r' : TSet} (h : PSet X r) (h' : PSet X r') : PSet X (fun o i v H Q => r o i v H Q ∨ r' o i v H Q) := by
  intro pins s σ H o i v ov iv u Q I ro ri rv q
  rcases q with q | q
  · exact h pins s σ H o i v ov iv u Q I ro ri rv q
  · exact h' pins s σ H o i v ov iv u Q I ro ri rv q
def sItS (i : Nat) (fe fi : En → R D) : En → SR := fun env => (fe env).then fun v env1 => match env1[i]? with
  | some (some _) => (fi env1).then fun di env2 => match env2[i]? with
    | some (some (d, 1)) => (match putD d di v with
      | some d' => .nx (env2.set i (some (d', 1)))
      | none => .no)
    | _ => .no
  | _ => .no
theorem put_zip {ks : List Key} {xs : List V} {k : Key} {y : V} (hl : ks.length = xs.length) : putK (ks.zip xs) k y = if hasK ks k = true then ks.zip ((ks.zip xs).map fun q => if q.1 = k then y else q.2) else (ks ++ [k]).zip (xs ++ [y]) := by
  unfold putK
  have e : ((ks.zip xs).any fun kv => decide (kv.1 = k)) = hasK ks k := by
    have := cval ks xs k hl
    rw [← this]
    exact valV_any k (ks.zip xs)
  rw [e]
  by_cases h : hasK ks k = true
  · rw [if_pos h, if_pos h]
    clear e h
    induction ks generalizing xs with
    | nil => rfl
    | cons j ks ih =>
      cases xs with
      | nil => rfl
      | cons x xs =>
        rw [List.zip_cons_cons, List.map_cons, List.map_cons, List.zip_cons_cons]
        rw [ih (by simpa using hl)]
        by_cases q : j = k
        · simp [q]
        · simp [q]
  · rw [if_neg h, if_neg h]
    rw [List.zip_append hl]
    rfl
theorem putVs_sh {C : RC} {Z : Fp} {H : Hp} {ks : List Key} {xs : List V} {ds : List D} {k : Key} {y : V} {d : D} (r : ShL C Z H xs ds) (h : Sh C Z H y d) (hl : ks.length = xs.length) : ShL C Z H ((ks.zip xs).map fun q => if q.1 = k then y else q.2) (putVs ks ds k d) := by
  unfold putVs
  induction ks generalizing xs ds with
  | nil => exact .nil
  | cons j ks ih =>
    cases r with
    | nil => exact .nil
    | cons h1 r =>
      rw [List.zip_cons_cons, List.zip_cons_cons, List.map_cons, List.map_cons]
      refine .cons ?_ (ih r (by simpa using hl))
      by_cases q : j = k
      · simp only [q, if_true]; exact h
      · simp only [q, if_false]; exact h1
theorem es_sub {i : Nat} {ie : Expr} {fe fi : En → R D} {k : Nat} (G : Good Γ) (hr : Room k Γ.X.A) (hN : Γ.X.N[i]? = some x) (hv : Vis Γ.X.env.scope x) (he : EvV Γ e fe) (hi : EvV Γ ie fi) (hd : (x == ("__debug__" : Str)) = false := by decide) (hcd : (x == ("__classdict__" : Str)) = false := by decide)
    (ha : ∀ v, assign (.Subscript (.Name x p) ie apos) Γ.X.env v = (do
      let ov ← holding [v] (eval (.Name x p) Γ.X.env)
      let iv ← holding [v, ov] (eval ie Γ.X.env)
      standAt apos
      holding [v, ov, iv] (setItem ov iv v)
      release [v, ov, iv] []) := by intro _; rfl)
    (hs : swapsWithSole [.Subscript (.Name x p) ie apos] e pos.line Γ.X.env = pure false := by rfl) (hw : swappedStores [.Subscript (.Name x p) ie apos] e Γ.X.env = pure none := by rfl)
    (h1 : (assignEach [.Subscript (.Name x p) ie apos] Γ.X.env).map (·.2) = [assign (.Subscript (.Name x p) ie apos) Γ.X.env] := by rfl) :
    EvS Γ (.Assign [.Subscript (.Name x p) ie apos] e pos) (sItS i fe fi) := by
  obtain ⟨t, a1, a2⟩ := he
  obtain ⟨u, b1, b2⟩ := hi
  refine ⟨_, ps_asg a1 (pg_sub (pe_var hN hv hd hcd) b1 (pset_or set_list (set_dict (hu_of hr))) ha) hs hw h1, fun σ H Z env φ S Dn P => ?_⟩
  refine a2.then S P fun v env1 vv H1 Z1 φ1 A e1 S1 q1 dj1 ev1 P1 => ?_
  have P1' := P1.mono Evo.dropA
  split at P1'
  · rename_i p0 hp0
    obtain ⟨ov, hov, _⟩ := S1.slot i p0.1 p0.2 hp0
    refine ⟨ov, hov, ?_⟩
    refine b2.then S1 P1' fun di env2 iv H2 Z2 φ2 B e2 S2 q2 dj2 ev2 P2 => ?_
    have P2' := P2.mono Evo.dropA
    have q1' : Sh Γ.C Z2 H2 vv v := Sh.ext (S1.ext ev2) v vv q1
    split at P2'
    · rename_i d hd2
      obtain ⟨ov', hov', o⟩ := S2.slot i _ _ hd2
      rw [hov] at hov'; cases hov'
      have hi2 := (List.getElem?_eq_some_iff.mp hd2).1
      cases ep : putD d di v with
      | none => rw [ep] at P2'; exact P2'.elim
      | some d' =>
        rw [ep] at P2'
        simp only at P2'
        unfold putD at ep
        split at ep
        · rename_i ds
          split at ep
          · rename_i j
            obtain ⟨m, hm, rfl⟩ := Option.map_eq_some_iff.mp ep
            obtain ⟨a, ys, rfl, ha2, r, hφ⟩ := o.lst_inv
            have q2 : Sh Γ.C Z2 H2 iv (.int j) := q2
            cases q2
            refine .inl ⟨a, ys, j, m, rfl, rfl, ha2, by rw [r.length]; exact hm, ?_⟩
            have x : Ext Z2 H2 Z2 (upd H2 a (.lst (ys.set m vv))) := Ext.upd ha2 (S2.nz i a ((hφ a).mpr rfl)) trivial
            obtain ⟨S3, ev3⟩ := S2.upd (o := .lst (ys.set m vv)) (A := fun b => b = a) hov hi2 ha2 trivial ((hφ a).mpr rfl) (fun b hb => (hφ b).mpr hb) (Ow.lst1 upd_same ((ShL.set q1' m r).ext x))
            exact PostS.here (P2'.mono ev3) S3
          · cases ep
        · rename_i ks vs
          obtain ⟨key, hk, ep⟩ := Option.bind_eq_some_iff.mp ep
          split at ep
          · rename_i hz
            obtain ⟨a, ys, rfl, ha2, hl, r, hφ⟩ := o.dic_inv
            have ei := keyD_eq hk (Rd1.sh (C := Γ.C) q2)
            subst ei
            have hlen : (ks.zip ys).length < sizeLine := by rw [List.length_zip, hl, Nat.min_self, ← hl]; exact Nat.lt_of_lt_of_le hz (lim_le (Nat.le_refl _))
            refine .inr ⟨a, _, rfl, DPut.k ha2 hlen, ?_⟩
            have pz := put_zip (k := key) (y := vv) hl
            by_cases hh : hasK ks key = true
            · rw [if_pos hh] at ep pz
              cases ep
              rw [pz]
              have x : Ext Z2 H2 Z2 (upd H2 a (.dK (ks.zip ((ks.zip ys).map fun q => if q.1 = key then vv else q.2)))) := Ext.upd ha2 (S2.nz i a ((hφ a).mpr rfl)) trivial
              have r2 := putVs_sh (k := key) r q1' hl
              obtain ⟨S3, ev3⟩ := S2.upd (o := .dK (ks.zip ((ks.zip ys).map fun q => if q.1 = key then vv else q.2))) (A := fun b => b = a) hov hi2 ha2 trivial ((hφ a).mpr rfl) (fun b hb => (hφ b).mpr hb)
                (Ow.dic1 upd_same (by rw [List.length_map, List.length_zip, hl, Nat.min_self]) (r2.ext x))
              exact PostS.here (P2'.mono ev3) S3
            · rw [if_neg hh] at ep pz
              cases ep
              rw [pz]
              have x : Ext Z2 H2 Z2 (upd H2 a (.dK ((ks ++ [key]).zip (ys ++ [vv])))) := Ext.upd ha2 (S2.nz i a ((hφ a).mpr rfl)) trivial
              obtain ⟨S3, ev3⟩ := S2.upd (o := .dK ((ks ++ [key]).zip (ys ++ [vv]))) (A := fun b => b = a) hov hi2 ha2 trivial ((hφ a).mpr rfl) (fun b hb => (hφ b).mpr hb)
                (Ow.dic1 upd_same (by rw [List.length_append, List.length_append, hl]; rfl) ((r.snoc q1').ext x))
              exact PostS.here (P2'.mono ev3) S3
          · cases ep
        · cases ep
    · exact P2'.elim
  · exact P1'.elim

structure ExcC (Γ : Ct) (x : Str) (c : Nat) (a : Addr) : Prop where
  g : Γ.X.mg x = some (.ref a)
  k : PySem.W.keepIn Γ.X.K (.ref a) = true
  q : PySem.W.excIn Γ.X.K a [.type "ValueError", .type "Exception", .type "BaseException", .type "object"] "ValueError.__new__" = true
  r : Raises Γ.X (.ref a)
  n : Γ.C.ca c = some a
def raiseS (c : Nat) : En → SR := fun _ => .ex (.mk c [])
theorem es_raise {c : Nat} {a0 : Addr} {m : Str} {j : Nat} {p2 : Pos} (G : Good Γ) (E : ExcC Γ x c a0) (hg : Gl Γ.X x) (hdb : (x == ("__debug__" : Str)) = false := by decide) : EvS Γ (.Raise (some (.Call (.Name x p) [.Constant (.str m) j p2] [] cpos)) none pos) (raiseS c) := by
  refine ⟨_, ps_raise G.calm G.tk (pmk_own PySem.F.excBase_ValueError E.q E.g E.k E.r hg hdb), fun σ H Z env φ S Dn P => ?_⟩
  exact P σ S.io S.l0 (.ref a0) none H Z (Evo.refl.sub fun _ z => z.elim) S.zh ⟨a0, E.n, rfl, .inl rfl⟩
end
end Pv
end

section
set_option Elab.async false
set_option linter.all false
set_option maxRecDepth 100000
set_option maxHeartbeats 4000000
namespace Pv
open PySem PySem.Spec PyProof.Rows L2

def wFst (K : PySem.W.Frag) (c : Value) (ts : Addr → Value → Option Addr → TS) (D : Ends) : WX := fun cls d σ H => PySem.W.exmOne K cls c = some true ∧ ∀ a, H a = none → ts a cls d D σ H
section
variable {X : Cx} {body : List Stmt} {pos : Pos} {tb : WX → TS}
theorem ps_try_fst {x : Str} {c : Value} {ts : Addr → Value → Option Addr → TS} {b₀ : Stmt} {suite : List Stmt} {np pos' : Pos} {hds : List ExceptHandler} (hs : X.stack = X.env :: X.outer) (hf : X.env.frame = some X.env.locals)
    (hb : ∀ (W : WX) (pn : List (Addr × Obj)) (xe : Value → Shared → Prop), Takes (X.tr pn xe) W → PassesOwn (model X.prog X.w) X.A X.env xe → PSs (X.tr pn xe) body (tb W))
    (hc : Names X x c) (hsu : ∀ (a : Addr) (oe : Obj) (cls : Value) (d : Option Addr) (pn : List (Addr × Obj)), Zc cls d oe → (∃ vs, oe.data = .fields vs) → PSs (X.suite a ((a, oe) :: pn)) (b₀ :: suite) (ts a cls d)) :
    PS X (.Try body (.ExceptHandler (some (.Name x np)) none (b₀ :: suite) pos' :: hds) [] [] pos) (fun D σ H => tb (wFst X.K c ts D) D σ H) := by
  refine ⟨fun pins s σ H D I h => ?_⟩
  have ok := I.ok
  have hfr : X.A.frames = some (X.env :: X.outer) := by rw [ok.frames, hs]
  refine wpAny_Try_except ?_
  refine wpAny_mono ((hb (wFst X.K c ts D) (X.pn ++ pins) (fun e s₁ => wpAny (model X.prog X.w) X.A (noteFrame e X.env) (fun _ s₂ => wpAny (model X.prog X.w) X.A (setFlight e none) (fun _ s₃ =>
    wpAny (model X.prog X.w) X.A (handleBy e X.env (.ExceptHandler (some (.Name x np)) none (b₀ :: suite) pos' :: hds)) (SP X pins D) X.xe s₃) X.xe s₂) X.xe s₁) (fun u s' xx => ?_) PassesOwn.looking).run [] s σ H D (I.toTry _) h) (fun f s1 hsp => ?_) (fun e s1 he => he)
  · obtain ⟨a, B, sI, pins', σ', H', cls, d, rfl, J', nb, up, sky, na, os, ag, w⟩ := xx
    have J : Inv X pins σ' H' sI := J'.ofTry ok
    have sky' : Sky B (X.env :: X.outer) a (Zc cls d) X.env.locals s'.heap := by rw [← hs]; exact sky
    show wpAny (model X.prog X.w) X.A (noteFrame (.ref a) X.env) _ _ _
    refine Sky.land Zc.steady hfr hf sky' fun h3 fl3 up3 => ?_
    have J3 : Inv X pins σ' H' { s' with heap := h3 } := J.landed nb fl3.1 (up.trans up3) os ag
    obtain ⟨oe3, vs3, he3, hz3, hd3⟩ := fl3.there
    have notFr : ∀ {h : Heap} {o : Obj} {vs : Array Value}, h.FunFrames B (X.env :: X.outer) → h.get? a = some o → o.data = .fields vs → a ∉ frs (X.env :: X.outer) := fun {h o vs} ff e dd hm => by
      obtain ⟨_, o', e', hnf⟩ := ff.mem hm
      rw [e] at e'; cases e'
      exact hnf _ dd
    have nfr := notFr fl3.2.2.1 he3 hd3
    have nL : a ≠ X.env.locals := fun z => nfr (List.mem_filterMap.mpr ⟨X.env, List.mem_cons_self, by rw [hf, z]⟩)
    have nF : a ∉ X.fs := fun hm => by
      obtain ⟨e, he, q⟩ := List.mem_filterMap.mp hm
      exact nfr (List.mem_filterMap.mpr ⟨e, List.mem_cons_of_mem _ he, q⟩)
    have S3 := J3.suite he3 hd3 na nL nF
    obtain ⟨hb1, hyes⟩ := w
    refine wpAny_handleBy_cons (codeAny_handlers_test ?_) (by intro q; cases q)
    have LT : PySem.W.Looks (model X.prog X.w) h3 (typeOf (.ref a)) cls := fun A Q E s k q => wpAny_typeOf_ref (k _ _ he3) (by rw [hz3.1]; exact q)
    have LM := PySem.W.exm_one (M := model X.prog X.w) (J3.kIn) LT hb1
    have test : ∀ {Q : Value → Shared → Prop} {E : Value → Shared → Prop}, Q c { s' with heap := h3 } → wpAny (model X.prog X.w) (X.A.mark (some (.ref a))) (eval (.Name x np) X.env) Q E { s' with heap := h3 } := fun {Q E} q => by
      obtain ⟨hg, hdbg, hm | ⟨hm, hv, hnn⟩⟩ := hc
      · exact ld_glob (X := X.suite a ((a, oe3) :: (X.pn ++ pins))) S3 hg hm q hdbg
      · exact ld_blt (X := X.suite a ((a, oe3) :: (X.pn ++ pins))) S3 hg hm hv q hnn hdbg
    refine test (LM.here ?_)
    refine codeAny_handlers_suite ?_
    refine HandSPX.lands_againZ fl3 fun h4 fl4 up4 => ?_
    have J4 : Inv X pins σ' H' { s' with heap := h4 } := J.landed nb fl4.1 ((up.trans up3).trans up4) os ag
    obtain ⟨oe4, vs4, he4, hz4, hd4⟩ := fl4.there
    have S4 := J4.suite he4 hd4 na nL nF
    refine wpAny_mono ((hsu a oe4 cls d (X.pn ++ pins) hz4 ⟨_, hd4⟩).run [] _ _ H' _ S4 (hyes a na)) (fun f s6 hsp => ?_) (fun _ _ z => False.elim z)
    cases f with
    | next =>
      obtain ⟨σ6, H6, S6, q6⟩ := hsp
      exact ⟨_, _, S6.unsuite ok, q6⟩
    | brk =>
      obtain ⟨σ6, H6, S6, q6⟩ := hsp
      exact ⟨_, _, S6.unsuite ok, q6⟩
    | cont =>
      obtain ⟨σ6, H6, S6, q6⟩ := hsp
      exact ⟨_, _, S6.unsuite ok, q6⟩
    | ret u =>
      obtain ⟨v6, σ6, H6, S6, r6, q6⟩ := hsp
      exact ⟨_, _, _, S6.unsuite ok, r6, q6⟩
  · cases f with
    | next =>
      obtain ⟨σ', H', J', q⟩ := hsp
      exact wpAny_execs_nil ⟨σ', H', J'.ofTry ok, q⟩
    | brk =>
      obtain ⟨σ', H', J', q⟩ := hsp
      exact ⟨σ', H', J'.ofTry ok, q⟩
    | cont =>
      obtain ⟨σ', H', J', q⟩ := hsp
      exact ⟨σ', H', J'.ofTry ok, q⟩
    | ret u =>
      obtain ⟨v, σ', H', J', r, q⟩ := hsp
      exact ⟨v, σ', H', J'.ofTry ok, r, q⟩
end

def keepE (io : List Nat) (env : En) : En := env.mapIdx fun i s => if i ∈ io then (match s with
  | some (d, 0) => some (d, 0)
  | _ => none) else none
theorem keepE_at {io : List Nat} {env : En} {i : Nat} {d : D} {k : Nat} (h : (keepE io env)[i]? = some (some (d, k))) : i ∈ io ∧ env[i]? = some (some (d, 0)) ∧ k = 0 := by
  unfold keepE at h
  rw [List.getElem?_mapIdx] at h
  cases e : env[i]? with
  | none => rw [e] at h; cases h
  | some s =>
    rw [e] at h
    have h := Option.some.inj h
    split at h
    · rename_i hi
      simp only at h
      split at h
      · cases h; exact ⟨hi, rfl, rfl⟩
      · cases h
    · cases h
abbrev tryCt (Γ : Ct) (pn : List (Addr × Obj)) (xe : Value → Shared → Prop) (W : WX) : Ct := ⟨Γ.X.tr pn xe, Γ.C, W, Γ.io, Γ.σ₀⟩
abbrev suiCt (Γ : Ct) (a : Addr) (oe : Obj) (pn : List (Addr × Obj)) : Ct := ⟨Γ.X.suite a ((a, oe) :: pn), Γ.C, fun _ _ _ _ => False, Γ.io, Γ.σ₀⟩
theorem Good.tryG {Γ : Ct} (G : Good Γ) {pn : List (Addr × Obj)} {xe : Value → Shared → Prop} {W : WX} (tk : Takes (Γ.X.tr pn xe) W) : Good (tryCt Γ pn xe W) := ⟨G.hK, G.nd, G.calm, tk⟩
def SR.noX (r : SR) : SR := match r with
  | .ex _ => .no
  | r => r
def tryS (io : List Nat) (c : Nat) (f h : En → SR) : En → SR := fun env => match f env with
  | .ex (.mk c' _) => if c' = c then (h (keepE io env)).noX else .no
  | r => r
section
variable {Γ : Ct} {body : List Stmt} {pos : Pos} {f g : En → SR}
theorem es_try {x : Str} {c : Nat} {a₀ : Addr} {b₀ : Stmt} {suite : List Stmt} {np pos' : Pos} {hds : List ExceptHandler} (G : Good Γ) (hs : Γ.X.stack = Γ.X.env :: Γ.X.outer) (hf : Γ.X.env.frame = some Γ.X.env.locals) (hio : Γ.io ≠ [])
    (hb : ∀ W pn xe, Takes (Γ.X.tr pn xe) W → PassesOwn (model Γ.X.prog Γ.X.w) Γ.X.A Γ.X.env xe → EvB (tryCt Γ pn xe W) body f)
    (hg : Gl Γ.X x) (hm : Γ.X.mg x = some (.ref a₀)) (hn : Γ.C.ca c = some a₀) (hx : PySem.W.exmOne Γ.X.K (.ref a₀) (.ref a₀) = some true) (hsu : ∀ a oe pn, EvB (suiCt Γ a oe pn) (b₀ :: suite) g) (hdb : (x == ("__debug__" : Str)) = false := by decide) :
    EvS Γ (.Try body (.ExceptHandler (some (.Name x np)) none (b₀ :: suite) pos' :: hds) [] [] pos) (tryS Γ.io c f g) := by
  have nm : Names Γ.X x (.ref a₀) := ⟨hg, hdb, .inl hm⟩
  refine ⟨_, ps_try_fst (tb := fun W D σ H => ∀ pn xe tk po, Classical.choose (hb W pn xe tk po) D σ H) (ts := fun a _ _ D σ H => ∀ oe pn, Classical.choose (hsu a oe pn) D σ H) hs hf (fun W pn xe tk po => ⟨fun pins s σ H D I h => (Classical.choose_spec (hb W pn xe tk po)).1.run pins s σ H D I (h pn xe tk po)⟩) nm
    (fun a oe cls d pn _ _ => ⟨fun pins s σ H D I h => (Classical.choose_spec (hsu a oe pn)).1.run pins s σ H D I (h oe pn)⟩), fun σ H Z env φ S Dn P pn xe tk po => ?_⟩
  refine (Classical.choose_spec (hb _ pn xe tk po)).2 σ H Z env φ S Dn ?_
  unfold tryS at P
  cases e : f env with
  | nx env1 => rw [e] at P; exact P
  | bk env1 => rw [e] at P; exact P
  | ct env1 => rw [e] at P; exact P
  | ret p env1 => rw [e] at P; exact P
  | no => rw [e] at P; exact P
  | ex x =>
    obtain ⟨c', fs⟩ := x
    rw [e] at P
    simp only at P
    by_cases hcc : c' = c
    · rw [if_pos hcc] at P
      subst hcc
      intro σ' k1 k2 cls dx H' Z' ev zh xr
      obtain ⟨a1, h1, rfl, _⟩ := xr
      have h1 : Γ.C.ca c' = some a1 := h1
      rw [hn] at h1; cases h1
      refine ⟨hx, fun a ha oe pn2 => ?_⟩
      have S' : SttC (suiCt Γ a oe pn2) Z' σ' H' (keepE Γ.io env) (fun _ _ => False) :=
        { len := by
            have l1 := S.l0 hio
            have l2 : σ'.length = Γ.σ₀.length := k2 hio
            have l3 := S.len
            show σ'.length = (keepE Γ.io env).length
            unfold keepE
            rw [List.length_mapIdx]
            omega
          slot := fun i d k h => by
            obtain ⟨hi, h0, rfl⟩ := keepE_at h
            obtain ⟨v, hv, o⟩ := S.slot i d 0 h0
            refine ⟨v, by rw [k1 i hi, ← S.io i hi]; exact hv, o.1.ext (S.ext ev), fun _ z => z⟩
          off := fun _ _ _ z => z
          dj := fun _ _ _ z => z.elim
          nz := fun _ _ z => z.elim
          zh := zh
          l0 := k2
          io := k1 }
      refine (Classical.choose_spec (hsu a oe pn2)).2 σ' H' Z' _ _ S' Dn ?_
      have P2 := PostS.mono P (ev.sub (F2 := Tot fun (_ : Nat) (_ : Addr) => False) fun a ⟨_, z⟩ => z.elim)
      cases eg : g (keepE Γ.io env) with
      | nx env1 => rw [eg] at P2; exact P2
      | bk env1 => rw [eg] at P2; exact P2
      | ct env1 => rw [eg] at P2; exact P2
      | ret p env1 => rw [eg] at P2; exact P2
      | no => rw [eg] at P2; exact P2
      | ex y => rw [eg] at P2; exact P2.elim
    · rw [if_neg hcc] at P; exact P.elim
end
end Pv
end

section
set_option Elab.async false
set_option linter.all false
set_option maxRecDepth 100000
set_option maxHeartbeats 4000000
namespace Pv
open PySem PySem.Spec PyProof.Rows L2
open PySem.Calls (call_function_entry)

section
variable {C : RC} {Z : Fp} {H : Hp}
end
section
variable {Γ : Ct} {e a b c : Expr} {fa fb fc : En → R Opd} {pos p q : Pos} {x : Str}
end
end Pv
end

section
set_option Elab.async false
set_option linter.all false
set_option maxRecDepth 100000
set_option maxHeartbeats 4000000
namespace Pv
open PySem PySem.Spec PyProof.Rows L2

structure DA (K : PySem.W.Frag) (mg : Str → Option Value) (x : Str) (st : Stmt) (ps : List Str) where
  f : Addr
  fd : FuncData
  F : Fun K x x st f fd
  m : mg x = some (.ref f)
  b : Binds K fd ps []
def DA.of {K : PySem.W.Frag} {h : Heap} {mg : Str → Option Value} (X : K.In h) (G : h.Ns mainGlobals mg) {x : Str} {st : Stmt} {ps : List Str} {f : Addr} {oc : Value} {od an : Option Addr} {sl : Array (Option Value)} {kV dc pm cd ct : Value}
    (a : PySem.W.nsIn K mainGlobals x = some (some (.ref f))) (l : K.lookup f = some ⟨oc, od, .func (PySem.W.fnOf x x (defArgs st) (defBody st) (defScope st) .none kV dc pm an cd ct), sl⟩) (c : PySem.W.codeIn K cd x = true) (k : PySem.W.keepIn K (.ref f) = true)
    (hb : ∀ (kV doc pm : Value) (an : Option Addr) (cdv ct : Value) (us : List Value), us.length = ps.length → bindArgs (PySem.W.fnOf x x (defArgs st) (defBody st) (defScope st) .none kV doc pm an cdv ct) ⟨us, []⟩ = pure (ps.zip us)) : DA K mg x st ps :=
  ⟨f, _, fun_mk l c k, PySem.W.mg_of X G a, (fun_mk l c k).binds hb⟩
structure XA (K : PySem.W.Frag) (mg : Str → Option Value) (x : Str) where
  a : Addr
  m : mg x = some (.ref a)
  k : PySem.W.keepIn K (.ref a) = true
  q : PySem.W.excIn K a [.type "ValueError", .type "Exception", .type "BaseException", .type "object"] "ValueError.__new__" = true
  s : PySem.W.subIn K (.ref a) (.type "BaseException") = some true
  t : PySem.W.typeIn K (.ref a) = some (.type "type")
  i : PySem.W.isClsIn K a = true
  f : PySem.W.subIn K (.ref a) (.ref a) = some true
theorem XA.e {K : PySem.W.Frag} {mg : Str → Option Value} {x : Str} (A : XA K mg x) : PySem.W.exmOne K (.ref A.a) (.ref A.a) = some true := by
  have h1 := A.s
  have h2 := A.i
  have h3 := A.t
  have h4 := A.f
  have e1 : (PySem.W.subIn K (.ref A.a) (.type "BaseException") == some true) = true := by rw [h1]; rfl
  have e2 : ((PySem.W.clsIn K A.a).isSome && PySem.W.typeIn K (.ref A.a) == some (.type "type")) = true := by
    have h2' : (PySem.W.clsIn K A.a).isSome = true := h2
    rw [h2', h3]; rfl
  show (if (PySem.W.subIn K (.ref A.a) (.type "BaseException") == some true) = true then (if ((PySem.W.clsIn K A.a).isSome && PySem.W.typeIn K (.ref A.a) == some (.type "type")) = true then PySem.W.subIn K (.ref A.a) (.ref A.a) else none) else none) = some true
  rw [if_pos e1, if_pos e2]
  exact h4
theorem XA.excC {K : PySem.W.Frag} {mg : Str → Option Value} {x : Str} (A : XA K mg x) {Γ : Ct} {c : Nat} (hn : Γ.C.ca c = some A.a) (hm : Γ.X.mg = mg := by rfl) (hK : Γ.X.K = K := by rfl) : ExcC Γ x c A.a := by
  subst hm hK
  exact ⟨A.m, A.k, A.q, raises_own A.s A.t, hn⟩
theorem fnV_no {P : Program} {w : World} {K : PySem.W.Frag} {mg : Str → Option Value} {base : Heap} {C : RC} {k : Nat} {f : Addr} {fd : FuncData} {ps : List Str} {io : Bool} : FnV P w K mg base C k f fd ps io (fun _ _ => .no) :=
  ⟨fun _ _ _ _ h => h.1, fun A outer s H args us vs Q E _ _ _ _ h => by
    obtain ⟨_, h⟩ := h
    cases io with
    | false =>
      obtain ⟨_, _, _, _, q⟩ := h
      exact q.elim
    | true =>
      cases vs with
      | nil => exact h.elim
      | cons v vs =>
        obtain ⟨_, _, _, _, _, _, _, _, q⟩ := h
        exact q.elim⟩
def lawSp (K : PySem.W.Frag) (F : Sl → List D → FR) : Sp := fun vs H Q E => vs.length = 1 ∧ ∀ C : RC, C.K = K → spF C 1 false F vs H Q E
theorem lawSp_of {P : Program} {w : World} {K : PySem.W.Frag} {mg : Str → Option Value} {base : Heap} {C : RC} {k : Nat} {f : Addr} {fd : FuncData} {x : Str} {F : Sl → List D → FR} (hC : C.K = K) (h : FnV P w K mg base C k f fd [x] false F) : FnOk P w K mg base (L2.CX P w) k f fd [x] (lawSp K F) :=
  FnOk.imp h fun vs H Q E q => q.2 C hC
theorem lawSp_in {K : PySem.W.Frag} {F : Sl → List D → FR} {H : Hp} {a : Addr} {ns : List Int} (hO : L2.Only H) (hS : SqL K H a (ns.map V.int)) (hF : ∃ fin, F none [.scr ns] = .ok (.bl true, 0) fin) : lawSp K F [.ref a] H (fun v _ => v = .bl true) fun _ _ _ => False := by
  refine ⟨rfl, fun C hC => ⟨rfl, [.scr ns], fun _ => False, .cons (.scr ?_) .nil, fun _ z => z.elim, ?_⟩⟩
  · rw [← hC] at hS
    rcases hS with (hS | ⟨o, hS⟩) | hS
    · rcases hO a with e | ⟨o, xs, e⟩
      · rw [hS] at e; cases e
      · rw [hS] at e; cases e
    · exact .inl ⟨o, hS⟩
    · exact .inr (.inr hS)
  · obtain ⟨fin, e⟩ := hF
    rw [e]
    intro v H' Z' A o _ _ _
    have := o.1
    cases this
    rfl
theorem cx_no {P : Program} {w : World} {H : Hp} {s s' : Shared} {e : Value} (h : L2.CX P w [] H s (fun _ _ _ => False) e s') : False := by
  obtain ⟨_, _, _, _, _, _, _, _, _, _, _, _, h⟩ := h
  exact h
section
variable {Γ : Ct} {scope : Scope} {s : Shared} {H : Hp} {c : Addr} {cl : List (Str × Addr)} {fp : List Addr}
theorem blkG {tg : Expr} {ws : List Nat} {g : D → En → Option En} (G : Good Γ) (h : Good (blkCt Γ scope s H c cl fp) → EvG (blkCt Γ scope s H c cl fp) tg ws g) : EvG (blkCt Γ scope s H c cl fp) tg ws g := h G.blk
theorem blkT {ifs : List Expr} {f : En → R Bool} (G : Good Γ) (h : Good (blkCt Γ scope s H c cl fp) → EvPT (blkCt Γ scope s H c cl fp) ifs f) : EvPT (blkCt Γ scope s H c cl fp) ifs f := h G.blk
theorem blkE {e : Expr} {f : En → R (D × Nat)} (G : Good Γ) (h : Good (blkCt Γ scope s H c cl fp) → EvE (blkCt Γ scope s H c cl fp) e f) : EvE (blkCt Γ scope s H c cl fp) e f := h G.blk
end
end Pv
end

section
set_option Elab.async false
set_option linter.all false
set_option maxRecDepth 100000
set_option maxHeartbeats 4000000
namespace Pv
open PySem PySem.Spec PyProof.Rows L2

theorem at_0 {α : Type} {x : α} {xs : List α} : atI (x :: xs) 0 = some x := by simp [atI, ixN]
theorem at_1 {α : Type} {x y : α} {xs : List α} : atI (x :: y :: xs) 1 = some y := by
  have h : (1 : Int) < (xs.length : Int) + 1 + 1 := by omega
  simp [atI, ixN, h]
theorem at_nat {α : Type} {xs : List α} {k : Nat} (h : k < xs.length) : atI xs (k : Int) = some xs[k] := by
  have h1 : (0 : Int) ≤ (k : Int) := by omega
  have h2 : (k : Int) < (xs.length : Int) := by omega
  simp [atI, ixN, h1, h2, h]
@[simp] theorem le_lim {n : Nat} (h : n ≤ 100000) : n ≤ lim := Nat.le_trans h (by decide)
@[simp] theorem lt_lim {n : Nat} (h : n < 100000) : n < lim := Nat.lt_of_lt_of_le h (by decide)
theorem seqS_nx {f g : En → SR} {env e : En} (h : f env = .nx e) : seqS f g env = g e := by
  unfold seqS; rw [h]
theorem seqS_ret {f g : En → SR} {env e : En} {p : D × Nat} (h : f env = .ret p e) : seqS f g env = .ret p e := by
  unfold seqS; rw [h]
theorem fnF_ret {n : Nat} {g : En → SR} {ds : List D} {p : D × Nat} {e : En} (h : g (en0 n none ds) = .ret p e) : fnF n false g none ds = .ok p none := by
  unfold fnF; rw [h]; rfl
theorem fnF_nx {n : Nat} {g : En → SR} {ds : List D} {e : En} (h : g (en0 n none ds) = .nx e) : fnF n false g none ds = .ok (.non, 0) none := by
  unfold fnF; rw [h]; rfl
theorem fnF_ex {n : Nat} {g : En → SR} {ds : List D} {x : Xn} (h : g (en0 n none ds) = .ex x) : fnF n false g none ds = .ex x := by
  unfold fnF; rw [h]
theorem iteS_t {c : En → R Bool} {f g : En → SR} {env e : En} (h : c env = .ok true e) : iteS c f g env = f e := by
  unfold iteS; rw [h]; rfl
theorem iteS_f {c : En → R Bool} {f g : En → SR} {env e : En} (h : c env = .ok false e) : iteS c f g env = g e := by
  unfold iteS; rw [h]; rfl
theorem rgD_ok {l n : Nat} (hl : l ≤ 16000000) (hn : n ≤ 16000000) : rgD l n = some ((List.range (n - l)).map fun k : Nat => .int (l + k : Nat)) := by
  have h1 : (n : Int) < 4611686018427387904 := by omega
  have h2 : -4611686018427387904 ≤ (n : Int) := by omega
  have h3 : (l : Int) < 4611686018427387904 := by omega
  have h4 : -4611686018427387904 ≤ (l : Int) := by omega
  have e : ((n : Int) - (l : Int)).toNat = n - l := by omega
  unfold rgD
  have hb : rgB l n = true := by
    unfold rgB
    rw [Bool.and_eq_true]
    exact ⟨Nat.ble_eq_true_of_le (by omega), Nat.ble_eq_true_of_le (by omega)⟩
  rw [if_pos hb, e]
  simp
theorem rg2D_ok {l n : Nat} (hl : l ≤ 16000000) (hn : n ≤ 16000000) : rg2D [.int l, .int n] = some ((List.range (n - l)).map fun k : Nat => .int (l + k : Nat)) := by
  unfold rg2D
  exact rgD_ok hl hn
theorem rg1D_ok {n : Nat} (hn : n ≤ 16000000) : rg1D [.int n] = some ((List.range n).map fun k : Nat => .int k) := by
  have h := rgD_ok (l := 0) (Nat.zero_le _) hn
  simp only [Nat.zero_add, Nat.sub_zero] at h
  exact h
theorem loopS_map {α β : Type} {g : D → En → Option En} {body : En → SR} (f : β → D) (T : α → β → α) (J : α → En) (P : α → Prop) : ∀ (bs : List β) (a : α), P a →
    (∀ b ∈ bs, ∀ a, P a → ∃ e1, g (f b) (J a) = some e1 ∧ body e1 = .nx (J (T a b)) ∧ P (T a b)) → loopS g body (bs.map f) (J a) = .nx (J (bs.foldl T a)) ∧ P (bs.foldl T a)
  | [], a, hP, _ => ⟨rfl, hP⟩
  | b :: bs, a, hP, h => by
    obtain ⟨e1, h1, h2, h3⟩ := h b List.mem_cons_self a hP
    have ih := loopS_map (g := g) (body := body) f T J P bs (T a b) h3 fun b' hb => h b' (List.mem_cons_of_mem _ hb)
    rw [List.map_cons, List.foldl_cons]
    refine ⟨?_, ih.2⟩
    unfold loopS
    rw [h1]
    simp only [h2]
    exact ih.1
theorem forS_ok {fi : En → R (List D)} {g : D → En → Option En} {body : En → SR} {env env1 : En} {ds : List D} (h : fi env = .ok ds env1) : forS fi g body env = loopS g body ds env1 := by
  unfold forS
  rw [h]
  rfl
@[simp] theorem eqB_int (i j : Int) : eqB (.int i) (.int j) = some (decide (i = j)) := by
  simp [eqB, D.py, SeqAt.shaped, PyData.eqv, PyData.canLay0, PyData.depth]
  first | rfl | (cases i <;> cases j <;> rfl)
@[simp] theorem eqB_bl (i j : Bool) : eqB (.bl i) (.bl j) = some (decide (i = j)) := by
  simp [eqB, D.py, SeqAt.shaped, PyData.eqv, PyData.canLay0, PyData.depth]
  first | rfl | (cases i <;> cases j <;> rfl)
@[simp] theorem eqD_int (i j : Int) : eqD (.int i) (.int j) = some (.bl (decide (i = j)), 0) := by simp [eqD]
@[simp] theorem eqD_bl (i j : Bool) : eqD (.bl i) (.bl j) = some (.bl (decide (i = j)), 0) := by simp [eqD]
@[simp] theorem neD_int (i j : Int) : neD (.int i) (.int j) = some (.bl (!decide (i = j)), 0) := by simp [neD]
end Pv
end

section
set_option Elab.async false
set_option linter.all false
set_option maxRecDepth 100000
set_option maxHeartbeats 4000000
namespace Pv
open PySem PySem.Spec PyProof.Rows L2

def stB : En → SR := (seqS
  (setS 1 ((op2 addD (oOfV ((vOfE (op2 mulD (nmO 1) (oOfV (kI 1000003)))))) (oOfV ((vOfE (op1 absD (nmO 3)))))))) (setS 2 ((op2 modD (oOfV ((vOfE (op1 intD (oOfV ((vOfE (op2 addD (oOfV ((vOfE (op2 mulD (nmO 2) (oOfV (kI 48271)))))) (nmO 3))))))))) (oOfV (kI 2147483647))))))
def lawState : Sl → List D → FR := fnF 4 false (seqS (setS 1 ((eOfV (kI 0)))) (seqS (setS 2 ((eOfV (kI 1)))) (seqS (forS (seqI' ((vOfE (opS (nmO 0) pNone (pSome (kI 63)))))) (nameG 3) stB) (retS ((lstE (aCons ((nmV 1)) (aCons ((nmV 2)) aNil))))))))
def lawTake : Sl → List D → FR := fnF 3 true (seqS
  (iteS (tst (op2 (cmpD fun i j => decide (j < i)) (oOfV ((vOfE (op2 idxD (nmO 0) (oOfV (kI 0)))))) (oOfV (kI 0)))) (seqS
  (setS 2 ((op2 modD (oOfV ((vOfE (op1 intD (oOfV ((vOfE (op2 idxD (nmO 0) (oOfV (kI 0)))))))))) (nmO 1)))) (seqS
  (sItS 0 ((vOfE (op2 fdivD (oOfV ((vOfE (op2 idxD (nmO 0) (oOfV (kI 0)))))) (nmO 1)))) (kI 0)) (retM 2))) passS) (seqS
  (sItS 0 ((vOfE (op2 modD (oOfV ((vOfE (op1 intD (oOfV ((vOfE (op2 addD (oOfV ((vOfE (op2 mulD (oOfV ((vOfE (op2 idxD (nmO 0) (oOfV (kI 1)))))) (oOfV (kI 48271)))))) (oOfV (kI 11)))))))))) (oOfV (kI 2147483647))))) (kI 1)) (retS ((op2 modD (oOfV ((vOfE (op1 intD (oOfV ((vOfE (op2 fdivD (oOfV ((vOfE (op2 idxD (nmO 0) (oOfV (kI 1)))))) (oOfV (kI 7)))))))))) (nmO 1))))))
theorem sml1 : sml 1000003 = true := by decide
theorem sml2 : sml 48271 = true := by decide
theorem mul1 (a : Int) : mulD (.int a) (.int 1000003) = some (.int (a * 1000003), 0) := by simp [mulD, mulOk, sml1]
theorem mul2 (a : Int) : mulD (.int a) (.int 48271) = some (.int (a * 48271), 0) := by simp [mulD, mulOk, sml2]
theorem state_step (s z : Sl) (a b c : Int) : stB [s, some (.int a, 0), some (.int b, 0), some (.int c, 0)] = .nx [s, some (.int (a * 1000003 + if c < 0 then -c else c), 0), some (.int ((b * 48271 + c).fmod 2147483647), 0), some (.int c, 0)] := by
  unfold stB
  refine (seqS_nx (show setS 1 _ _ = .nx [s, some (.int (a * 1000003 + if c < 0 then -c else c), 0), some (.int b, 0), some (.int c, 0)] by simp [-List.map_map, fnF, en0, seqS, passS, noS, exprS, retS, retN, retM, putE, setS, iteS, vOfE, eOfV, oOfV, kI, kB, kS, kN, nmV, nmO, op1, op2, opC, tst, tru, truD, notT, andT, orT, blV, vbl, andV, orV, notV, iteE, aNil, aCons, lNil, lCons, tupE, lstE, dicE, Opd.get, callF, frR, callI, callL, own1, addD, subD, negD, cmpD, lenD, intD, tupD, lisD, absD, isiD, tyD, min2D, max2D, Pv.R.of, raiseS, asgS, nameG, nilG, consG, tupG, isD, nisD, isNB, opS, pNone, pSome, seqI', itsD, sItS, putD, wipeE, backE, mul1])).trans ?_
  simp [-List.map_map, fnF, en0, seqS, passS, noS, exprS, retS, retN, retM, putE, setS, iteS, vOfE, eOfV, oOfV, kI, kB, kS, kN, nmV, nmO, op1, op2, opC, tst, tru, truD, notT, andT, orT, blV, vbl, andV, orV, notV, iteE, aNil, aCons, lNil, lCons, tupE, lstE, dicE, Opd.get, callF, frR, callI, callL, own1, addD, subD, negD, cmpD, lenD, intD, tupD, lisD, absD, isiD, tyD, min2D, max2D, Pv.R.of, raiseS, asgS, nameG, nilG, consG, tupG, isD, nisD, isNB, opS, pNone, pSome, seqI', itsD, sItS, putD, wipeE, backE, mul2, modD]
theorem lawState_ok (ns : List Int) : ∃ a b : Int, lawState none [.scr ns] = .ok (.lst [.int a, .int b], 1) none := by
  have hl := loopS_map (g := nameG 3) (body := stB) D.int (fun (q : (Int × Int) × Sl) (c : Int) => ((q.1.1 * 1000003 + (if c < 0 then -c else c), (q.1.2 * 48271 + c).fmod 2147483647), some (.int c, 0)))
    (fun q => [some (.scr ns, 0), some (.int q.1.1, 0), some (.int q.1.2, 0), q.2]) (fun _ => True) (cutD ns none (some 63)) ((0, 1), none) trivial (fun c _ q _ => ⟨[some (.scr ns, 0), some (.int q.1.1, 0), some (.int q.1.2, 0), some (.int c, 0)], by simp [-List.map_map, fnF, en0, seqS, passS, noS, exprS, retS, retN, retM, putE, setS, iteS, vOfE, eOfV, oOfV, kI, kB, kS, kN, nmV, nmO, op1, op2, opC, tst, tru, truD, notT, andT, orT, blV, vbl, andV, orV, notV, iteE, aNil, aCons, lNil, lCons, tupE, lstE, dicE, Opd.get, callF, frR, callI, callL, own1, addD, subD, negD, cmpD, lenD, intD, tupD, lisD, absD, isiD, tyD, min2D, max2D, Pv.R.of, raiseS, asgS, nameG, nilG, consG, tupG, isD, nisD, isNB, opS, pNone, pSome, seqI', itsD, sItS, putD, wipeE, backE], state_step _ none _ _ _, trivial⟩)
  have hf : forS (seqI' ((vOfE (opS (nmO 0) pNone (pSome (kI 63)))))) (nameG 3) stB [some (.scr ns, 0), some (.int 0, 0), some (.int 1, 0), none] = loopS (nameG 3) stB ((cutD ns none (some 63)).map D.int) [some (.scr ns, 0), some (.int 0, 0), some (.int 1, 0), none] := forS_ok (by simp [-List.map_map, fnF, en0, seqS, passS, noS, exprS, retS, retN, retM, putE, setS, iteS, vOfE, eOfV, oOfV, kI, kB, kS, kN, nmV, nmO, op1, op2, opC, tst, tru, truD, notT, andT, orT, blV, vbl, andV, orV, notV, iteE, aNil, aCons, lNil, lCons, tupE, lstE, dicE, Opd.get, callF, frR, callI, callL, own1, addD, subD, negD, cmpD, lenD, intD, tupD, lisD, absD, isiD, tyD, min2D, max2D, Pv.R.of, raiseS, asgS, nameG, nilG, consG, tupG, isD, nisD, isNB, opS, pNone, pSome, seqI', itsD, sItS, putD, wipeE, backE, slD])
  have h2 := hf.trans hl.1
  generalize hq : List.foldl (fun (q : (Int × Int) × Sl) (c : Int) => ((q.1.1 * 1000003 + (if c < 0 then -c else c), (q.1.2 * 48271 + c).fmod 2147483647), some (D.int c, 0))) ((0, 1), none) (cutD ns none (some 63)) = q at h2
  refine ⟨q.1.1, q.1.2, fnF_ret (e := [some (.scr ns, 0), some (.int q.1.1, 0), some (.int q.1.2, 0), q.2]) ((seqS_nx (show setS 1 _ (en0 4 none [.scr ns]) = .nx [some (.scr ns, 0), some (.int 0, 0), none, none] by simp [-List.map_map, fnF, en0, seqS, passS, noS, exprS, retS, retN, retM, putE, setS, iteS, vOfE, eOfV, oOfV, kI, kB, kS, kN, nmV, nmO, op1, op2, opC, tst, tru, truD, notT, andT, orT, blV, vbl, andV, orV, notV, iteE, aNil, aCons, lNil, lCons, tupE, lstE, dicE, Opd.get, callF, frR, callI, callL, own1, addD, subD, negD, cmpD, lenD, intD, tupD, lisD, absD, isiD, tyD, min2D, max2D, Pv.R.of, raiseS, asgS, nameG, nilG, consG, tupG, isD, nisD, isNB, opS, pNone, pSome, seqI', itsD, sItS, putD, wipeE, backE])).trans ((seqS_nx (show setS 2 _ _ = .nx [some (.scr ns, 0), some (.int 0, 0), some (.int 1, 0), none] by simp [-List.map_map, fnF, en0, seqS, passS, noS, exprS, retS, retN, retM, putE, setS, iteS, vOfE, eOfV, oOfV, kI, kB, kS, kN, nmV, nmO, op1, op2, opC, tst, tru, truD, notT, andT, orT, blV, vbl, andV, orV, notV, iteE, aNil, aCons, lNil, lCons, tupE, lstE, dicE, Opd.get, callF, frR, callI, callL, own1, addD, subD, negD, cmpD, lenD, intD, tupD, lisD, absD, isiD, tyD, min2D, max2D, Pv.R.of, raiseS, asgS, nameG, nilG, consG, tupG, isD, nisD, isNB, opS, pNone, pSome, seqI', itsD, sItS, putD, wipeE, backE])).trans ((seqS_nx h2).trans (by simp [-List.map_map, fnF, en0, seqS, passS, noS, exprS, retS, retN, retM, putE, setS, iteS, vOfE, eOfV, oOfV, kI, kB, kS, kN, nmV, nmO, op1, op2, opC, tst, tru, truD, notT, andT, orT, blV, vbl, andV, orV, notV, iteE, aNil, aCons, lNil, lCons, tupE, lstE, dicE, Opd.get, callF, frR, callI, callL, own1, addD, subD, negD, cmpD, lenD, intD, tupD, lisD, absD, isiD, tyD, min2D, max2D, Pv.R.of, raiseS, asgS, nameG, nilG, consG, tupG, isD, nisD, isNB, opS, pNone, pSome, seqI', itsD, sItS, putD, wipeE, backE]))))⟩
theorem log7 : Nat.log2 7 < 9000 := by decide
end Pv
end

section
set_option Elab.async false
set_option linter.all false
set_option maxRecDepth 100000
set_option maxHeartbeats 4000000
namespace Pv
open PySem PySem.Spec PyProof.Rows L2
section
variable {Γ : Ct} {x : Str} {p pos apos cpos sp : Pos} {e a b : Expr} {es : List Expr}
end
end Pv
end

section
set_option Elab.async false
set_option linter.all false
set_option maxRecDepth 100000
set_option maxHeartbeats 4000000
namespace Pv
open PySem PySem.Spec PyProof.Rows L2

theorem tuple_mul1 (l : Addr) (items : Array Value) (n : Nat) (dd : Option Addr) (sl : Array (Option Value)) (x : Int) (u : Tok) (c0 : (decide (x < -(2 ^ 63)) || decide (x ≥ 2 ^ 63)) = false) (c1 : (items.isEmpty || x == 1) = true) :
    Meets (Builtin.«tuple.__mul__» ⟨[.ref l, .int x u], []⟩) (fun _ R s => s.heap.get? l = some { cls := .type "tuple", dict := dd, data := .seq items n, slots := sl } ∧
      R (.ok (.ret (Value.ref l))) s) :=
  .of_wp fun prog w A R s h => by
    obtain ⟨hp, g, d, tk, os⟩ := s
    obtain ⟨hl, h⟩ := h
    have f1 := AutoSeq1.idx_int
    have hT : Shared.TypeIs (⟨hp, g, d, tk, os⟩ : Shared) (.ref l) "tuple" := ⟨_, hl, rfl⟩
    wp_walk using wpAny_loadPart' hl, wpAny_typeOf hT
    repeat (first
      | (refine wpAny_ite_false (decide_eq_false (by rw [c0]; exact Bool.false_ne_true)) ?_; wp_walk using wpAny_loadPart' hl, wpAny_typeOf hT)
      | (refine wpAny_ite_true (decide_eq_true c1) ?_; wp_walk using wpAny_loadPart' hl, wpAny_typeOf hT))
    exact ⟨_, rfl, h⟩
theorem tuple_mul0 (l : Addr) (items : Array Value) (n : Nat) (dd : Option Addr) (sl : Array (Option Value)) (x : Int) (u : Tok) (c0 : (decide (x < -(2 ^ 63)) || decide (x ≥ 2 ^ 63)) = false) (c1 : (items.isEmpty || x == 1) = false) (c2 : (decide (x ≤ 0) || items.isEmpty) = true) :
    Meets (Builtin.«tuple.__mul__» ⟨[.ref l, .int x u], []⟩) (fun _ R s => s.heap.get? l = some { cls := .type "tuple", dict := dd, data := .seq items n, slots := sl } ∧
      R (.ok (.ret (Value.ref s.heap.objs.size))) { s with heap := s.heap.push { cls := Value.type "tuple", data := Data.seq #[] }, toks := s.toks }) :=
  .of_wp fun prog w A R s h => by
    obtain ⟨hp, g, d, tk, os⟩ := s
    obtain ⟨hl, h⟩ := h
    have f1 := AutoSeq1.idx_int
    wp_walk using wpAny_loadPart' hl
    repeat (first
      | (refine wpAny_ite_false (decide_eq_false (by rw [c0]; exact Bool.false_ne_true)) ?_; wp_walk using wpAny_loadPart' hl)
      | (refine wpAny_ite_false (decide_eq_false (by rw [c1]; exact Bool.false_ne_true)) ?_; wp_walk using wpAny_loadPart' hl)
      | (refine wpAny_ite_true (decide_eq_true c2) ?_; wp_walk using wpAny_loadPart' hl))
    exact ⟨_, rfl, h⟩
def rRepA (K : PySem.W.Frag) : R2 := fun x y H Q => ∃ l k xs, x = .ref l ∧ y = .int k ∧ SqT K H l xs ∧ -(2 ^ 63) ≤ k ∧ k < 2 ^ 63 ∧ (((xs = [] ∨ k = 1) ∧ Q (.ref l) H) ∨ (xs ≠ [] ∧ k ≤ 0 ∧ ∀ p, H p = none → Q (.ref p) (upd H p (.tup []))) ∨ (xs ≠ [] ∧ 2 ≤ k ∧ k.toNat * xs.length ≤ lim ∧ ∀ p, H p = none → Q (.ref p) (upd H p (.tup (List.replicate k.toNat xs).flatten))))
theorem op_repA {X : Cx} : OpR X (binaryOp .Mult) (rRepA X.K) := by
  intro pins s σ H x y v u Q I rx ry h
  obtain ⟨l, k, xs, rfl, rfl, hT, hk1, hk2, q⟩ := h
  cases rx
  obtain ⟨t, rfl⟩ := ry
  obtain ⟨its, r, ⟨⟨cls, dd, data, sl⟩, ho, hc, n, hd⟩, hs⟩ := I.tuple hT
  simp only at hc hd
  subst hc hd
  have hle : its.length = xs.length := r.length.symm
  have c0 : (decide (k < -(2 ^ 63)) || decide (k ≥ 2 ^ 63)) = false := by
    rw [decide_eq_false (by omega), decide_eq_false (by omega)]; rfl
  have emp : its.toArray.isEmpty = decide (xs = []) := by
    cases xs with
    | nil =>
      cases its with
      | nil => rfl
      | cons a b => simp at hle
    | cons a b =>
      cases its with
      | nil => simp at hle
      | cons c d => rfl
  refine wpAny_binaryOp_repeat_ref (T := "tuple") (U := "int") (by decide) ⟨_, ho, rfl⟩ (fun s' => typeIs_int s' k t) noFill_tuple_mul F.fills_int_mul F.slot_int_rmul repeat_tuple F.slot_int_index.lookup
    (call_meets F.slot_int_rmul (typeIs_int s k t) F.entry_int_rmul (F.args_int_rmul_2 _ _) (int_rmul_tuple k t l its.toArray n dd sl) ⟨ho, rfl, ⟨_, ho, rfl⟩, ?_⟩)
  by_cases h1 : (its.toArray.isEmpty || k == 1) = true
  · have h1' : xs = [] ∨ k = 1 := by
      rw [Bool.or_eq_true, emp, decide_eq_true_eq, beq_iff_eq] at h1
      exact h1
    refine call_meets F.slot_tuple_mul ⟨_, ho, rfl⟩ F.entry_tuple_mul (F.args_tuple_mul_2 _ _) (tuple_mul1 l its.toArray n dd sl k t c0 h1) ⟨ho, ?_⟩
    rcases q with ⟨_, q⟩ | ⟨hn, hk, _⟩ | ⟨hn, hk, _⟩
    · exact ⟨.ref l, H, I, rfl, q⟩
    · exact absurd h1' (by rintro (h | h); exact hn h; omega)
    · exact absurd h1' (by rintro (h | h); exact hn h; omega)
  · have h1b : (its.toArray.isEmpty || k == 1) = false := by simpa using h1
    have h1' : xs ≠ [] ∧ k ≠ 1 := by
      rw [Bool.or_eq_false_iff, emp, decide_eq_false_iff_not, beq_eq_false_iff_ne] at h1b
      exact h1b
    have hi : its.toArray.isEmpty = false := by rw [emp]; exact decide_eq_false h1'.1
    rcases q with ⟨hh, _⟩ | ⟨_, hk, q⟩ | ⟨_, hk, hz, q⟩
    · exact absurd hh (by rintro (h | h); exact h1'.1 h; exact h1'.2 h)
    · refine call_meets F.slot_tuple_mul ⟨_, ho, rfl⟩ F.entry_tuple_mul (F.args_tuple_mul_2 _ _) (tuple_mul0 l its.toArray n dd sl k t c0 h1b (by rw [hi, Bool.or_false]; exact decide_eq_true hk)) ⟨ho, ?_⟩
      exact ⟨.ref s.heap.objs.size, _, I.laid (t' := s.toks) (o := .tup []) (fun b ob q => Heap.get?_push_of_some _ q) (Nat.le_refl _) ⟨by show 0 ≤ sizeLine; exact Nat.zero_le _, [], .nil, ⟨_, Heap.get?_push_size _ rfl, rfl, _, rfl⟩⟩, rfl, q _ (I.hok.fresh (Nat.le_refl _))⟩
    · have hsz0 : its.toArray.size = xs.length := by rw [List.size_toArray, hle]
      have hm2 : ((its.toArray.size : Nat) : Int) * k = ((k.toNat * xs.length : Nat) : Int) := by
        rw [hsz0, Int.natCast_mul, Int.toNat_of_nonneg (by omega), Int.mul_comm]
      have hzl : k.toNat * xs.length ≤ sizeLine := lim_le hz
      have hz16 : k.toNat * xs.length ≤ 16000000 := hz
      have flen : (List.replicate k.toNat its).flatten.length ≤ sizeLine := by
        rw [PyProof.Rows.lm_len_rep_flat, hle]; exact hzl
      have c2 : (decide (k ≤ 0) || its.toArray.isEmpty) = false := by
        rw [hi, Bool.or_false]
        exact decide_eq_false (by omega)
      have c4 : Builtin.Tuple.tupleTooMany (((its.toArray.size : Nat) : Int) * k) = false := by
        unfold Builtin.Tuple.tupleTooMany
        rw [hm2]
        exact decide_eq_false (by omega)
      have c3 : ¬ ((its.toArray.size : Nat) : Int) * k > (2 ^ 63 - 1) / 8 := by
        rw [hm2]; omega
      refine call_meets F.slot_tuple_mul ⟨_, ho, rfl⟩ F.entry_tuple_mul (F.args_tuple_mul_2 _ _) (tuple_mulW l its.toArray n dd sl k t c0 h1b c2 c3 c4 (by rw [size_rep, List.size_toArray]; exact flen)) ⟨ho, ?_⟩
      rw [size_rep]
      refine ⟨.ref s.heap.objs.size, _, I.laid (t' := s.toks) (o := .tup (List.replicate k.toNat xs).flatten) (fun b ob q => Heap.get?_push_of_some _ q) (Nat.le_refl _) ?_, rfl, q _ (I.hok.fresh (Nat.le_refl _))⟩
      exact ⟨by rw [PyProof.Rows.lm_len_rep_flat]; exact hzl, _, r.rep k.toNat, IsTup.new _ _⟩
def repB (k : Int) : Bool := Nat.ble k.natAbs 9223372036854775807
def repD : D → D → Option (D × Nat)
  | .tup xs, .int k => if repB k = true then (if xs.isEmpty = true ∨ k = 1 then some (.tup xs, 0) else if k ≤ 0 then some (.tup [], 0) else if k.toNat * xs.length ≤ lim then some (.tup (List.replicate k.toNat xs).flatten, 0) else none) else none
  | x, y => mulD x y
section
variable {Γ : Ct} {a b : Expr} {fa fb : En → R Opd} {pos : Pos}
theorem shl_rep {C : RC} {Z : Fp} {H : Hp} {us : List V} {ds : List D} (r : ShL C Z H us ds) : ∀ n : Nat, ShL C Z H (List.replicate n us).flatten (List.replicate n ds).flatten
  | 0 => .nil
  | n + 1 => by
    rw [List.replicate_succ, List.replicate_succ, List.flatten_cons, List.flatten_cons]
    exact r.append (shl_rep r n)
theorem does_rep (G : Good Γ) : Does2 Γ repD (fun x y H Q => rMulA Γ.X.K x y H Q ∨ rRepA Γ.X.K x y H Q) := by
  intro σ H Z env φ S x y d e p hx hy hg Q P
  unfold repD at hg
  split at hg
  · rename_i xs k
    split at hg
    · rename_i hb
      have hb' : -(2 ^ 63) ≤ k ∧ k < 2 ^ 63 := by
        have := Nat.le_of_ble_eq_true hb
        omega
      obtain ⟨a, us, rfl, ha, r⟩ := hx.tupI
      have ha' := ha
      rw [G.hK] at ha'
      have hl := r.length
      refine .inr ⟨a, k, us, rfl, hy.intI, ha', hb'.1, hb'.2, ?_⟩
      have e0 : us = [] ↔ xs = [] := by
        rw [← List.length_eq_zero_iff, ← List.length_eq_zero_iff, hl]
      split at hg
      · rename_i h1
        cases hg
        refine .inl ⟨h1.imp (fun h => e0.mpr (List.isEmpty_iff.mp h)) id, ?_⟩
        exact Post.here P S (Ow.sh (.tup ha r))
      · rename_i h1
        have hne : us ≠ [] := fun h => h1 (.inl (List.isEmpty_iff.mpr (e0.mp h)))
        split at hg
        · rename_i h2
          cases hg
          exact .inr (.inl ⟨hne, h2, fun l hl => Post.newT P S hl (Ow.sh (.tup (SqT.of upd_same) .nil))⟩)
        · rename_i h2
          split at hg
          · rename_i h3
            cases hg
            have hk1 : k ≠ 1 := fun h => h1 (.inr h)
            exact .inr (.inr ⟨hne, by omega, by rw [hl]; exact h3, fun l hl => Post.newT P S hl (Ow.sh (.tup (SqT.of upd_same) ((shl_rep r _).ext (Ext.new hl))))⟩)
          · cases hg
    · cases hg
  · exact .inl (does_mul G σ H Z env φ S x y _ _ p hx hy hg Q P)
theorem ev_rep (G : Good Γ) (ha : EvO Γ a fa) (hb : EvO Γ b fb) : EvE Γ (.BinOp a .Mult b pos) (op2 repD fa fb) := ev_op2 (ta := rAddA Γ.X.K) (mk := fun x _ => x) ha hb (fun _ _ p q => pe_op ((op_mulZ.or (op_rep.or op_repT)).or op_repA) p q) (does_rep G)
end
end Pv
end

section
set_option Elab.async false
set_option linter.all false
set_option maxRecDepth 100000
set_option maxHeartbeats 4000000
namespace HT
open PySem PySem.Spec PyProof.Rows L2
section
variable {prog : Program} {w : World} {A : Around} {E : Value → Shared → Prop} {s : Shared}
theorem rev_get (l : List Value) (m : Nat) (h : m < l.length) : l.reverse[m]? = l[l.length - 1 - m]? := by
  rw [List.getElem?_reverse h]
theorem fm_congr {α β : Type} {f g : α → Option β} : ∀ {l : List α}, (∀ x ∈ l, f x = g x) → l.filterMap f = l.filterMap g
  | [], _ => rfl
  | x :: l, h => by
    rw [List.filterMap_cons, List.filterMap_cons, h x List.mem_cons_self, fm_congr fun y hy => h y (List.mem_cons_of_mem _ hy)]
theorem filter_all : ∀ l : List Value, (List.range l.length).filterMap (fun m => l[m]?) = l
  | [] => rfl
  | x :: l => by
    rw [List.length_cons, List.range_succ_eq_map, List.filterMap_cons]
    simp only [List.getElem?_cons_zero, List.filterMap_map]
    have : ((fun m => (x :: l)[m]?) ∘ Nat.succ) = fun m => l[m]? := by
      funext m
      simp
    rw [this, filter_all l]
theorem pick_rev (xs : Array Value) : ((List.range xs.size).filterMap fun (m : Nat) => xs[(((xs.size : Nat) : Int) - 1 + (m : Int) * (-1)).toNat]?).toArray = xs.toList.reverse.toArray := by
  congr 1
  have h1 : (List.range xs.size).filterMap (fun (m : Nat) => xs[(((xs.size : Nat) : Int) - 1 + (m : Int) * (-1)).toNat]?) = (List.range xs.toList.reverse.length).filterMap fun m => xs.toList.reverse[m]? := by
    rw [List.length_reverse, Array.length_toList]
    apply fm_congr
    intro m hm
    have hm := List.mem_range.mp hm
    rw [rev_get _ _ (by simpa using hm), Array.length_toList]
    have e : (((xs.size : Nat) : Int) - 1 + (m : Int) * (-1)).toNat = xs.size - 1 - m := by omega
    rw [e]
    simp
  rw [h1, filter_all]
theorem sliceApplied_rev {sl : Addr} {vl vu vs : Value} {n : Nat} {Q : Int × Int × Nat → Shared → Prop} (hs : s.heap.IsSliceOf sl vl vu vs) (pl : IsPart vl none) (pu : IsPart vu none) (ps : IsPart vs (some (-1)))
    (h : Q ((n : Int) - 1, -1, n) s) : wpAny (model prog w) A (Builtin.Slice.sliceApplied (.ref sl) (pure (n : Int))) Q E s := by
  obtain ⟨os, hos, hcs, hds⟩ := id hs
  unfold Builtin.Slice.sliceApplied Builtin.Slice.sliceFields
  refine wpAny_bind (wpAny_bind (wpAny_field hos hds (x := vl) rfl (wpAny_bind (wpAny_field hos hds (x := vu) rfl (wpAny_bind (wpAny_field hos hds (x := vs) rfl (wpAny_pure ?_)))))))
  refine wpAny_bind (slicePart_ ps ?_)
  show wpAny _ _ (if ((-1 : Int) == 0) = true then _ else _) _ _ s
  rw [if_neg (by decide)]
  refine wpAny_bind (slicePart_ pl (wpAny_bind (slicePart_ pu (wpAny_bind (wpAny_pure ?_)))))
  show wpAny _ _ (match Builtin.Slice.sliceAdjust none none (-1) (n : Int) with | (lo, hi) => pure (lo, (-1 : Int), Builtin.Slice.slicePlaces lo hi (-1))) _ _ s
  have e1 : Builtin.Slice.sliceAdjust none none (-1) (n : Int) = ((n : Int) - 1, -1) := rfl
  have e2 : Builtin.Slice.slicePlaces ((n : Int) - 1) (-1) (-1) = n := by
    unfold Builtin.Slice.slicePlaces
    simp
    try omega
  rw [e1]
  show wpAny _ _ (pure ((n : Int) - 1, (-1 : Int), Builtin.Slice.slicePlaces ((n : Int) - 1) (-1) (-1))) _ _ s
  rw [e2]
  exact wpAny_pure h
theorem getItem_tuple_rev {t sl : Addr} {items : Array Value} {vl vu vs : Value} {Q : Value → Shared → Prop} (ht : IsTup s.heap t items) (hs : s.heap.IsSliceOf sl vl vu vs) (pl : IsPart vl none) (pu : IsPart vu none) (ps : IsPart vs (some (-1)))
    (h : Q (.ref s.heap.objs.size) { s with heap := s.heap.push { cls := .type "tuple", data := .seq items.toList.reverse.toArray } }) (hsz : items.size ≤ sizeLine) : wpAny (model prog w) A (getItem (.ref t) (.ref sl)) Q E s := by
  have htake : sizeOk (.seq items.toList.reverse.toArray) := by
    show items.toList.reverse.toArray.size ≤ sizeLine
    rw [List.size_toArray, List.length_reverse, Array.length_toList]
    exact hsz
  obtain ⟨os, hos, hcs, hds⟩ := id hs
  have hTs : s.TypeIs (.ref sl) "slice" := ⟨os, hos, hcs⟩
  unfold getItem
  try with_reducible refine wpAny_holding ?_
  first | refine wpAny_bind (wpAny_pure ?_) | skip
  refine wpAny_bind (wpAny_sequenceKey ht.typeIs (by decide) ?_)
  refine wpAny_bind (wpAny_callSpecial?_slot (name := Str.ofString "__getitem__") ht.typeIs PyProof.Rows.slot_tuple_getitem
    (wpAny_call_entry PyProof.Rows.slot_tuple_getitem ht.typeIs entry_tuple_getitem ?_ (args_tuple_getitem _ _)))
  show wpAny _ _ (Builtin.Tuple.tupleItemsOf (.ref t) >>= _) _ _ s
  refine wpAny_bind (tupleItemsOf_ ht ?_)
  refine wpAny_bind (wpAny_typeOf hTs ?_)
  rw [if_pos (by decide)]
  refine wpAny_bind (sliceApplied_rev hs pl pu ps ?_)
  have hno : ¬ ((((items.size : Nat) : Int) - 1 == 0 && (-1 : Int) == 1 && items.size == items.size) = true) := by
    intro q
    rw [Bool.and_eq_true, Bool.and_eq_true] at q
    exact absurd q.1.2 (by decide)
  show wpAny _ _ (if (((items.size : Nat) : Int) - 1 == 0 && (-1 : Int) == 1 && items.size == items.size) = true then _ else _) _ _ s
  rw [if_neg hno, pick_rev]
  first
    | exact wpAny_bind (m := Builtin.Tuple.tupleExact _) (wpAny_newObj_type (wpAny_pure ⟨_, rfl, wpAny_pure h⟩) htake)
    | exact wpAny_bind (m := Builtin.Tuple.tupleExact _) (wpAny_newObj_type (wpAny_bind (wpAny_pure (wpAny_pure ⟨_, rfl, wpAny_pure h⟩))) htake)
    | exact wpAny_bind (wpAny_bind (m := Builtin.Tuple.tupleExact _) (wpAny_newObj_type (wpAny_pure (wpAny_pure ⟨_, rfl, wpAny_pure h⟩)) htake))
    | exact wpAny_bind (wpAny_bind (m := Builtin.Tuple.tupleExact _) (wpAny_newObj_type (wpAny_pure ⟨_, rfl, wpAny_pure h⟩) htake))
end
end HT
namespace Pv
open PySem PySem.Spec PyProof.Rows L2
def tRevA (K : PySem.W.Frag) (te : TE) : TE := fun σ H Q => te σ H fun x H1 => (∃ a xs, x = .ref a ∧ SqL K H1 a xs ∧ ∀ p, H1 p = none → Q (.ref p) (upd H1 p (.lst xs.reverse))) ∨ (∃ a xs, x = .ref a ∧ SqT K H1 a xs ∧ ∀ p, H1 p = none → Q (.ref p) (upd H1 p (.tup xs.reverse)))
theorem pe_revA {X : Cx} {e : Expr} {te : TE} {k : Nat} {p1 p2 p3 pos : Pos} (he : PE X e te) : PE X (.Subscript e (.Slice none none (some (.UnaryOp .USub (.Constant (.int 1) k p1) p2)) p3) pos) (tRevA X.K te) := by
  refine ⟨fun pins s σ H Q I h => ?_⟩
  refine Subscript_ (thn (he.run pins s σ H _ I h) fun v s1 ⟨x, H1, I1, r1, q1⟩ => ?_)
  have hst : PO X (some (.UnaryOp .USub (.Constant (.int 1) k p1) p2)) (tPart (tUn (rU fun i => .int (-i)) (tC (.int 1)))) := po_some (pe_un un_neg pe_int)
  refine wpAny_Slice (thn (po_none.run pins s1 σ H1 (fun o H2 => o = none ∧ H2 = H1) I1 ⟨rfl, rfl⟩) fun vl s2 ⟨l, H2, I2, pl, el, e2⟩ => ?_)
  subst el e2
  refine thn (po_none.run pins s2 σ H2 (fun o H3 => o = none ∧ H3 = H2) I2 ⟨rfl, rfl⟩) fun vu s3 ⟨u, H3, I3, pu, eu, e3⟩ => ?_
  subst eu e3
  refine thn (hst.run pins s3 σ H3 (fun o H4 => o = some (-1) ∧ H4 = H3) I3 ⟨1, rfl, -1, rfl, rfl, rfl⟩) fun vs s4 ⟨o, H4, I4, ps, eo, e4⟩ => ?_
  subst eo e4
  have I5 : Inv X pins σ H4 { s4 with heap := s4.heap.push { cls := .type "slice", data := .fields #[vl, vu, vs] } } := I4.kept (t' := s4.toks) fun b ob q => Heap.get?_push_of_some _ q
  rcases q1 with ⟨a, xs, ex, hx, q⟩ | ⟨a, xs, ex, hx, q⟩
  · subst ex
    cases r1
    obtain ⟨its, r, ht, hz⟩ := I5.list hx
    have hlen := r.length
    show wpAny (model X.prog X.w) X.A (subscriptTail e (.Slice none none (some (.UnaryOp .USub (.Constant (.int 1) k p1) p2)) p3) (.ref a) (.ref s4.heap.objs.size)) (EP X pins σ Q) X.xe { s4 with heap := s4.heap.push { cls := .type "slice", data := .fields #[vl, vu, vs] } }
    refine tail_any (ops := [.ref a, .ref s4.heap.objs.size]) ht.isList.typeIs (PySem.slot_list_getitem.lookup) ?_ (by with_unfolding_all rfl)
    refine wpAny_getItem_list_slice ht.isList (Heap.IsSliceOf.new _ vl vu vs) pl pu ps (by decide) ?_ (by rw [List.size_toArray]; omega)
    rw [PySem.W.krv_pick]
    refine ⟨.ref _, _, I5.laid (t' := s4.toks) (o := .lst xs.reverse) (fun b ob q => Heap.get?_push_of_some _ q) (Nat.le_refl _) ?_, rfl, q _ (I5.hok.fresh (Nat.le_refl _))⟩
    exact ⟨by rw [List.length_reverse]; exact hz, _, 0, r.reverse, Heap.get?_push_size _ rfl⟩
  · subst ex
    cases r1
    obtain ⟨its, r, ht, hz⟩ := I5.tuple hx
    have hlen := r.length
    show wpAny (model X.prog X.w) X.A (subscriptTail e (.Slice none none (some (.UnaryOp .USub (.Constant (.int 1) k p1) p2)) p3) (.ref a) (.ref s4.heap.objs.size)) (EP X pins σ Q) X.xe { s4 with heap := s4.heap.push { cls := .type "slice", data := .fields #[vl, vu, vs] } }
    refine tail_any (ops := [.ref a, .ref s4.heap.objs.size]) ht.typeIs (PyProof.Rows.slot_tuple_getitem.lookup) ?_ (by with_unfolding_all rfl)
    refine HT.getItem_tuple_rev ht (Heap.IsSliceOf.new _ vl vu vs) pl pu ps ?_ (by rw [List.size_toArray]; omega)
    refine ⟨.ref _, _, I5.laid (t' := s4.toks) (o := .tup xs.reverse) (fun b ob q => Heap.get?_push_of_some _ q) (Nat.le_refl _) ?_, rfl, q _ (I5.hok.fresh (Nat.le_refl _))⟩
    exact ⟨by rw [List.length_reverse]; exact hz, _, r.reverse, ⟨_, Heap.get?_push_size _ rfl, rfl, _, rfl⟩⟩
section
variable {Γ : Ct} {e a : Expr} {fa : En → R Opd} {pos p q p1 p2 p3 : Pos}
def revD : D → Option (D × Nat)
  | .lst xs => some (.lst xs.reverse, 1)
  | .tup xs => some (.tup xs.reverse, 0)
  | _ => none
theorem shl_rev {C : RC} {Z : Fp} {H : Hp} : ∀ {us : List V} {ds : List D}, ShL C Z H us ds → ShL C Z H us.reverse ds.reverse
  | _, _, .nil => .nil
  | _, _, .cons h r => by
    rw [List.reverse_cons, List.reverse_cons]
    exact (shl_rev r).append (.cons h .nil)
theorem ev_rev (G : Good Γ) {k : Nat} (ha : EvO Γ a fa) : EvE Γ (.Subscript a (.Slice none none (some (.UnaryOp .USub (.Constant (.int 1) k p1) p2)) p3) pos) (op1 revD fa) := by
  obtain ⟨t, h1, h2⟩ := ha
  refine ⟨_, pe_revA h1, ?_⟩
  have := Ev.op1 (g := revD) (r := fun x H1 Q => (∃ a xs, x = .ref a ∧ SqL Γ.X.K H1 a xs ∧ ∀ p, H1 p = none → Q (.ref p) (upd H1 p (.lst xs.reverse))) ∨ (∃ a xs, x = .ref a ∧ SqT Γ.X.K H1 a xs ∧ ∀ p, H1 p = none → Q (.ref p) (upd H1 p (.tup xs.reverse)))) h2 (fun σ H Z env φ S x d p hx hg Q P => by
    unfold revD at hg
    split at hg
    · cases hg
      obtain ⟨a, us, rfl, ha, r⟩ := hx.lstI
      exact .inl ⟨a, us, rfl, SqL.of ha, fun l hl => Post.newL P S hl (Ow.lst1 upd_same ((shl_rev r).ext (Ext.new hl)))⟩
    · cases hg
      obtain ⟨a, us, rfl, ha, r⟩ := hx.tupI
      rw [G.hK] at ha
      exact .inr ⟨a, us, rfl, ha, fun l hl => Post.newT P S hl (Ow.sh (.tup (SqT.of upd_same) ((shl_rev r).ext (Ext.new hl))))⟩
    · cases hg)
  exact this
end
structure TA (K : PySem.W.Frag) (mg : Str → Option Value) (x : Str) (d : D) where
  a : Addr
  m : mg x = some (.ref a)
  s : ∀ (C : RC) (Z : Fp) (H : Hp), C.K = K → Sh C Z H (.ref a) d
theorem ev_gtup {Γ : Ct} {K : PySem.W.Frag} {mg : Str → Option Value} {x : Str} {d : D} {pos : Pos} (A : TA K mg x d) (G : Good Γ) (hg : Gl Γ.X x) (hm : Γ.X.mg = mg := by rfl) (hK : Γ.X.K = K := by rfl) (hd : (x == ("__debug__" : Str)) = false := by decide) : EvV Γ (.Name x pos) (fun env => .ok d env) := by
  subst hm hK
  exact ev_c (v := .ref A.a) (fun Z H => A.s Γ.C Z H G.hK) (pe_glob hg A.m rfl hd)
inductive RelD : Value → D → Prop
  | int (i : Int) (t : Tok) : RelD (.int i t) (.int i)
  | str (i : Str) (t : Tok) : RelD (.str i t) (.str i)
theorem TA.of {K : PySem.W.Frag} {h : Heap} {mg : Str → Option Value} (X : K.In h) (G : h.Ns mainGlobals mg) {x : Str} {a : Addr} {od : Option Addr} {its : Array Value} {n : Nat} {sl : Array (Option Value)} {vs : List V} {ds : List D}
    (e : PySem.W.nsIn K mainGlobals x = some (some (.ref a))) (l : K.lookup a = some ⟨.type "tuple", od, .seq its n, sl⟩) (hz : its.size ≤ sizeLine) (hv : Vals vs its.toList) (hs : ∀ (C : RC) (Z : Fp) (H : Hp), ShL C Z H vs ds) : Nonempty (TA K mg x (.tup ds)) :=
  ⟨⟨a, PySem.W.mg_of X G e, fun C Z H hK => .tup (.inr ⟨_, its, n, by rw [hK]; exact l, rfl, rfl, hz, hv⟩) (hs C Z H)⟩⟩
end Pv
end

section
set_option Elab.async false
set_option linter.all false
set_option maxRecDepth 100000
set_option maxHeartbeats 4000000
namespace Pv
open PySem PySem.Spec PyProof.Rows L2
section
variable {Γ : Ct} {x : Str} {p pos apos cpos sp : Pos} {e a b : Expr} {es : List Expr}
def popV (i : Nat) : En → R D := fun env => match env[i]? with
  | some (some (.lst ds, 1)) => (match ds[ds.length - 1]? with
    | some d => .ok d (env.set i (some (.lst ds.dropLast, 1)))
    | none => .no)
  | _ => .no
theorem ShL.dropLast {C : RC} {Z : Fp} {H : Hp} : ∀ {us : List V} {ds : List D}, ShL C Z H us ds → ShL C Z H us.dropLast ds.dropLast
  | _, _, .nil => .nil
  | _, _, .cons h .nil => .nil
  | _, _, .cons h (.cons h' r) => .cons h (ShL.dropLast (.cons h' r))
theorem ev_pop {i : Nat} (hN : Γ.X.N[i]? = some x) (hv : Vis Γ.X.env.scope x) (hd : (x == ("__debug__" : Str)) = false := by decide) (hcd : (x == ("__classdict__" : Str)) = false := by decide)
    (hline : (apos.endLine == cpos.line) = true := by rfl) :
    EvV Γ (.Call (.Attribute (.Name x p) "pop" apos) [] [] cpos) (popV i) := by
  refine ⟨_, pe_bm0 PySem.F.plainAttrs_list PySem.F.slot_list_pop PySem.F.type_list_pop mt_pop (pe_var hN hv hd hcd) rfl hline, fun σ H Z env φ S Q P => ?_⟩
  unfold popV at P
  split at P
  · rename_i ds hds
    split at P
    · rename_i d hd
      obtain ⟨v, hv1, o⟩ := S.slot i _ _ hds
      obtain ⟨a', ys, e0, ha, r, hφ⟩ := o.lst_inv
      subst e0
      obtain ⟨y, hy1, hy2⟩ := r.get' hd
      refine ⟨.ref a', hv1, .inl ⟨rfl, ys, SqL.of ha⟩, a', ys, y, rfl, rfl, ha, by rw [r.length]; exact hy1, ?_⟩
      have x : Ext Z H Z (upd H a' (.lst ys.dropLast)) := Ext.upd ha (S.nz i a' ((hφ a').mpr rfl)) trivial
      obtain ⟨S2, ev2⟩ := S.upd (o := .lst ys.dropLast) (A := fun b => b = a') hv1 (List.getElem?_eq_some_iff.mp hds).1 ha trivial ((hφ a').mpr rfl) (fun b hb => (hφ b).mpr hb) (Ow.lst1 upd_same (r.dropLast.ext x))
      exact Post.here (P.mono ev2) S2 (hy2.ext x)
    · exact P.elim
  · exact P.elim
end
end Pv
end

section
set_option Elab.async false
set_option linter.all false
set_option maxRecDepth 100000
set_option maxHeartbeats 4000000
namespace Pv
open PySem PySem.Spec PyProof.Rows L2
section
variable {Γ : Ct} {e a b c : Expr} {fa fb fc : En → R Opd} {pos p q : Pos} {x y : Str}
end
end Pv
end

section
set_option Elab.async false
set_option linter.all false
set_option maxRecDepth 100000
set_option maxHeartbeats 4000000
namespace Pv
open PySem PySem.Spec PyProof.Rows L2
section
variable {Γ : Ct} {a b c d : Expr} {fa fb fc fd : En → R Opd} {pos : Pos}
end
end Pv
end

section
set_option Elab.async false
set_option linter.all false
set_option maxRecDepth 100000
set_option maxHeartbeats 4000000
namespace Pv
open PySem PySem.Spec PyProof.Rows L2
theorem compL_mapT {β : Type} {g : D → En → Option En} {tt : En → R Bool} {te : En → R (D × Nat)} {m : Nat} {vs : List Nat} (enc F : β → D) (env0 : En) : ∀ (bs : List β) (acc : List D), acc.length + bs.length ≤ lim →
    (∀ b ∈ bs, ∃ e1 e2 e3, g (enc b) env0 = some e1 ∧ tt e1 = .ok true e2 ∧ te e2 = .ok (F b, m) e3 ∧ wipeE e3 vs = env0) → compL g tt te m vs (bs.map enc) env0 acc = .ok (acc ++ bs.map F) env0
  | [], acc, _, _ => by simp [compL]
  | b :: bs, acc, hl, h => by
    obtain ⟨e1, e2, e3, h1, h2, h3, h4⟩ := h b List.mem_cons_self
    have hl' : acc.length < lim := by simp only [List.length_cons] at hl; omega
    have ih := compL_mapT (g := g) (tt := tt) (te := te) (m := m) (vs := vs) enc F env0 bs (acc ++ [F b]) (by simp only [List.length_append, List.length_cons, List.length_nil] at hl ⊢; omega) fun b' hb => h b' (List.mem_cons_of_mem _ hb)
    rw [List.map_cons]
    unfold compL
    rw [h1]
    simp only [h2, h3, h4, R.noX_ok, R.bind_ok, if_true, hl', and_self, ih, List.append_assoc, List.singleton_append, List.map_cons]
theorem comp_mapT {β : Type} {fi : En → R (List D)} {g : D → En → Option En} {tt : En → R Bool} {te : En → R (D × Nat)} {m : Nat} {vs : List Nat} (enc F : β → D) (env0 : En) {env env1 env2 : En} {bs : List β} (hfi : fi env = .ok (bs.map enc) env1) (h0 : wipeE env1 vs = env0) (hb : backE env1 env0 vs = env2) (hl : bs.length ≤ lim)
    (h : ∀ b ∈ bs, ∃ e1 e2 e3, g (enc b) env0 = some e1 ∧ tt e1 = .ok true e2 ∧ te e2 = .ok (F b, m) e3 ∧ wipeE e3 vs = env0) : comp fi g tt te m vs env = .ok (.lst (bs.map F), m + 1) env2 := by
  have q1 := compL_mapT (g := g) (tt := tt) (te := te) (m := m) (vs := vs) enc F env0 bs [] (by simpa using hl) h
  unfold comp
  rw [hfi]
  simp only [R.bind_ok, h0, q1, List.nil_append, hb]
theorem set_none {env : En} {i : Nat} (hi : env[i]? = some none) : env.set i none = env := by
  apply List.ext_getElem?
  intro j
  rw [List.getElem?_set]
  split
  · rename_i e
    subst e
    split
    · exact hi.symm
    · rename_i h
      exact (h (List.getElem?_eq_some_iff.mp hi).1).elim
  · rfl
theorem comp_map1 {β : Type} {fi : En → R (List D)} {te : En → R (D × Nat)} {m i : Nat} (enc F : β → D) {env env1 : En} {bs : List β} (hfi : fi env = .ok (bs.map enc) env1) (hi : env1[i]? = some none) (hl : bs.length ≤ 100000)
    (h : ∀ b ∈ bs, te (env1.set i (some (enc b, 0))) = .ok (F b, m) (env1.set i (some (enc b, 0)))) : comp fi (nameG i) yesT te m [i] env = .ok (.lst (bs.map F), m + 1) env1 := by
  have hlt := (List.getElem?_eq_some_iff.mp hi).1
  refine comp_mapT enc F env1 hfi (set_none hi) ?_ (le_lim hl) fun b hb => ⟨_, _, _, ?_, rfl, h b hb, ?_⟩
  · show env1.set i _ = env1
    rw [hi]
    exact set_none hi
  · unfold nameG
    rw [if_pos hlt]
  · show (env1.set i _).set i none = env1
    rw [List.set_set]
    exact set_none hi
end Pv
end

section
set_option Elab.async false
set_option linter.all false
set_option maxRecDepth 100000
set_option maxHeartbeats 4000000
namespace Pv
open PySem PySem.Spec PyProof.Rows L2

theorem mkEnum {vv : Value} {ob : Obj} {Hq : Heap → Prop} (Bg : Begins vv ob Hq) :
    Meets (Builtin.«enumerate.__new__» ⟨[.type "enumerate", vv], []⟩) (fun _ R z => Hq z.heap ∧ R (.ok (.ret (.ref (z.heap.push ob).objs.size))) { z with heap := (z.heap.push ob).push { cls := .type "enumerate", data := .fields #[.none, .bool false, .ref z.heap.objs.size, rawInt 0, .none, .none] } }) :=
  .of_wp fun pr w A R z hz => by
    obtain ⟨h0, gg, dd, tk, os⟩ := z; obtain ⟨hb, hr⟩ := hz
    have hsub := sub_enumerate
    have itq : ∀ {A' : Around} {E : Value → Shared → Prop} {Q : Value → Shared → Prop}, Q (.ref h0.objs.size) ⟨h0.push ob, gg, dd, tk, os⟩ → wpAny (model pr w) A' (pyIter vv) Q E ⟨h0, gg, dd, tk, os⟩ := fun q => Bg.iter pr w _ _ ⟨h0, gg, dd, tk, os⟩ _ hb q
    wp_walk using itq
    refine wpAny_stack_any fun st => wpAny_pure ?_
    split
    · rename_i c _ _ _ _ _
      cases (c == Value.type "enumerate")
      · wp_walk using itq
        exact ⟨_, rfl, hr⟩
      · wp_walk using itq
        exact ⟨_, rfl, hr⟩
    · wp_walk using itq
      exact ⟨_, rfl, hr⟩
section
variable {pr : Program} {w : World} {A : Around} {E : Value → Shared → Prop} {z : Shared}
theorem callEnum {vv : Value} {ob : Obj} {Hq : Heap → Prop} {Q : Value → Shared → Prop} (Bg : Begins vv ob Hq) (hb : Hq z.heap)
    (k : ∀ h', IsEnum h' (z.heap.objs.size + 1) z.heap.objs.size 0 .none → h'.get? z.heap.objs.size = some ob → h'.objs.size = z.heap.objs.size + 2 → (∀ b o, z.heap.get? b = some o → h'.get? b = some o) → Q (.ref (z.heap.objs.size + 1)) { z with heap := h' }) :
    wpAny (model pr w) A (call (.type "enumerate") [vv]) Q E z := by
  refine callType_new F.called_enumerate (by decide) (F.typeCall_enumerate_1 vv) (F.newCall_enumerate_1 vv) (fun ob' => F.args_object_init_2 ob' _) F.entry_enumerate_new (mkEnum Bg) ⟨hb, ?_⟩
  have z1 : (z.heap.push ob).objs.size = z.heap.objs.size + 1 := Heap.size_push ..
  show _ ∧ _
  rw [z1]
  have ie : IsEnum ((z.heap.push ob).push { cls := .type "enumerate", data := .fields #[.none, .bool false, .ref z.heap.objs.size, rawInt 0, .none, .none] }) (z.heap.objs.size + 1) z.heap.objs.size 0 .none := by
    have q := Heap.get?_push_size (z.heap.push ob) (o := { cls := .type "enumerate", data := .fields #[.none, .bool false, .ref z.heap.objs.size, rawInt 0, .none, .none] }) rfl
    rw [z1] at q
    exact q
  exact ⟨⟨_, ie, rfl⟩, k _ ie (Heap.get?_push_of_some _ (Heap.get?_push_size _ Bg.free)) (by rw [Heap.size_push, z1]) fun b o x => Heap.get?_push_of_some _ (Heap.get?_push_of_some _ x)⟩
end
def ItEn (K : PySem.W.Frag) (a : Addr) : It where
  go := fun i Hh => ∃ (us : List V) (u : V), SqT K Hh a us ∧ us[i]? = some u
  yld := fun i Hh y Hh' => ∃ T u, y = .ref T ∧ Hh T = none ∧ Hh' = upd Hh T (.tup [.int (i : Nat), u]) ∧ ∀ us, SqT K Hh a us → us[i]? = some u
  stop := fun i Hh => ∃ us : List V, SqT K Hh a us ∧ us.length = i
theorem turnEn {Pg : Program} {w : World} {K : PySem.W.Frag} {ts : List Expr} {kk : Nat} {tp : Pos} (a e it : Addr) : Turn Pg w K (.Tuple ts kk tp) (ItEn K a) [e, it] e (fun i h => (∃ o, IsEnum h e it ((i : Nat) : Int) o) ∧ h.IsTupleIter it a i ∧ e ≠ it) where
  mem := by simp
  obj := fun i h st b hb => by
    obtain ⟨⟨o1, he⟩, ⟨o, ho, hc, hd⟩, _⟩ := st
    rcases List.mem_cons.mp hb with q | q
    · rw [q]; exact ⟨_, he, fun v q => nomatch q⟩
    · rw [List.mem_singleton.mp q]; exact ⟨o, ho, fun v q => by rw [hd] at q; cases q⟩
  keep := fun i h h' st k => ⟨⟨st.1.choose, k e (by simp) _ st.1.choose_spec⟩, st.2.1.at fun o q => k it (by simp) o q, st.2.2⟩
  item := by
    intro X hP hw hK hc i pins s σ H E I hf st hg
    subst hP hw hK
    obtain ⟨⟨o1, he⟩, hit, hne⟩ := st
    obtain ⟨us, u, hq, hu⟩ := hg
    obtain ⟨its, rv, pt, hz⟩ := I.tuple hq
    obtain ⟨x, hx, rx⟩ := rv.get hu
    have lt1 : e < s.heap.objs.size := Heap.lt_size he
    have lt2 : it < s.heap.objs.size := by obtain ⟨_, q, _⟩ := hit; exact Heap.lt_size q
    have hd := I.ok.hd hc
    have pt : s.heap.IsTuple a its.toArray := pt
    have lt3 : a < s.heap.objs.size := by obtain ⟨_, q, _⟩ := pt; exact Heap.lt_size q
    have hea : a ≠ it := fun q => by
      obtain ⟨o2, q1, q2, _⟩ := pt
      obtain ⟨o3, q3, q4, _⟩ := hit
      rw [q, q3] at q1; cases q1
      rw [q4] at q2; simp at q2
    have hee : e ≠ a := fun q => by
      obtain ⟨o2, q1, q2, _⟩ := pt
      have q3 : s.heap.get? e = _ := he
      rw [q, q1] at q3; cases q3
      simp at q2
    have hi : i < its.toArray.size := by
      have q := (List.getElem?_eq_some_iff.mp hx).1
      simpa using q
    refine wpAny_pyNext_enum_itemD (Draws.tuple (A := X.A.in1) (by simpa using hd) it a hea its.toArray) he ⟨hit, pt⟩ hi hne (by simp [hne, hee]) fun y h' tk hy ho hs' hT hsz hk => ?_
    have hyx : y = x := by
      have q : its.toArray[i]? = some y := hy
      rw [List.getElem?_toArray, hx] at q
      exact (Option.some.inj q).symm
    subst hyx
    refine ⟨_, rfl, wpAny_letOwnedTupleGo_enum (s := { s with heap := h', toks := tk + 1 }) ho fun h'' he' sb => ?_⟩
    have hT2 : h''.get? s.heap.objs.size = some { cls := .type "tuple", data := .seq #[.int i tk, y] } := (sb.2 _ (Nat.ne_of_gt lt1)).trans hT
    have nw : ObjOk X.prog X.w (upd H s.heap.objs.size (.tup [.int (i : Nat), u])) h'' s.heap.objs.size (.tup [.int (i : Nat), u]) :=
      ⟨by show 2 ≤ sizeLine; decide, [.int i tk, y], .cons ⟨_, rfl⟩ (.cons rx .nil), ⟨_, hT2, rfl, _, rfl⟩⟩
    have J : Inv X pins σ (upd H s.heap.objs.size (.tup [.int (i : Nat), u])) { s with heap := h'', toks := tk + 1 } :=
      I.turnedNew (ch := [e, it]) (fun b ob hb q => (sb.2 b (fun z => hb (by simp [z]))).trans (hk b ob (fun z => hb (by simp [z])) (fun z => hb (by simp [z])) q)) hf (Nat.le_refl _) nw
    refine ⟨.ref s.heap.objs.size, _, J, rfl, ⟨_, u, rfl, I.hok.fresh (Nat.le_refl _), rfl, fun ys hy => by rw [I.tuple_inj hy hq]; exact hu⟩, ⟨⟨y, ?_⟩, hs'.1.at fun o q => (sb.2 it (Ne.symm hne)).trans q, hne⟩, fun b hb => ?_⟩
    · have e1 : ((i + 1 : Nat) : Int) = (i : Int) + 1 := by omega
      rw [e1]; exact he'
    · have hb' : b < s.heap.objs.size := by
        rcases List.mem_cons.mp hb with q | q
        · rw [q]; exact lt1
        · rw [List.mem_singleton.mp q]; exact lt2
      rw [upd_ne (Nat.ne_of_lt hb')]
      exact (hf b hb).1
  done := by
    intro X hP hw hK hc i pins s σ H E I hf st hg
    subst hP hw hK
    obtain ⟨⟨o1, he⟩, hit, hne⟩ := st
    obtain ⟨us, hq, hu⟩ := hg
    obtain ⟨its, rv, pt, hz⟩ := I.tuple hq
    obtain ⟨f0, f1, f2, f3, f4, f5⟩ := hf it (by simp)
    have hl := rv.length
    have hd := I.ok.hd hc
    have pt : s.heap.IsTuple a its.toArray := pt
    have hea : a ≠ it := fun q => by
      obtain ⟨o2, q1, q2, _⟩ := pt
      obtain ⟨o3, q3, q4, _⟩ := hit
      rw [q, q3] at q1; cases q1
      rw [q4] at q2; simp at q2
    have hn : i = its.toArray.size := by simp; omega
    subst hn
    exact wpAny_pyNext_enum_endD (Draws.tuple (A := X.A.in1) (by simpa using hd) it a hea its.toArray) he ⟨hit, pt⟩ fun h' eb => ⟨rfl, I.turned (t' := s.toks) (fun b o hb q => eb b o hb q) f0 f1 f3 f4 f5⟩
  self := fun A i s Q E st h => wpAny_pyIter_enum st.1.choose_spec h

def iEnA (K : PySem.W.Frag) (ta : L2.TA) : TI := fun σ H R => ta σ H fun vs H1 => ∃ a xs, vs = [.ref a] ∧ ((SqL K H1 a xs ∧ R (Ite K a) H1) ∨ (SqT K H1 a xs ∧ R (ItEn K a) H1))
theorem pi_enA {X : Cx} {e : Expr} {ta : L2.TA} {p pos tp : Pos} {ts : List Expr} {kk : Nat} (hg : Gl X "enumerate") (hm : X.mg "enumerate" = none) (ha : PA X [e] ta) (hs : starEach [e] X.env = [(false, eval e X.env)] := by rfl) :
    PI X (.Tuple ts kk tp) (.Call (.Name "enumerate" p) [e] [] pos) (iEnA X.K ta) := by
  refine ⟨fun pins s σ H R I h => ?_⟩
  refine Call_ (ld_blt I hg hm boot_enumerate (PyProof.Rows.callWith_type1 (thn (ha.run pos pins s σ H _ I h) fun us s1 ⟨vs, H1, I1, r1, q1⟩ => ?_) hs rfl))
  obtain ⟨a, xs, rfl, q⟩ := q1
  cases r1 with
  | cons r rr =>
    cases rr
    cases r
    have fpo : ∀ h' : Heap, (∀ b o, s1.heap.get? b = some o → h'.get? b = some o) → ∀ b ∈ [s1.heap.objs.size + 1, s1.heap.objs.size], s1.heap.objs.size ≤ b := fun h' hk b hb => by
      rcases List.mem_cons.mp hb with z | z
      · rw [z]; exact Nat.le_add_right _ _
      · rw [List.mem_singleton.mp z]; exact Nat.le_refl _
    rcases q with ⟨hq, q⟩ | ⟨hq, q⟩
    · obtain ⟨its, rv, pl, hz⟩ := I1.list hq
      refine callEnum (begins_list a its.toArray) pl.isList fun h' he hit hsz hk => wpAny_pyIter_enum he ?_
      have I2 : Inv X pins σ H1 { s1 with heap := h' } := I1.kept (t' := s1.toks) hk
      exact ⟨s1.heap.objs.size + 1, [s1.heap.objs.size + 1, s1.heap.objs.size], _, _, H1, rfl, I2, turn_enum a (s1.heap.objs.size + 1) s1.heap.objs.size, ⟨⟨.none, he⟩, ⟨_, hit, rfl, rfl⟩, Nat.succ_ne_self _⟩, fun b hb => I1.fpOk (fpo h' hk b hb) (I1.hok.fresh (fpo h' hk b hb)), q⟩
    · obtain ⟨its, rv, pt, hz⟩ := I1.tuple hq
      refine callEnum (begins_tuple a its.toArray) pt fun h' he hit hsz hk => wpAny_pyIter_enum he ?_
      have I2 : Inv X pins σ H1 { s1 with heap := h' } := I1.kept (t' := s1.toks) hk
      exact ⟨s1.heap.objs.size + 1, [s1.heap.objs.size + 1, s1.heap.objs.size], _, _, H1, rfl, I2, turnEn a (s1.heap.objs.size + 1) s1.heap.objs.size, ⟨⟨.none, he⟩, ⟨_, hit, rfl, rfl⟩, Nat.succ_ne_self _⟩, fun b hb => I1.fpOk (fpo h' hk b hb) (I1.hok.fresh (fpo h' hk b hb)), q⟩
def enumL (xs : List D) : List D := (xs.zipIdx).map fun q => .tup [.int (q.2 : Nat), q.1]
def enumD : List D → Option (List D)
  | [.lst xs] => some (enumL xs)
  | [.tup xs] => some (enumL xs)
  | _ => none
def enumI (f : En → R (List D)) : En → R (List D) := fun env => (f env).bind fun ds env1 => R.of (enumD ds) env1
theorem enumL_get {xs : List D} {i : Nat} {d : D} (h : (enumL xs)[i]? = some d) : ∃ x, xs[i]? = some x ∧ d = .tup [.int (i : Nat), x] := by
  unfold enumL at h
  rw [List.getElem?_map] at h
  obtain ⟨q, hq, rfl⟩ := Option.map_eq_some_iff.mp h
  rw [List.getElem?_zipIdx] at hq
  obtain ⟨x, hx, rfl⟩ := Option.map_eq_some_iff.mp hq
  exact ⟨x, hx, by simp⟩
theorem ei_enum {Γ : Ct} {a : Expr} {p pos : Pos} {ts : List Expr} {kk : Nat} {tpos : Pos} {f : En → R (List D)} (G : Good Γ) (hg : Gl Γ.X "enumerate") (hm : Γ.X.mg "enumerate" = none) (ha : EvA Γ [a] f)
    (hs : starEach [a] Γ.X.env = [(false, eval a Γ.X.env)] := by rfl) : EvI Γ (.Tuple ts kk tpos) (.Call (.Name "enumerate" p) [a] [] pos) (enumI f) := by
  obtain ⟨t, h1, h2⟩ := ha
  refine ⟨_, pi_enA hg hm h1 hs, fun σ H Z env φ S R P => ?_⟩
  refine h2 σ H Z env φ S _ ?_
  unfold enumI at P
  cases e : f env with
  | ex x => rw [e] at P; exact P
  | no => rw [e] at P; exact P
  | ok ds env1 =>
    rw [e] at P
    simp only [Pv.R.bind_ok] at P
    intro vs H1 Z1 φ1 A S1 sh0 dj ev
    have ev' := ev.sub (F2 := Tot φ1) fun _ z => .inl z
    have sh : ShL Γ.C Z1 H1 vs ds := sh0
    cases eD : enumD ds with
    | none => rw [eD] at P; exact P.elim
    | some items =>
     rw [eD] at P
     unfold enumD at eD
     split at eD
     · rename_i xs
       cases eD
       cases sh with
       | cons h r =>
         cases r
         cases h with
         | @lst b us _ hb zb rb =>
           refine ⟨b, us, rfl, .inl ⟨SqL.of hb, P _ H1 Z1 φ1 S1 (fun Z2 H2 x => ?_) ev'⟩⟩
           have hb2 := x.zk b _ zb hb
           have rb2 := rb.ext x
           refine ⟨⟨us, SqL.of hb2, by simp [enumL, rb.length]⟩, fun i d hd => ?_⟩
           obtain ⟨q, hq, rfl⟩ := enumL_get hd
           obtain ⟨w1, e1, s1⟩ := rb2.get' hq
           refine ⟨⟨us, w1, SqL.of hb2, e1⟩, fun y H' hy => ?_⟩
           obtain ⟨T, y1, rfl, hT, rfl, k1⟩ := hy
           have f1 := k1 us (SqL.of hb2)
           rw [e1] at f1; cases f1
           have xn : Ext Z2 H2 Z2 (upd H2 T (.tup [.int (i : Nat), w1])) := Ext.new hT
           exact ⟨.tup (SqT.of upd_same) (.cons (.int _) (.cons (s1.ext xn) .nil)), .inr ⟨T, _, hT, rfl⟩⟩
     · rename_i xs
       cases eD
       cases sh with
       | cons h r =>
         cases r
         cases h with
         | @tup b us _ hb rb =>
           have hb' := hb
           rw [G.hK] at hb'
           refine ⟨b, us, rfl, .inr ⟨hb', P _ H1 Z1 φ1 S1 (fun Z2 H2 x => ?_) ev'⟩⟩
           have hb2 : SqT Γ.X.K H2 b us := by rw [← G.hK]; exact x.sqT hb
           have rb2 := rb.ext x
           refine ⟨⟨us, hb2, by simp [enumL, rb.length]⟩, fun i d hd => ?_⟩
           obtain ⟨q, hq, rfl⟩ := enumL_get hd
           obtain ⟨w1, e1, s1⟩ := rb2.get' hq
           refine ⟨⟨us, w1, hb2, e1⟩, fun y H' hy => ?_⟩
           obtain ⟨T, y1, rfl, hT, rfl, k1⟩ := hy
           have f1 := k1 us hb2
           rw [e1] at f1; cases f1
           have xn : Ext Z2 H2 Z2 (upd H2 T (.tup [.int (i : Nat), w1])) := Ext.new hT
           exact ⟨.tup (SqT.of upd_same) (.cons (.int _) (.cons (s1.ext xn) .nil)), .inr ⟨T, _, hT, rfl⟩⟩
     · cases eD
end Pv
end

section
set_option Elab.async false
set_option linter.all false
set_option maxRecDepth 100000
set_option maxHeartbeats 4000000
namespace Pv
open PySem PySem.Spec PyProof.Rows L2

section
variable {Γ : Ct} {a : Expr} {fa : En → R Opd} {p p2 q pos : Pos}
end
end Pv
end

section
set_option Elab.async false
set_option linter.all false
set_option maxRecDepth 100000
set_option maxHeartbeats 4000000
namespace Pv
open PySem PySem.Spec PyProof.Rows L2
section
variable {Γ : Ct} {a : Expr} {fa : En → R Opd} {p pos kpos p3 : Pos} {j : Nat}
end
end Pv
end

section
set_option Elab.async false
set_option linter.all false
set_option maxRecDepth 100000
set_option maxHeartbeats 4000000
namespace Pv
open PySem PySem.Spec PyProof.Rows L2
mutual
def plD : D → Bool
  | .non => true
  | .int _ => true
  | .str s => PyData.strOk s
  | .tup ds => plL ds
  | .lst ds => plL ds
  | .bl _ => false
  | .fn _ => false
  | .dic _ _ => false
  | .scr _ => false
def plL : List D → Bool
  | [] => true
  | d :: ds => plD d && plL ds
end
mutual
def dpD : D → Nat
  | .tup ds => dpL ds + 1
  | .lst ds => dpL ds + 1
  | .non => 0
  | .int _ => 0
  | .str _ => 0
  | .bl _ => 0
  | .fn _ => 0
  | .dic _ _ => 0
  | .scr _ => 0
def dpL : List D → Nat
  | [] => 0
  | d :: ds => max (dpD d) (dpL ds)
end
mutual
def enP : D → PyData
  | .int i => .int i
  | .str s => .str s
  | .tup ds => .tuple (enPL ds)
  | .lst ds => .list (enPL ds)
  | .non => .none
  | .bl b => .bool b
  | .fn _ => .none
  | .dic _ _ => .none
  | .scr _ => .none
def enPL : List D → List PyData
  | [] => []
  | d :: ds => enP d :: enPL ds
end
mutual
theorem py_enP : ∀ d : D, plD d = true → D.py d = some (enP d)
  | .non, _ => rfl
  | .int _, _ => rfl
  | .str _, _ => rfl
  | .tup ds, h => by
    rw [D.py, pyL_enP ds (by simpa [plD] using h), enP]; rfl
  | .lst ds, h => by
    rw [D.py, pyL_enP ds (by simpa [plD] using h), enP]; rfl
  | .bl _, h => by simp [plD] at h
  | .fn _, h => by simp [plD] at h
  | .dic _ _, h => by simp [plD] at h
  | .scr _, h => by simp [plD] at h
theorem pyL_enP : ∀ ds : List D, plL ds = true → D.pyL ds = some (enPL ds)
  | [], _ => rfl
  | d :: ds, h => by
    rw [plL, Bool.and_eq_true] at h
    rw [D.pyL, py_enP d h.1, pyL_enP ds h.2, enPL]
end
mutual
theorem lay_enP : ∀ d : D, plD d = true → (enP d).canLay0 = true
  | .non, _ => by simp [enP, PyData.canLay0]
  | .int _, _ => by simp [enP, PyData.canLay0]
  | .str s, h => by
    rw [plD] at h
    simp [enP, PyData.canLay0, h]
  | .tup ds, h => by
    rw [enP, PyData.canLay0]; exact lay_enPL ds (by simpa [plD] using h)
  | .lst ds, h => by
    rw [enP, PyData.canLay0]; exact lay_enPL ds (by simpa [plD] using h)
  | .bl _, h => by simp [plD] at h
  | .fn _, h => by simp [plD] at h
  | .dic _ _, h => by simp [plD] at h
  | .scr _, h => by simp [plD] at h
theorem lay_enPL : ∀ ds : List D, plL ds = true → PyData.canLayAll0 (enPL ds) = true
  | [], _ => by simp [enPL, PyData.canLayAll0]
  | d :: ds, h => by
    rw [plL, Bool.and_eq_true] at h
    rw [enPL, PyData.canLayAll0, lay_enP d h.1, lay_enPL ds h.2]
    rfl
end
mutual
theorem dep_enP : ∀ d : D, (enP d).depth = dpD d
  | .non => by simp [enP, PyData.depth, dpD]
  | .int _ => by simp [enP, PyData.depth, dpD]
  | .str s => by simp [enP, PyData.depth, dpD]
  | .tup ds => by rw [enP, PyData.depth, dpD, dep_enPL ds]
  | .lst ds => by rw [enP, PyData.depth, dpD, dep_enPL ds]
  | .bl _ => by simp [enP, PyData.depth, dpD]
  | .fn _ => by simp [enP, PyData.depth, dpD]
  | .dic _ _ => by simp [enP, PyData.depth, dpD]
  | .scr _ => by simp [enP, PyData.depth, dpD]
theorem dep_enPL : ∀ ds : List D, PyData.depthAll (enPL ds) = dpL ds
  | [] => by simp [enPL, PyData.depthAll, dpL]
  | d :: ds => by rw [enPL, PyData.depthAll, dpL, dep_enP d, dep_enPL ds]
end
mutual
theorem eqv_enP : ∀ d e : D, plD d = true → plD e = true → (PyData.eqv (enP d) (enP e) = true ↔ d = e)
  | .non, e, _, h => by cases e <;> simp [plD] at h <;> simp [enP, PyData.eqv]
  | .int i, e, _, h => by cases e <;> simp [plD] at h <;> simp [enP, PyData.eqv]
  | .str s, e, _, h => by cases e <;> simp [plD] at h <;> simp [enP, PyData.eqv]
  | .tup ds, e, h0, h => by
    have h0 : plL ds = true := by simpa [plD] using h0
    cases e with
    | tup es =>
      have h : plL es = true := by simpa [plD] using h
      have ih := eqv_enPL ds es h0 h
      rw [enP, enP, PyData.eqv, ih]
      simp
    | non => simp [enP, PyData.eqv]
    | int _ => simp [enP, PyData.eqv]
    | str _ => simp [enP, PyData.eqv]
    | lst _ => simp [enP, PyData.eqv]
    | bl _ => simp [plD] at h
    | fn _ => simp [plD] at h
    | dic _ _ => simp [plD] at h
    | scr _ => simp [plD] at h
  | .lst ds, e, h0, h => by
    have h0 : plL ds = true := by simpa [plD] using h0
    cases e with
    | lst es =>
      have h : plL es = true := by simpa [plD] using h
      have ih := eqv_enPL ds es h0 h
      rw [enP, enP, PyData.eqv, ih]
      simp
    | non => simp [enP, PyData.eqv]
    | int _ => simp [enP, PyData.eqv]
    | str _ => simp [enP, PyData.eqv]
    | tup _ => simp [enP, PyData.eqv]
    | bl _ => simp [plD] at h
    | fn _ => simp [plD] at h
    | dic _ _ => simp [plD] at h
    | scr _ => simp [plD] at h
  | .bl _, _, h, _ => by simp [plD] at h
  | .fn _, _, h, _ => by simp [plD] at h
  | .dic _ _, _, h, _ => by simp [plD] at h
  | .scr _, _, h, _ => by simp [plD] at h
theorem eqv_enPL : ∀ ds es : List D, plL ds = true → plL es = true → (PyData.eqvAll (enPL ds) (enPL es) = true ↔ ds = es)
  | [], [], _, _ => by simp [enPL, PyData.eqvAll]
  | [], _ :: _, _, _ => by simp [enPL, PyData.eqvAll]
  | _ :: _, [], _, _ => by simp [enPL, PyData.eqvAll]
  | d :: ds, e :: es, h0, h => by
    rw [plL, Bool.and_eq_true] at h0 h
    rw [enPL, enPL, PyData.eqvAll, Bool.and_eq_true, eqv_enP d e h0.1 h.1, eqv_enPL ds es h0.2 h.2]
    simp
end
structure PlD (d : D) : Prop where
  p : plD d = true
  d : dpD d ≤ 64
theorem eqB_pl {d e : D} (h0 : PlD d) (h : PlD e) : ∃ b, eqB d e = some b ∧ (b = true ↔ d = e) := by
  refine ⟨PyData.eqv (enP d) (enP e), ?_, eqv_enP d e h0.p h.p⟩
  unfold eqB
  rw [py_enP d h0.p, py_enP e h.p]
  have s0 : SeqAt.shaped (enP d) = true := by
    unfold SeqAt.shaped
    rw [lay_enP d h0.p, dep_enP, Bool.true_and]
    exact decide_eq_true h0.d
  have s1 : SeqAt.shaped (enP e) = true := by
    unfold SeqAt.shaped
    rw [lay_enP e h.p, dep_enP, Bool.true_and]
    exact decide_eq_true h.d
  simp only [s0, s1, Bool.and_self, if_true]
theorem eqB_same {d : D} (h : PlD d) : eqB d d = some true := by
  obtain ⟨b, h1, h2⟩ := eqB_pl h h
  rw [h1, h2.mpr rfl]
theorem eqB_diff {d e : D} (h0 : PlD d) (h : PlD e) (hn : d ≠ e) : eqB d e = some false := by
  obtain ⟨b, h1, h2⟩ := eqB_pl h0 h
  cases b with
  | true => exact (hn (h2.mp rfl)).elim
  | false => exact h1
theorem neD_same {d : D} (h : PlD d) : neD d d = some (.bl false, 0) := by simp [neD, eqB_same h]
theorem neD_diff {d e : D} (h0 : PlD d) (h : PlD e) (hn : d ≠ e) : neD d e = some (.bl true, 0) := by simp [neD, eqB_diff h0 h hn]
theorem plL_all : ∀ ds : List D, plL ds = ds.all plD
  | [] => rfl
  | d :: ds => by rw [plL, plL_all ds]; rfl
theorem dpL_le {k : Nat} : ∀ {ds : List D}, (∀ d ∈ ds, dpD d ≤ k) → dpL ds ≤ k
  | [], _ => Nat.zero_le _
  | d :: ds, h => by
    rw [dpL]
    exact Nat.max_le.mpr ⟨h d List.mem_cons_self, dpL_le fun e he => h e (List.mem_cons_of_mem _ he)⟩
theorem PlD.tup {ds : List D} {k : Nat} (h : ∀ d ∈ ds, plD d = true ∧ dpD d ≤ k) (hk : k < 64) : PlD (.tup ds) :=
  ⟨by rw [plD, plL_all, List.all_eq_true]; exact fun d hd => (h d hd).1, by rw [dpD]; have := dpL_le fun d hd => (h d hd).2; omega⟩
theorem PlD.lst {ds : List D} {k : Nat} (h : ∀ d ∈ ds, plD d = true ∧ dpD d ≤ k) (hk : k < 64) : PlD (.lst ds) :=
  ⟨by rw [plD, plL_all, List.all_eq_true]; exact fun d hd => (h d hd).1, by rw [dpD]; have := dpL_le fun d hd => (h d hd).2; omega⟩
end Pv
end

section
set_option Elab.async false
set_option linter.all false
set_option maxRecDepth 100000
set_option maxHeartbeats 4000000
namespace PM
end PM
end

section
set_option Elab.async false
set_option linter.all false
set_option maxRecDepth 100000
set_option maxHeartbeats 4000000
namespace Pv
open PySem PySem.Spec PyProof.Rows L2
def dicI (ks : List Int) (vs : List D) : D := .dic (ks.map Sum.inl) vs
abbrev stt (a b : Int) : Sl := some (.lst [.int a, .int b], 1)
theorem idx_tup {ds : List D} {k : Nat} (h : k < ds.length) : idxD (.tup ds) (.int k) = some (ds[k], 0) := by
  show (L2.atI ds (k : Int)).map (·, 0) = _
  rw [at_nat h]
  rfl
theorem cut_to {α : Type} {xs : List α} {k : Nat} (h : k ≤ xs.length) : cutD xs none (some (k : Int)) = xs.take k := by
  have h0 : HT.sIx xs.length 0 none = 0 := rfl
  have h1 : HT.sIx xs.length xs.length (some (k : Int)) = k := by
    rw [HT.sIx_nat]
    omega
  unfold cutD
  rw [h0, h1]
  simp
end Pv
end

section
set_option Elab.async false
set_option linter.all false
set_option maxRecDepth 100000
set_option maxHeartbeats 4000000
namespace Pv
open PySem PySem.Spec PyProof.Rows L2
inductive Rel2 {α β : Type} (R : α → β → Prop) : List α → List β → Prop
  | nil : Rel2 R [] []
  | cons {a : α} {b : β} {as : List α} {bs : List β} : R a b → Rel2 R as bs → Rel2 R (a :: as) (b :: bs)
end Pv
namespace PM
open Pv
structure Fits (p : List Int) (M : List (List Int)) : Prop where
  cls : ∀ b ∈ M, ∃ c : Int, ∀ x : Int, x ∈ b ↔ ∃ i : Nat, x = i ∧ p[i]? = some c
  all : ∀ i : Nat, i < p.length → ∃ b ∈ M, (i : Int) ∈ b
  nd : M.flatten.Nodup
  len : M.flatten.length = p.length
  ne : ∀ b ∈ M, b ≠ []
theorem Fits.rng {p : List Int} {M : List (List Int)} (h : Fits p M) : ∀ x ∈ M.flatten, 0 ≤ x ∧ x < p.length := by
  intro x hx
  obtain ⟨b, hb, hxb⟩ := List.mem_flatten.mp hx
  obtain ⟨c, hc⟩ := h.cls b hb
  obtain ⟨i, rfl, hi⟩ := (hc x).mp hxb
  have := (List.getElem?_eq_some_iff.mp hi).1
  omega
theorem Fits.at {p : List Int} {M : List (List Int)} (h : Fits p M) {i : Nat} (hi : i < p.length) : ∃ hk : (M.findIdx fun b => decide ((i : Int) ∈ b)) < M.length, (i : Int) ∈ M[M.findIdx fun b => decide ((i : Int) ∈ b)] := by
  obtain ⟨b, hb, hib⟩ := h.all i hi
  have hk : (M.findIdx fun b => decide ((i : Int) ∈ b)) < M.length := List.findIdx_lt_length_of_exists ⟨b, hb, decide_eq_true hib⟩
  exact ⟨hk, of_decide_eq_true (List.findIdx_getElem (w := hk))⟩
end PM
end

section
set_option Elab.async false
set_option linter.all false
set_option maxRecDepth 100000
set_option maxHeartbeats 4000000
namespace Pv
open PySem PySem.Spec PyProof.Rows L2

section
variable {Γ : Ct} {a e : Expr} {es : List Expr} {fa : En → R Opd} {p p2 q pos : Pos} {k : Nat}
end
end Pv
end

section
set_option Elab.async false
set_option linter.all false
set_option maxRecDepth 100000
set_option maxHeartbeats 4000000
namespace Pv
open PySem PySem.Spec PyProof.Rows L2
structure RfA (P : Program) (K : PySem.W.Frag) (mg : Str → Option Value) (x fld : Str) where
  a : Addr
  m : mg x = some (.ref a)
  k : PySem.W.keepIn K (.ref a) = true
  T : OexC K a
  i : PySem.W.isClsIn K a = true
  f : PySem.W.subIn K (.ref a) (.ref a) = some true
  q : PySem.W.excInitIn K a [.type "ValueError", .type "Exception", .type "BaseException", .type "object"] "ValueError.__new__" = true
  ve : PySem.W.subIn K (.ref a) (.type "ValueError") = some true
  me : PySem.W.mroIn K a (.ref a) = some true
  su : PySem.W.ks_superIn K a a "__init__" = some (some (.builtin "ValueError.__init__"))
  no : PySem.W.findIn K (.ref a) fld = some none
  tp : PySem.W.nsIn K cStatics "thirdparty.any" = some none
  sp : PySem.W.nsIn K mainGlobals "super" = some none
  fi : Addr
  xf : XfC K a
  iC : PySem.W.findIn K (.ref a) "__init__" = some (some (.ref fi))
  tI : PySem.W.typeIn K (.ref fi) = some (.type "function")
  cc : Addr
  cda : Addr
  name : Str
  qual : Str
  params : Arguments
  body : List Stmt
  scope : Scope
  oc : Value
  od : Option Addr
  osl : Array (Option Value)
  dV : Value
  kV : Value
  doc : Value
  pm : Value
  an : Option Addr
  ct : Value
  lf : K.lookup fi = some ⟨oc, od, .func (PySem.W.ksFn name qual params body scope dV kV doc pm an (.ref cda) ct cc), osl⟩
  ce : PySem.W.codeIn K (.ref cda) qual = true
  lc : ∃ cl cdd vs ccs file tf, K.lookup cda = some ⟨cl, cdd, .fields vs, ccs⟩ ∧ vs[2]? = some (.str file tf) ∧ ((P.main.file : Str) == file) = true
  ll : ∃ cl cld csl, K.lookup cc = some ⟨cl, cld, .cell (some (.ref a)), csl⟩
  par : Str
  ar : ∃ a0 : Arg, (params.posonlyargs ++ params.args).head? = some a0 ∧ a0.arg = "self"
  bi : ∀ (s : Shared) (u v : Value), BindsTo s (PySem.W.ksFn name qual params body scope dV kV doc pm an (.ref cda) ct cc) ⟨[u, v], []⟩ [("self", u), (par, v)]
  bd : ∃ p0 p1 p2 p3 p4 p5 p6 p7 p8 p9, body = [.Expr (.Call (.Attribute (.Call (.Name "super" p0) [] [] p1) "__init__" p2) [.Name par p3] [] p4) p5, .Assign [.Attribute (.Name "self" p6) fld p7] (.Name par p8) p9] ∧ (p2.endLine == p4.line) = true
  sk : scope.kind = .function
  s1 : scope.names.lookup ("super" : Str) = some .globalImplicit
  s2 : scope.names.lookup ("__class__" : Str) = some .free
  s3 : scope.names.lookup ("self" : Str) = some .local
  s4 : scope.names.lookup par = some .local
  sn : par ≠ "self"
  sd : (par == ("__debug__" : Str)) = false
  s5 : ∀ x ∈ scope.names, x.2 ≠ .cell
  s6 : scope.isCoroutine = false
  s7 : scope.isGenerator = false
  tt : (P.main.scope.names.lookup ("super" : Str)).isSome = false
section
variable {P : Program} {w : World} {K : PySem.W.Frag} {mg : Str → Option Value} {base : Heap} {x fld : Str}
abbrev RfA.fd (R : RfA P K mg x fld) : FuncData := PySem.W.ksFn R.name R.qual R.params R.body R.scope R.dV R.kV R.doc R.pm R.an (.ref R.cda) R.ct R.cc
end
section
variable {Γ : Ct} {x fld : Str} {p cpos pos : Pos}
end
theorem exm_of {K : PySem.W.Frag} {a b : Addr} {r : Bool} (h1 : PySem.W.subIn K (.ref b) (.type "BaseException") = some true) (h2 : PySem.W.isClsIn K b = true) (h3 : PySem.W.typeIn K (.ref b) = some (.type "type")) (h4 : PySem.W.subIn K (.ref a) (.ref b) = some r) : PySem.W.exmOne K (.ref a) (.ref b) = some r := by
  have e1 : (PySem.W.subIn K (.ref b) (.type "BaseException") == some true) = true := by rw [h1]; rfl
  have e2 : ((PySem.W.clsIn K b).isSome && PySem.W.typeIn K (.ref b) == some (.type "type")) = true := by
    have h2' : (PySem.W.clsIn K b).isSome = true := h2
    rw [h2', h3]; rfl
  show (if (PySem.W.subIn K (.ref b) (.type "BaseException") == some true) = true then (if ((PySem.W.clsIn K b).isSome && PySem.W.typeIn K (.ref b) == some (.type "type")) = true then PySem.W.subIn K (.ref a) (.ref b) else none) else none) = some r
  rw [if_pos e1, if_pos e2]
  exact h4
theorem RfA.e {P : Program} {K : PySem.W.Frag} {mg : Str → Option Value} {x fld : Str} (R : RfA P K mg x fld) : PySem.W.exmOne K (.ref R.a) (.ref R.a) = some true := exm_of R.T.exC R.i R.T.tyC R.f
theorem XA.no {K : PySem.W.Frag} {mg : Str → Option Value} {x : Str} (A : XA K mg x) {a : Addr} (h : PySem.W.subIn K (.ref a) (.ref A.a) = some false) : PySem.W.exmOne K (.ref a) (.ref A.a) = some false := exm_of A.s A.i A.t h
end Pv
end

section
set_option Elab.async false
set_option linter.all false
set_option maxRecDepth 100000
set_option maxHeartbeats 4000000
namespace Pv
open PySem PySem.Spec PyProof.Rows L2
section
variable {X : Cx} {body : List Stmt} {pos : Pos} {tb : WX → TS}
end
section
variable {Γ : Ct} {body : List Stmt} {pos : Pos} {f g : En → SR}
end
end Pv
end

section
set_option Elab.async false
set_option linter.all false
set_option maxRecDepth 100000
set_option maxHeartbeats 4000000
namespace Pv
open PySem PySem.Spec PyProof.Rows L2
section
variable {Γ : Ct}
end
end Pv
end

section
set_option Elab.async false
set_option linter.all false
set_option maxRecDepth 100000
set_option maxHeartbeats 4000000
namespace Pv
open PySem PySem.Spec PyProof.Rows L2
section
variable {Γ : Ct}
theorem es_parC {i j : Nat} {x y : Str} {a b : Expr} {fa : En → R (List (D × Nat))} {px py pt : Pos} {kt k2 : Nat} {pt2 pos : Pos} (G : Good Γ) (hi : Γ.X.N[i]? = some x) (hj : Γ.X.N[j]? = some y) (hij : i ≠ j) (hio : i ∉ Γ.io) (hjo : j ∉ Γ.io)
    (hx : Loc Γ.X.env.scope x) (hy : Loc Γ.X.env.scope y) (ha : EvL Γ [a, b] fa)
    (hfx : Γ.X.fn x = true ∨ Γ.X.env.scope.names.lookup x = some .local := by first | exact .inl rfl | exact .inr rfl | assumption)
    (hfy : Γ.X.fn y = true ∨ Γ.X.env.scope.names.lookup y = some .local := by first | exact .inl rfl | exact .inr rfl | assumption)
    (hw : swappedStores [.Tuple [.Name x px, .Name y py] kt pt] (.Tuple [a, b] k2 pt2) Γ.X.env = pure none := by rfl)
    (hs : swapsWithSole [.Tuple [.Name x px, .Name y py] kt pt] (.Tuple [a, b] k2 pt2) pos.line Γ.X.env = pure false := by rfl)
    (g1 : (assignEach [Expr.Name x px, .Name y py] Γ.X.env).map (·.2) = assign (.Name x px) Γ.X.env :: (assignEach [Expr.Name y py] Γ.X.env).map (·.2) := by rfl)
    (g2 : (assignEach [Expr.Name y py] Γ.X.env).map (·.2) = assign (.Name y py) Γ.X.env :: (assignEach [] Γ.X.env).map (·.2) := by rfl)
    (g3 : (assignEach [Expr.Name x px, .Name y py] Γ.X.env).length = 2 := by rfl) (g4 : (assignEach [Expr.Name x px, .Name y py] Γ.X.env).findIdx? (·.1) = none := by rfl)
    (h1 : (assignEach [.Tuple [.Name x px, .Name y py] kt pt] Γ.X.env).map (·.2) = [assign (.Tuple [.Name x px, .Name y py] kt pt) Γ.X.env] := by rfl) :
    EvS Γ (.Assign [.Tuple [.Name x px, .Name y py] kt pt] (.Tuple [a, b] k2 pt2) pos) (parS i j fa) := by
  obtain ⟨t, p1, h2⟩ := ha
  refine ⟨_, ps_asg (pe_tup p1) (pg_tup G.calm (pgs_cons (pg_name G.nd hi hx hfx) (pgs_cons (pg_name G.nd hj hy hfy) pgs_nil g2) g1) g3 g4) hs hw h1, fun σ H Z env φ S Dn P => ?_⟩
  refine h2.then S P fun ps env1 vs H1 Z1 φ1 A e1 S1 q1 dj1 ev1 P1 => ?_
  have q1 : OwL Γ.C Z1 H1 vs ps A := q1
  cases q1 with
  | nil _ => exact P1.elim
  | @cons v vs p ps A1 B U o r d1 u1 =>
    cases r with
    | nil _ => exact P1.elim
    | @cons w ws q qs A2 B2 U2 o2 r2 d2 u2 =>
      cases r2 with
      | cons _ _ _ _ => exact P1.elim
      | nil n2 =>
        refine ⟨by show 2 ≤ sizeLine; decide, fun T hT => ?_⟩
        simp only at P1
        split at P1
        · rename_i hl
          have kp : ∀ (B : Fp) a (u : HO), B a → H1 a = some u → upd H1 T (.tup [v, w]) a = some u := fun _ a u _ e => by rw [upd_ne (ne_of_none e hT)]; exact e
          have o' := o.ext (Ext.new (o := .tup [v, w]) hT) (kp A1)
          have o2' := o2.ext (Ext.new (o := .tup [v, w]) hT) (kp A2)
          have S1' := S1.new (o := .tup [v, w]) hT
          have S2 := S1'.put hl.1 hio o' (fun j a _ h z => (dj1 a ((u1 a).mpr (.inl z))).1 ⟨j, h⟩) fun a z => (dj1 a ((u1 a).mpr (.inl z))).2
          have S3 := S2.put (i := j) (by simpa using hl.2) hjo o2' (fun l a hlj h z => by
            by_cases q : l = i
            · simp only [if_pos q] at h
              exact d1 a h ((u2 a).mpr (.inl z))
            · simp only [if_neg q] at h
              exact (dj1 a ((u1 a).mpr (.inr ((u2 a).mpr (.inl z))))).1 ⟨l, h⟩) fun a z => (dj1 a ((u1 a).mpr (.inr ((u2 a).mpr (.inl z))))).2
          have sq := SqT.of (K := Γ.C.K) (H := upd H1 T (.tup [v, w])) (a := T) (xs := [v, w]) upd_same
          rw [G.hK] at sq
          refine ⟨T, [v, w], rfl, sq, rfl, v, [w], rfl, w, [], rfl, rfl, ?_⟩
          refine P1 _ _ Z1 _ S3 ⟨fun a u e _ => by rw [upd_ne (ne_of_none e hT)]; exact e, fun _ z => z, fun _ z => .inl z, fun x ⟨l, z⟩ => .inl ?_⟩
          by_cases q : l = j
          · simp only [if_pos q] at z; exact .inr ((u1 x).mpr (.inr ((u2 x).mpr (.inl z))))
          · simp only [if_neg q] at z
            by_cases q2 : l = i
            · simp only [if_pos q2] at z; exact .inr ((u1 x).mpr (.inl z))
            · simp only [if_neg q2] at z; exact .inl ⟨l, z⟩
        · exact P1.elim
end
end Pv
end

section
set_option Elab.async false
set_option linter.all false
set_option maxRecDepth 100000
set_option maxHeartbeats 4000000
namespace Tv
open PySem Pv

inductive Sp where
  | un | lo (d : D) | any (d : D) | ex (d : D) (k : Nat)
abbrev Gm := List Sp
def Sp.Ok : Sp → Sl → Prop
  | .un, _ => True
  | .lo d, s => ∃ k, k ≤ 1 ∧ s = some (d, k)
  | .any d, s => ∃ k, s = some (d, k)
  | .ex d k, s => s = some (d, k)
def Le : Gm → En → Prop
  | [], [] => True
  | p :: Γ, s :: e => p.Ok s ∧ Le Γ e
  | _, _ => False
def at' : Gm → Nat → Option Sp
  | [], _ => none
  | p :: _, 0 => some p
  | _ :: Γ, i + 1 => at' Γ i
def put : Gm → Nat → Sp → Gm
  | [], _, _ => []
  | _ :: Γ, 0, q => q :: Γ
  | p :: Γ, i + 1, q => p :: put Γ i q
def Sp.dat : Sp → Option D
  | .un => none
  | .lo d => some d
  | .any d => some d
  | .ex d _ => some d
def dat (Γ : Gm) (i : Nat) : Option D := match at' Γ i with
  | some p => p.dat
  | none => none
def Sp.low : Sp → Option D
  | .un => none
  | .lo d => some d
  | .any _ => none
  | .ex d 0 => some d
  | .ex d 1 => some d
  | .ex _ _ => none
def low (Γ : Gm) (i : Nat) : Option D := match at' Γ i with
  | some p => p.low
  | none => none
theorem le_at : ∀ {Γ : Gm} {e : En} {i : Nat} {p : Sp}, Le Γ e → at' Γ i = some p → ∃ s, e[i]? = some s ∧ p.Ok s
  | [], _, _, _, _, h => by simp [at'] at h
  | _ :: _, [], _, _, h, _ => h.elim
  | p :: _, s :: _, 0, q, h, e => by
    cases e
    exact ⟨s, rfl, h.1⟩
  | _ :: Γ, _ :: e, i + 1, p, h, q => by
    obtain ⟨s, h1, h2⟩ := le_at h.2 (i := i) q
    exact ⟨s, by simpa using h1, h2⟩
theorem le_put : ∀ {Γ : Gm} {e : En} {i : Nat} {q : Sp} {s : Sl}, Le Γ e → q.Ok s → Le (put Γ i q) (e.set i s)
  | [], [], _, _, _, _, _ => trivial
  | [], _ :: _, _, _, _, h, _ => h.elim
  | _ :: _, [], _, _, _, h, _ => h.elim
  | _ :: _, _ :: _, 0, _, _, h, hq => ⟨hq, h.2⟩
  | _ :: _, _ :: _, _ + 1, _, _, h, hq => ⟨h.1, le_put h.2 hq⟩
theorem dat_ok {Γ : Gm} {e : En} {i : Nat} {d : D} (h : Le Γ e) (hd : dat Γ i = some d) : ∃ k, e[i]? = some (some (d, k)) := by
  unfold dat at hd
  split at hd
  · rename_i p hp
    obtain ⟨s, h1, h2⟩ := le_at h hp
    cases p with
    | un => cases hd
    | lo d' => cases hd; obtain ⟨k, _, rfl⟩ := h2; exact ⟨k, h1⟩
    | any d' => cases hd; obtain ⟨k, rfl⟩ := h2; exact ⟨k, h1⟩
    | ex d' k => cases hd; cases h2; exact ⟨k, h1⟩
  · cases hd
theorem low_ok {Γ : Gm} {e : En} {i : Nat} {d : D} (h : Le Γ e) (hd : low Γ i = some d) : ∃ k, k ≤ 1 ∧ e[i]? = some (some (d, k)) := by
  unfold low at hd
  split at hd
  · rename_i p hp
    obtain ⟨s, h1, h2⟩ := le_at h hp
    cases p with
    | un => cases hd
    | lo d' => cases hd; obtain ⟨k, hk, rfl⟩ := h2; exact ⟨k, hk, h1⟩
    | any d' => cases hd
    | ex d' k =>
      cases h2
      match k, hd with
      | 0, hd => cases hd; exact ⟨0, by decide, h1⟩
      | 1, hd => cases hd; exact ⟨1, by decide, h1⟩
      | _ + 2, hd => cases hd
  · cases hd
theorem set_same {e : En} {i : Nat} {s : Sl} (h : e[i]? = some s) : e.set i s = e := by
  apply List.ext_getElem?
  intro j
  rw [List.getElem?_set]
  split
  · rename_i q
    subst q
    split
    · exact h.symm
    · rename_i hl
      exact (hl (List.getElem?_eq_some_iff.mp h).1).elim
  · rfl

theorem nmO_0 {e : En} {i : Nat} {d : D} (h : e[i]? = some (some (d, 0))) : nmO i e = .ok (.val d) e := by
  unfold nmO; rw [h]; rfl
theorem nmO_1 {e : En} {i : Nat} {d : D} (h : e[i]? = some (some (d, 1))) : nmO i e = .ok (.pla i) e := by
  unfold nmO; rw [h]; rfl
inductive SpW : Sp → Sp → Prop
  | same {p} : SpW p p
  | un {p} : SpW p .un
  | any0 {d k} : SpW (.ex d k) (.any d)
  | any1 {d} : SpW (.lo d) (.any d)
  | lo0 {d} : SpW (.ex d 0) (.lo d)
  | lo1 {d} : SpW (.ex d 1) (.lo d)
inductive Wk : Gm → Gm → Prop
  | nil : Wk [] []
  | cons {p q Γ Δ} : SpW p q → Wk Γ Δ → Wk (p :: Γ) (q :: Δ)
theorem SpW.ok {p q : Sp} {s : Sl} (h : SpW p q) (o : p.Ok s) : q.Ok s := by
  cases h with
  | same => exact o
  | un => trivial
  | any0 => exact ⟨_, o⟩
  | any1 => obtain ⟨k, _, rfl⟩ := o; exact ⟨k, rfl⟩
  | lo0 => exact ⟨0, by decide, o⟩
  | lo1 => exact ⟨1, by decide, o⟩
theorem Wk.le : ∀ {Γ Δ : Gm} {e : En}, Wk Γ Δ → Le Γ e → Le Δ e
  | _, _, [], .nil, h => h
  | _, _, _ :: _, .nil, h => h.elim
  | _, _, [], .cons _ _, h => h.elim
  | _, _, _ :: _, .cons h w, o => ⟨h.ok o.1, w.le o.2⟩
theorem Wk.refl : ∀ {Γ : Gm}, Wk Γ Γ
  | [] => .nil
  | _ :: _ => .cons .same Wk.refl

def J {α : Type} (Γ : Gm) (f : En → R α) (a : α) (Γ' : Gm) : Prop := ∀ e, Le Γ e → ∃ e', f e = .ok a e' ∧ Le Γ' e'
def JO (Γ : Gm) (f : En → R Opd) (d : D) (q : Option Nat) (Γ' : Gm) : Prop := ∀ e, Le Γ e → ∃ o e', f e = .ok o e' ∧ Le Γ' e' ∧ (o = .val d ∨ ∃ i, q = some i ∧ o = .pla i)
def HQ (Γ : Gm) (q : Option Nat) (d : D) : Prop := ∀ i, q = some i → low Γ i = some d
theorem hq0 {Γ : Gm} {d : D} : HQ Γ none d := fun _ h => nomatch h
theorem hq1 {Γ : Gm} {i : Nat} {d : D} (h : low Γ i = some d) : HQ Γ (some i) d := fun j e => by cases e; exact h
theorem HQ.get {Γ : Gm} {q : Option Nat} {d : D} {o : Opd} {e : En} (h : HQ Γ q d) (l : Le Γ e) (ho : o = .val d ∨ ∃ i, q = some i ∧ o = .pla i) : o.get e = some d := by
  rcases ho with rfl | ⟨i, hi, rfl⟩
  · rfl
  · obtain ⟨k, hk, he⟩ := low_ok l (h i hi)
    unfold Opd.get
    match k, hk, he with
    | 0, _, he => simp only [he]
    | 1, _, he => simp only [he]
    | _ + 2, hk, _ => omega
section
variable {Γ Γ' Γ1 Γ2 Γ3 : Gm}
theorem j_int {i : Int} : J Γ (kI i) (.int i) Γ := fun e l => ⟨e, rfl, l⟩
theorem j_str {i : Str} : J Γ (kS i) (.str i) Γ := fun e l => ⟨e, rfl, l⟩
theorem j_bl {i : Bool} : J Γ (kB i) (.bl i) Γ := fun e l => ⟨e, rfl, l⟩
theorem j_non : J Γ kN .non Γ := fun e l => ⟨e, rfl, l⟩
theorem j_c {α : Type} {d : α} : J Γ (fun env => .ok d env) d Γ := fun e l => ⟨e, rfl, l⟩
theorem j_nm {i : Nat} {d : D} (h : at' Γ i = some (.ex d 0)) : J Γ (nmV i) d Γ := fun e l => by
  obtain ⟨s, h1, h2⟩ := le_at l h
  cases h2
  refine ⟨e, ?_, l⟩
  unfold nmV
  rw [h1]
  simp only
  rw [set_same h1]
theorem j_nmS {i : Nat} {d : D} (h : dat Γ i = some d) : J Γ (nmV i) d (put Γ i (.ex d 0)) := fun e l => by
  obtain ⟨k, h1⟩ := dat_ok l h
  refine ⟨e.set i (some (d, 0)), ?_, le_put l rfl⟩
  unfold nmV
  rw [h1]
theorem jo_nm {i : Nat} {d : D} (h : at' Γ i = some (.ex d 0)) : JO Γ (nmO i) d none Γ := fun e l => by
  obtain ⟨s, h1, h2⟩ := le_at l h
  cases h2
  exact ⟨.val d, e, nmO_0 h1, l, .inl rfl⟩
theorem jo_nm1 {i : Nat} {d : D} (h : at' Γ i = some (.ex d 1)) : JO Γ (nmO i) d (some i) Γ := fun e l => by
  obtain ⟨s, h1, h2⟩ := le_at l h
  cases h2
  exact ⟨.pla i, e, nmO_1 h1, l, .inr ⟨i, rfl, rfl⟩⟩
theorem jo_nmL {i : Nat} {d : D} (h : at' Γ i = some (.lo d)) : JO Γ (nmO i) d (some i) Γ := fun e l => by
  obtain ⟨s, h1, h2⟩ := le_at l h
  obtain ⟨k, hk, rfl⟩ := h2
  match k, hk, h1 with
  | 0, _, h1 => exact ⟨.val d, e, nmO_0 h1, l, .inl rfl⟩
  | 1, _, h1 => exact ⟨.pla i, e, nmO_1 h1, l, .inr ⟨i, rfl, rfl⟩⟩
  | _ + 2, hk, _ => omega
theorem j_v {f : En → R (D × Nat)} {d : D} {k : Nat} (h : J Γ f (d, k) Γ') : J Γ (vOfE f) d Γ' := fun e l => by
  obtain ⟨e', h1, h2⟩ := h e l
  exact ⟨e', by unfold vOfE; rw [h1]; rfl, h2⟩
theorem j_e {f : En → R D} {d : D} (h : J Γ f d Γ') : J Γ (eOfV f) (d, 0) Γ' := fun e l => by
  obtain ⟨e', h1, h2⟩ := h e l
  exact ⟨e', by unfold eOfV; rw [h1]; rfl, h2⟩
theorem jo_v {f : En → R D} {d : D} (h : J Γ f d Γ') : JO Γ (oOfV f) d none Γ' := fun e l => by
  obtain ⟨e', h1, h2⟩ := h e l
  exact ⟨.val d, e', by unfold oOfV; rw [h1]; rfl, h2, .inl rfl⟩
theorem j_op1 {g : D → Option (D × Nat)} {fa : En → R Opd} {d : D} {q : Option Nat} {p : D × Nat} (ha : JO Γ fa d q Γ1) (h1 : HQ Γ1 q d) (hg : g d = some p) : J Γ (op1 g fa) p Γ1 := fun e l => by
  obtain ⟨o, e1, a1, a2, a3⟩ := ha e l
  refine ⟨e1, ?_, a2⟩
  unfold op1
  rw [a1]
  simp only [R.bind_ok, h1.get a2 a3, hg, R.of_some]
theorem j_op2 {g : D → D → Option (D × Nat)} {fa fb : En → R Opd} {d d' : D} {q q' : Option Nat} {p : D × Nat} (ha : JO Γ fa d q Γ1) (hb : JO Γ1 fb d' q' Γ2) (h1 : HQ Γ2 q d) (h2 : HQ Γ2 q' d') (hg : g d d' = some p) : J Γ (op2 g fa fb) p Γ2 := fun e l => by
  obtain ⟨o, e1, a1, a2, a3⟩ := ha e l
  obtain ⟨o', e2, b1, b2, b3⟩ := hb e1 a2
  refine ⟨e2, ?_, b2⟩
  unfold op2
  rw [a1]
  simp only [R.bind_ok, b1, h1.get b2 a3, h2.get b2 b3, hg, R.of_some]
theorem jp_none : J Γ pNone none Γ := fun e l => ⟨e, rfl, l⟩
theorem jp_some {f : En → R D} {i : Int} (h : J Γ f (.int i) Γ') : J Γ (pSome f) (some i) Γ' := fun e l => by
  obtain ⟨e', h1, h2⟩ := h e l
  exact ⟨e', by unfold pSome; rw [h1]; rfl, h2⟩
theorem j_slice {fa : En → R Opd} {fl fu : En → R (Option Int)} {d : D} {q : Option Nat} {i j : Option Int} {p : D × Nat} (ha : JO Γ fa d q Γ1) (hl : J Γ1 fl i Γ2) (hu : J Γ2 fu j Γ3) (h1 : HQ Γ3 q d) (hg : slD d i j = some p) : J Γ (opS fa fl fu) p Γ3 := fun e l => by
  obtain ⟨o, e1, a1, a2, a3⟩ := ha e l
  obtain ⟨e2, b1, b2⟩ := hl e1 a2
  obtain ⟨e3, c1, c2⟩ := hu e2 b2
  refine ⟨e3, ?_, c2⟩
  unfold opS
  rw [a1]
  simp only [R.bind_ok, b1, c1, h1.get c2 a3, hg, R.of_some]
theorem jt_tst {f : En → R (D × Nat)} {b : Bool} {k : Nat} (h : J Γ f (.bl b, k) Γ') : J Γ (tst f) b Γ' := fun e l => by
  obtain ⟨e', h1, h2⟩ := h e l
  exact ⟨e', by unfold tst; rw [h1]; rfl, h2⟩
theorem jt_tru {fa : En → R Opd} {d : D} {q : Option Nat} {b : Bool} (ha : JO Γ fa d q Γ1) (h1 : HQ Γ1 q d) (hg : truD d = some b) : J Γ (tru fa) b Γ1 := fun e l => by
  obtain ⟨o, e1, a1, a2, a3⟩ := ha e l
  refine ⟨e1, ?_, a2⟩
  unfold tru
  rw [a1]
  simp only [R.bind_ok, h1.get a2 a3, hg, R.of_some]
theorem jt_not {f : En → R Bool} {b : Bool} (h : J Γ f b Γ') : J Γ (notT f) (!b) Γ' := fun e l => by
  obtain ⟨e', h1, h2⟩ := h e l
  exact ⟨e', by unfold notT; rw [h1]; rfl, h2⟩
theorem jt_and {f g : En → R Bool} {b c : Bool} (h : J Γ f b Γ1) (k : b = true → J Γ1 g c Γ1) : J Γ (andT f g) (b && c) Γ1 := fun e l => by
  obtain ⟨e', h1, h2⟩ := h e l
  unfold andT
  rw [h1]
  simp only [R.bind_ok]
  cases b with
  | false => exact ⟨e', rfl, h2⟩
  | true => simpa using k rfl e' h2
theorem jt_or {f g : En → R Bool} {b c : Bool} (h : J Γ f b Γ1) (k : b = false → J Γ1 g c Γ1) : J Γ (orT f g) (b || c) Γ1 := fun e l => by
  obtain ⟨e', h1, h2⟩ := h e l
  unfold orT
  rw [h1]
  simp only [R.bind_ok]
  cases b with
  | true => exact ⟨e', rfl, h2⟩
  | false => simpa using k rfl e' h2
theorem jv_or {f g : En → R D} {b c : Bool} (h : J Γ f (.bl b) Γ1) (k : b = false → J Γ1 g (.bl c) Γ1) : J Γ (orV f g) (.bl (b || c)) Γ1 := fun e l => by
  obtain ⟨e', h1, h2⟩ := h e l
  unfold orV vbl
  rw [h1]
  simp only [R.bind_ok]
  cases b with
  | true => exact ⟨e', rfl, h2⟩
  | false => simpa using k rfl e' h2
theorem j_ite {α τ : Type} {E : τ → α} {c : En → R Bool} {f g : En → R α} {b : Bool} {v1 v2 : τ} (h : J Γ c b Γ1) (k1 : b = true → J Γ1 f (E v1) Γ2) (k2 : b = false → J Γ1 g (E v2) Γ2) : J Γ (iteE c f g) (E (cond b v1 v2)) Γ2 := fun e l => by
  obtain ⟨e', h1, h2⟩ := h e l
  unfold iteE
  rw [h1]
  simp only [R.bind_ok]
  cases b with
  | true => exact k1 rfl e' h2
  | false => exact k2 rfl e' h2
theorem ja_nil : J Γ aNil [] Γ := fun e l => ⟨e, rfl, l⟩
theorem ja_cons {u : En → R D} {r : En → R (List D)} {d : D} {ds : List D} (h : J Γ u d Γ1) (k : J Γ1 r ds Γ2) : J Γ (aCons u r) (d :: ds) Γ2 := fun e l => by
  obtain ⟨e1, a1, a2⟩ := h e l
  obtain ⟨e2, b1, b2⟩ := k e1 a2
  exact ⟨e2, by unfold aCons; rw [a1]; simp only [R.bind_ok, b1], b2⟩
theorem jl_nil : J Γ lNil [] Γ := fun e l => ⟨e, rfl, l⟩
theorem jl_cons {u : En → R (D × Nat)} {r : En → R (List (D × Nat))} {d : D × Nat} {ds : List (D × Nat)} (h : J Γ u d Γ1) (k : J Γ1 r ds Γ2) : J Γ (lCons u r) (d :: ds) Γ2 := fun e l => by
  obtain ⟨e1, a1, a2⟩ := h e l
  obtain ⟨e2, b1, b2⟩ := k e1 a2
  exact ⟨e2, by unfold lCons; rw [a1]; simp only [R.bind_ok, b1], b2⟩
theorem j_tup {r : En → R (List D)} {ds : List D} (h : J Γ r ds Γ') (hl : Nat.ble ds.length 1000 = true) : J Γ (tupE r) (.tup ds) Γ' := fun e l => by
  obtain ⟨e', h1, h2⟩ := h e l
  exact ⟨e', by unfold tupE; rw [h1]; simp only [R.bind_ok]; rw [if_pos (Nat.le_trans (Nat.le_of_ble_eq_true hl) (by decide))], h2⟩
theorem j_lst {r : En → R (List D)} {ds : List D} (h : J Γ r ds Γ') (hl : Nat.ble ds.length 1000 = true) : J Γ (lstE r) (.lst ds, 1) Γ' := fun e l => by
  obtain ⟨e', h1, h2⟩ := h e l
  exact ⟨e', by unfold lstE; rw [h1]; simp only [R.bind_ok]; rw [if_pos (Nat.le_trans (Nat.le_of_ble_eq_true hl) (by decide))], h2⟩
theorem j_call {n : Nat} {F : Sl → List D → FR} {r : En → R (List D)} {ds : List D} {p : D × Nat} {s : Sl} (h : J Γ r ds Γ') (hn : Nat.beq ds.length n = true) (hF : F none ds = .ok p s) : J Γ (callF n F r) p Γ' := fun e l => by
  obtain ⟨e', h1, h2⟩ := h e l
  refine ⟨e', ?_, h2⟩
  unfold callF
  rw [h1]
  simp only [R.bind_ok, Nat.eq_of_beq_eq_true hn, if_true, hF, frR]
def JG (Γ : Gm) (g : D → En → Option En) (d : D) (Γ' : Gm) : Prop := ∀ e, Le Γ e → ∃ e', g d e = some e' ∧ Le Γ' e'
def JGs (Γ : Gm) (g : List D → En → Option En) (ds : List D) (Γ' : Gm) : Prop := ∀ e, Le Γ e → ∃ e', g ds e = some e' ∧ Le Γ' e'
theorem at_lt {i : Nat} {p : Sp} {e : En} (h : at' Γ i = some p) (l : Le Γ e) : i < e.length := by
  obtain ⟨s, h1, _⟩ := le_at l h
  exact (List.getElem?_eq_some_iff.mp h1).1
theorem jg_name {i : Nat} {d : D} {p : Sp} (h : at' Γ i = some p) : JG Γ (nameG i) d (put Γ i (.ex d 0)) := fun e l =>
  ⟨e.set i (some (d, 0)), by unfold nameG; rw [if_pos (at_lt h l)], le_put l rfl⟩
theorem jg_nil : JGs Γ nilG [] Γ := fun e l => ⟨e, rfl, l⟩
theorem jg_cons {g : D → En → Option En} {r : List D → En → Option En} {d : D} {ds : List D} (h : JG Γ g d Γ1) (k : JGs Γ1 r ds Γ2) : JGs Γ (consG g r) (d :: ds) Γ2 := fun e l => by
  obtain ⟨e1, a1, a2⟩ := h e l
  obtain ⟨e2, b1, b2⟩ := k e1 a2
  exact ⟨e2, by unfold consG; simp only [a1, Option.bind_some, b1], b2⟩
theorem jg_tup {n : Nat} {r : List D → En → Option En} {ds : List D} (hn : Nat.beq ds.length n = true) (h : JGs Γ r ds Γ') : JG Γ (tupG n r) (.tup ds) Γ' := fun e l => by
  obtain ⟨e', h1, h2⟩ := h e l
  refine ⟨e', ?_, h2⟩
  unfold tupG
  simp only [Nat.eq_of_beq_eq_true hn, if_true, h1]
theorem ji_seq {f : En → R D} {d : D} {ds : List D} (h : J Γ f d Γ') (hd : itsD d = some ds) : J Γ (seqI' f) ds Γ' := fun e l => by
  obtain ⟨e', h1, h2⟩ := h e l
  exact ⟨e', by unfold seqI'; rw [h1]; simp only [R.bind_ok, hd, R.of_some], h2⟩
theorem ji_rg1 {f : En → R (List D)} {as ds : List D} (h : J Γ f as Γ') (hd : rg1D as = some ds) : J Γ (rg1 f) ds Γ' := fun e l => by
  obtain ⟨e', h1, h2⟩ := h e l
  exact ⟨e', by unfold rg1; rw [h1]; simp only [R.bind_ok, hd, R.of_some], h2⟩
theorem ji_rg2 {f : En → R (List D)} {as ds : List D} (h : J Γ f as Γ') (hd : rg2D as = some ds) : J Γ (rg2 f) ds Γ' := fun e l => by
  obtain ⟨e', h1, h2⟩ := h e l
  exact ⟨e', by unfold rg2; rw [h1]; simp only [R.bind_ok, hd, R.of_some], h2⟩
theorem ji_zip {f : En → R (List D)} {as ds : List D} (h : J Γ f as Γ') (hd : zipD2 as = some ds) : J Γ (zipI f) ds Γ' := fun e l => by
  obtain ⟨e', h1, h2⟩ := h e l
  exact ⟨e', by unfold zipI; rw [h1]; simp only [R.bind_ok, hd, R.of_some], h2⟩
theorem ji_enum {f : En → R (List D)} {as ds : List D} (h : J Γ f as Γ') (hd : enumD as = some ds) : J Γ (enumI f) ds Γ' := fun e l => by
  obtain ⟨e', h1, h2⟩ := h e l
  exact ⟨e', by unfold enumI; rw [h1]; simp only [R.bind_ok, hd, R.of_some], h2⟩
end
end Tv
end

section
set_option Elab.async false
set_option linter.all false
set_option maxRecDepth 100000
set_option maxHeartbeats 4000000
namespace Tv
open PySem Pv

def Let.{u} {α : Type} {β : Sort u} (v : α) (K : α → β) : β := K v
def wipe (Γ : Gm) : List Nat → Gm
  | [] => Γ
  | v :: vs => put (wipe Γ vs) v .un
def keep0 : Option Sp → Sp
  | some (.ex d 0) => .ex d 0
  | _ => .un
def back (Γ1 W : Gm) : List Nat → Gm
  | [] => W
  | v :: vs => put (back Γ1 W vs) v (keep0 (at' Γ1 v))
theorem le_wipe {Γ : Gm} {e : En} (l : Le Γ e) : ∀ vs : List Nat, Le (wipe Γ vs) (wipeE e vs)
  | [] => l
  | v :: vs => le_put (le_wipe l vs) trivial
theorem le_back {Γ1 W : Gm} {e1 e2 : En} (l1 : Le Γ1 e1) (l : Le W e2) : ∀ vs : List Nat, Le (back Γ1 W vs) (backE e1 e2 vs)
  | [] => l
  | v :: vs => by
    refine le_put (le_back l1 l vs) ?_
    cases h : at' Γ1 v with
    | none => trivial
    | some p =>
      cases p with
      | un => trivial
      | lo d => trivial
      | any d => trivial
      | ex d k =>
        match k with
        | 0 =>
          obtain ⟨s, h1, h2⟩ := le_at l1 h
          cases h2
          rw [h1]
          rfl
        | _ + 1 => trivial
section
variable {Γ Γ' Γ1 Γ2 Γ3 : Gm}
theorem compL_ok {β τ : Type} {g : D → En → Option En} {te : En → R (D × Nat)} {m : Nat} {vs : List Nat} {eb : β → D} {eF : τ → D} {F : β → τ} {S : β → Prop} {W : Gm} {Γb Γe : β → Gm}
    (hg : ∀ b, JG W g (eb b) (Γb b)) (he : ∀ b, S b → J (Γb b) te (eF (F b), m) (Γe b)) (hw : ∀ b, Wk (wipe (Γe b) vs) W) : ∀ (bs : List β) (e : En) (acc : List D), (∀ b ∈ bs, S b) → Le W e → acc.length + bs.length ≤ lim →
      ∃ e', compL g yesT te m vs (bs.map eb) e acc = .ok (acc ++ (bs.map F).map eF) e' ∧ Le W e'
  | [], e, acc, _, l, _ => ⟨e, by simp [compL], l⟩
  | b :: bs, e, acc, hS, l, hl => by
    obtain ⟨e1, a1, a2⟩ := hg b e l
    obtain ⟨e2, b1, b2⟩ := he b (hS b List.mem_cons_self) e1 a2
    have l2 : Le W (wipeE e2 vs) := (hw b).le (le_wipe b2 vs)
    have hl' : acc.length < lim := by simp only [List.length_cons] at hl; omega
    obtain ⟨e3, c1, c2⟩ := compL_ok hg he hw bs (wipeE e2 vs) (acc ++ [eF (F b)]) (fun b' h => hS b' (List.mem_cons_of_mem _ h)) l2 (by simp only [List.length_append, List.length_cons, List.length_nil] at hl ⊢; omega)
    refine ⟨e3, ?_, c2⟩
    rw [List.map_cons]
    unfold compL
    rw [a1]
    simp only [yesT, R.noX_ok, R.bind_ok, if_true, b1, hl', and_self, c1, List.append_assoc, List.singleton_append, List.map_cons]
theorem j_comp {β τ : Type} {fi : En → R (List D)} {g : D → En → Option En} {te : En → R (D × Nat)} {m : Nat} {vs : List Nat} {bs : List β} (eb : β → D) (eF : τ → D) (F : β → τ) (W : Gm) {S : β → Prop} {Γb Γe : β → Gm}
    (hi : J Γ fi (bs.map eb) Γ1) (w : Wk (wipe Γ1 vs) W) (hl : bs.length ≤ lim) (hS : ∀ b ∈ bs, S b)
    (hg : ∀ b, JG W g (eb b) (Γb b)) (he : ∀ b, S b → J (Γb b) te (eF (F b), m) (Γe b)) (hw : ∀ b, Wk (wipe (Γe b) vs) W) :
    J Γ (comp fi g yesT te m vs) (.lst ((bs.map F).map eF), m + 1) (back Γ1 W vs) := fun e l => by
  obtain ⟨e1, a1, a2⟩ := hi e l
  obtain ⟨e2, b1, b2⟩ := compL_ok hg he hw bs (wipeE e1 vs) [] hS (w.le (le_wipe a2 vs)) (by simpa using hl)
  refine ⟨backE e1 e2 vs, ?_, le_back a2 b2 vs⟩
  unfold comp
  rw [a1]
  simp only [R.bind_ok, b1, List.nil_append]
def JK {τ : Type} (P : τ → SR → Prop) (Γ : Gm) (f : En → SR) (v : τ) : Prop := ∀ e, Le Γ e → P v (f e)
def PF {τ : Type} (E : τ → D × Nat) (v : τ) (r : SR) : Prop := (∃ e, r = .ret (E v) e) ∨ (∃ e, r = .nx e ∧ E v = (.non, 0))
def PN {τ : Type} (G : τ → Gm) (v : τ) (r : SR) : Prop := ∃ e, r = .nx e ∧ Le (G v) e
def PL {τ : Type} (G : τ → Gm) (v : τ) (r : SR) : Prop := ∃ e, (r = .nx e ∨ r = .ct e) ∧ Le (G v) e
inductive Stp (σ ρ : Type) where
  | go (s : σ) | brk (s : σ) | ret (x : ρ)
def PX {σ ρ : Type} (G : σ → Gm) (E : ρ → D × Nat) : Stp σ ρ → SR → Prop
  | .go s, r => ∃ e, (r = .nx e ∨ r = .ct e) ∧ Le (G s) e
  | .brk s, r => ∃ e, r = .bk e ∧ Le (G s) e
  | .ret x, r => ∃ e, r = .ret (E x) e
section
variable {τ : Type} {P : τ → SR → Prop} {v : τ} {rest : En → SR}
theorem jk_last {f : En → SR} (h : JK P Γ (seqS f passS) v) : JK P Γ f v := fun e l => by
  have := h e l
  unfold seqS passS at this
  cases q : f e with
  | nx e' => rw [q] at this; exact this
  | _ => rw [q] at this; exact this
theorem jk_assoc {a b c : En → SR} (h : JK P Γ (seqS a (seqS b c)) v) : JK P Γ (seqS (seqS a b) c) v := fun e l => by
  have := h e l
  unfold seqS at this ⊢
  cases q : a e with
  | nx e' => rw [q] at this; exact this
  | _ => rw [q] at this; exact this
theorem jk_pass (h : JK P Γ rest v) : JK P Γ (seqS passS rest) v := h
theorem jk_expr {fe : En → R (D × Nat)} {p : D × Nat} (h : J Γ fe p Γ1) (k : JK P Γ1 rest v) : JK P Γ (seqS (exprS fe) rest) v := fun e l => by
  obtain ⟨e', h1, h2⟩ := h e l
  have : seqS (exprS fe) rest e = rest e' := seqS_nx (by unfold exprS; rw [h1]; rfl)
  rw [this]
  exact k e' h2
theorem jk_set {α : Type} (en : α → D) {n i : Nat} {fe : En → R (D × Nat)} {x : α} {K : α → τ} {S : α → Prop} (h : J Γ fe (en x, n) Γ1) (hi : (at' Γ1 i).isSome = true) (hS : Let x S) (k : ∀ x, S x → JK P (put Γ1 i (.ex (en x) n)) rest (K x)) : JK P Γ (seqS (setS i fe) rest) (Let x K) := fun e l => by
  obtain ⟨e', h1, h2⟩ := h e l
  obtain ⟨p, hp⟩ := Option.isSome_iff_exists.mp hi
  have : seqS (setS i fe) rest e = rest (e'.set i (some (en x, n))) := seqS_nx (by unfold setS; rw [h1]; simp only [Pv.R.then_ok]; unfold putE; rw [if_pos (at_lt hp h2)])
  rw [this]
  exact k x hS _ (le_put h2 rfl)
theorem jk_abs {α : Type} {f : En → SR} {x : α} {G : α → Gm} {K : α → τ} {S : α → Prop} (hS : Let x S) (w : Wk Γ (G x)) (k : ∀ x, S x → JK P (G x) f (K x)) : JK P Γ f (Let x K) := fun e l => k x hS e (w.le l)
theorem jk_par {α β : Type} (en : α → D) (en' : β → D) {n n' i j : Nat} {fa : En → R (List (D × Nat))} {x : α} {y : β} {K : α → β → τ} {S : α → β → Prop} (h : J Γ fa [(en x, n), (en' y, n')] Γ1) (hi : (at' Γ1 i).isSome = true) (hj : (at' Γ1 j).isSome = true)
    (hS : Let x fun x => Let y fun y => S x y) (k : ∀ x y, S x y → JK P (put (put Γ1 i (.ex (en x) n)) j (.ex (en' y) n')) rest (K x y)) : JK P Γ (seqS (parS i j fa) rest) (Let x fun x => Let y fun y => K x y) := fun e l => by
  obtain ⟨e', h1, h2⟩ := h e l
  obtain ⟨p, hp⟩ := Option.isSome_iff_exists.mp hi
  obtain ⟨q, hq⟩ := Option.isSome_iff_exists.mp hj
  have : seqS (parS i j fa) rest e = rest ((e'.set i (some (en x, n))).set j (some (en' y, n'))) := seqS_nx (by unfold parS; rw [h1]; simp only [Pv.R.then_ok]; rw [if_pos ⟨at_lt hp h2, at_lt hq h2⟩])
  rw [this]
  exact k x y hS _ (le_put (le_put h2 rfl) rfl)
theorem jk_asg {α : Type} (E : α → D) {g : D → En → Option En} {f : En → R D} {x : α} {K : α → τ} {S : α → Prop} {Γx : α → Gm} (h : J Γ f (E x) Γ1) (hS : Let x S) (hg : ∀ x, JG Γ1 g (E x) (Γx x)) (k : ∀ x, S x → JK P (Γx x) rest (K x)) : JK P Γ (seqS (asgS g f) rest) (Let x K) := fun e l => by
  obtain ⟨e', h1, h2⟩ := h e l
  obtain ⟨e2, g1, g2⟩ := hg x e' h2
  have : seqS (asgS g f) rest e = rest e2 := seqS_nx (by unfold asgS; rw [h1]; simp only [Pv.R.then_ok, g1])
  rw [this]
  exact k x hS _ g2
theorem jk_app {α : Type} (ea : α → D) {i : Nat} {fe : En → R D} {xs : List α} {a : α} {K : List α → τ} {S : List α → Prop} (h0 : at' Γ i = some (.ex (.lst (xs.map ea)) 1)) (h : J Γ fe (ea a) Γ1) (h1 : at' Γ1 i = some (.ex (.lst (xs.map ea)) 1)) (hl : xs.length < lim) (hS : Let (xs ++ [a]) S)
    (k : ∀ xs, S xs → JK P (put Γ1 i (.ex (.lst (xs.map ea)) 1)) rest (K xs)) : JK P Γ (seqS (appS i fe) rest) (Let (xs ++ [a]) K) := fun e l => by
  obtain ⟨s, q1, q2⟩ := le_at l h0
  cases q2
  obtain ⟨e', r1, r2⟩ := h e l
  obtain ⟨s', t1, t2⟩ := le_at r2 h1
  cases t2
  have : seqS (appS i fe) rest e = rest (e'.set i (some (.lst ((xs ++ [a]).map ea), 1))) := seqS_nx (by
    unfold appS
    rw [if_pos (by rw [q1]; rfl), r1]
    simp only [Pv.R.then_ok, t1, List.length_map, hl, if_true, List.map_append, List.map_cons, List.map_nil])
  rw [this]
  exact k _ hS _ (le_put r2 rfl)
theorem ixN_nat {n k : Nat} (h : k < n) : L2.ixN n (k : Int) = some k := by
  have h1 : (0 : Int) ≤ (k : Int) := by omega
  have h2 : (k : Int) < (n : Int) := by omega
  simp [L2.ixN, h1, h2]
theorem ixN_int {n : Nat} {i : Int} (h0 : 0 ≤ i) (h : i.toNat < n) : L2.ixN n i = some i.toNat := by
  obtain ⟨k, rfl⟩ : ∃ k : Nat, i = k := ⟨i.toNat, by omega⟩
  exact ixN_nat (by simpa using h)
theorem ixn {a n : Nat} (h : a < n) : 0 ≤ (a : Int) ∧ (a : Int).toNat < n := ⟨Int.natCast_nonneg _, h⟩
theorem jk_sub {α : Type} (ea : α → D) {i : Nat} {fe fi : En → R D} {xs : List α} {a : α} {j : Int} {K : List α → τ} {S : List α → Prop} (h : J Γ fe (ea a) Γ1) (h1 : at' Γ1 i = some (.ex (.lst (xs.map ea)) 1)) (hj : J Γ1 fi (.int j) Γ2) (h2 : at' Γ2 i = some (.ex (.lst (xs.map ea)) 1)) (hl : 0 ≤ j ∧ j.toNat < xs.length) (hS : Let (xs.set j.toNat a) S)
    (k : ∀ xs, S xs → JK P (put Γ2 i (.ex (.lst (xs.map ea)) 1)) rest (K xs)) : JK P Γ (seqS (sItS i fe fi) rest) (Let (xs.set j.toNat a) K) := fun e l => by
  obtain ⟨e1, r1, r2⟩ := h e l
  obtain ⟨s, q1, q2⟩ := le_at r2 h1
  cases q2
  obtain ⟨e2, u1, u2⟩ := hj e1 r2
  obtain ⟨s', t1, t2⟩ := le_at u2 h2
  cases t2
  have : seqS (sItS i fe fi) rest e = rest (e2.set i (some (.lst ((xs.set j.toNat a).map ea), 1))) := seqS_nx (by
    unfold sItS
    rw [r1]
    simp only [Pv.R.then_ok, q1, u1, t1, putD, List.length_map, ixN_int hl.1 hl.2, Option.map_some, List.map_set])
  rw [this]
  exact k _ hS _ (le_put u2 rfl)
theorem jk_if {c : En → R Bool} {A B : En → SR} {b : Bool} {v1 v2 : τ} (h : J Γ c b Γ1) (k1 : b = true → JK P Γ1 (seqS A rest) v1) (k2 : b = false → JK P Γ1 (seqS B rest) v2) : JK P Γ (seqS (iteS c A B) rest) (cond b v1 v2) := fun e l => by
  obtain ⟨e', h1, h2⟩ := h e l
  cases b with
  | true =>
    have : seqS (iteS c A B) rest e = seqS A rest e' := by
      unfold seqS
      rw [iteS_t h1]
    rw [this]
    exact k1 rfl e' h2
  | false =>
    have : seqS (iteS c A B) rest e = seqS B rest e' := by
      unfold seqS
      rw [iteS_f h1]
    rw [this]
    exact k2 rfl e' h2
theorem jk_ifx {c : En → R Bool} {A B : En → SR} {b : Bool} (h : J Γ c b Γ1) (hb : b = false) (k : JK P Γ1 (seqS B rest) v) : JK P Γ (seqS (iteS c A B) rest) v := by
  have := jk_if (A := A) (B := B) (rest := rest) (v1 := v) (v2 := v) h (fun q => by rw [hb] at q; cases q) fun _ => k
  cases b with
  | true => cases hb
  | false => exact this
theorem jk_ifn {α : Type} {c : En → R Bool} {A B : En → SR} {b : Bool} {x1 x2 : α} {K : α → τ} {S : α → Prop} (G : α → Gm) (h : J Γ c b Γ1) (k1 : b = true → JK (PN G) Γ1 A x1) (k2 : b = false → JK (PN G) Γ1 B x2) (hS : Let (cond b x1 x2) S) (k : ∀ x, S x → JK P (G x) rest (K x)) :
    JK P Γ (seqS (iteS c A B) rest) (Let (cond b x1 x2) K) := fun e l => by
  obtain ⟨e', h1, h2⟩ := h e l
  cases b with
  | true =>
    obtain ⟨e2, q1, q2⟩ := k1 rfl e' h2
    have : seqS (iteS c A B) rest e = rest e2 := seqS_nx (by rw [iteS_t h1]; exact q1)
    rw [this]
    exact k _ hS e2 q2
  | false =>
    obtain ⟨e2, q1, q2⟩ := k2 rfl e' h2
    have : seqS (iteS c A B) rest e = rest e2 := seqS_nx (by rw [iteS_f h1]; exact q1)
    rw [this]
    exact k _ hS e2 q2
theorem jk_ret {E : τ → D × Nat} {fe : En → R (D × Nat)} (h : J Γ fe (E v) Γ1) : JK (PF E) Γ (seqS (retS fe) rest) v := fun e l => by
  obtain ⟨e', h1, h2⟩ := h e l
  exact .inl ⟨e', seqS_ret (by unfold retS; rw [h1]; rfl)⟩
theorem jk_retM {E : τ → D × Nat} {i : Nat} {d : D} {n : Nat} (h : at' Γ i = some (.ex d n)) (hE : E v = (d, n)) : JK (PF E) Γ (seqS (retM i) rest) v := fun e l => by
  obtain ⟨s, h1, h2⟩ := le_at l h
  cases h2
  exact .inl ⟨e.set i none, seqS_ret (by unfold retM; rw [h1, hE])⟩
theorem jk_none {E : τ → D × Nat} (hE : E v = (.non, 0)) : JK (PF E) Γ passS v := fun e l => .inr ⟨e, rfl, hE⟩
theorem jk_nx {G : τ → Gm} (w : Wk Γ (G v)) : JK (PN G) Γ passS v := fun e l => ⟨e, rfl, w.le l⟩
theorem jk_go {G : τ → Gm} (w : Wk Γ (G v)) : JK (PL G) Γ passS v := fun e l => ⟨e, .inl rfl, w.le l⟩
end
section
variable {σ ρ : Type} {G : σ → Gm} {E : ρ → D × Nat} {rest : En → SR}
end

def AllF {σ β : Type} (S : σ → β → Prop) (step : σ → β → σ) : List β → σ → Prop
  | [], _ => True
  | b :: bs, s => S s b ∧ AllF S step bs (step s b)
theorem allF_ix {σ β : Type} {S : σ → β → Prop} {step : σ → β → σ} (I : Nat → σ → Prop) : ∀ {bs : List β} {s : σ}, I 0 s → (∀ (i : Nat) (hi : i < bs.length) s, I i s → S s bs[i] ∧ I (i + 1) (step s bs[i])) → AllF S step bs s
  | [], _, _, _ => trivial
  | b :: bs, s, h0, h => by
    have q := h 0 (by simp) s h0
    exact ⟨q.1, allF_ix (fun i => I (i + 1)) q.2 fun i hi s hs => h (i + 1) (Nat.succ_lt_succ hi) s hs⟩
theorem foldl_ix {σ β : Type} {step : σ → β → σ} (I : Nat → σ → Prop) : ∀ {bs : List β} {s : σ}, I 0 s → (∀ (i : Nat) (hi : i < bs.length) s, I i s → I (i + 1) (step s bs[i])) → I bs.length (bs.foldl step s)
  | [], _, h0, _ => h0
  | b :: bs, s, h0, h => by
    rw [List.foldl_cons, List.length_cons]
    exact foldl_ix (fun i => I (i + 1)) (h 0 (by simp) s h0) fun i hi s hs => h (i + 1) (Nat.succ_lt_succ hi) s hs
theorem loop_ok {σ β : Type} {G : σ → Gm} {g : D → En → Option En} {body : En → SR} {eb : β → D} {step : σ → β → σ} {S : σ → β → Prop} {Γt : σ → β → Gm} (hg : ∀ s b, JG (G s) g (eb b) (Γt s b)) (hb : ∀ s b, S s b → JK (PL G) (Γt s b) body (step s b)) :
    ∀ (bs : List β) (s : σ) (e : En), AllF S step bs s → Le (G s) e → ∃ e', loopS g body (bs.map eb) e = .nx e' ∧ Le (G (bs.foldl step s)) e'
  | [], s, e, _, l => ⟨e, rfl, l⟩
  | b :: bs, s, e, h, l => by
    obtain ⟨e1, a1, a2⟩ := hg s b e l
    obtain ⟨e2, b1, b2⟩ := hb s b h.1 e1 a2
    obtain ⟨e3, c1, c2⟩ := loop_ok hg hb bs (step s b) e2 h.2 b2
    refine ⟨e3, ?_, c2⟩
    rw [List.map_cons]
    unfold loopS
    rw [a1]
    rcases b1 with b1 | b1 <;> simp only [b1] <;> exact c1
theorem jk_for {σ β τ : Type} {P : τ → SR → Prop} {rest : En → SR} {fi : En → R (List D)} {g : D → En → Option En} {body : En → SR} {bs : List β} {s0 : σ} (G : σ → Gm) (eb : β → D) {step : σ → β → σ} {SB : σ → β → Prop} {Γt : σ → β → Gm} {K : σ → τ} {S : σ → Prop}
    (hi : J Γ fi (bs.map eb) Γ1) (w : Wk Γ1 (G s0)) (hA : AllF SB step bs s0) (hg : ∀ s b, JG (G s) g (eb b) (Γt s b)) (hb : ∀ s b, SB s b → JK (PL G) (Γt s b) body (step s b)) (hS : Let (bs.foldl step s0) S) (k : ∀ s, S s → JK P (G s) rest (K s)) :
    JK P Γ (seqS (forS fi g body) rest) (Let (bs.foldl step s0) K) := fun e l => by
  obtain ⟨e1, a1, a2⟩ := hi e l
  obtain ⟨e2, b1, b2⟩ := loop_ok hg hb bs s0 e1 hA (w.le a2)
  have : seqS (forS fi g body) rest e = rest e2 := seqS_nx ((forS_ok a1).trans b1)
  rw [this]
  exact k _ hS e2 b2
def loopT {σ β ρ : Type} (step : σ → β → Stp σ ρ) : List β → σ → Stp σ ρ
  | [], s => .go s
  | b :: bs, s => match step s b with
    | .go s => loopT step bs s
    | .brk s => .brk s
    | .ret x => .ret x
def AllX {σ β ρ : Type} (S : σ → β → Prop) (step : σ → β → Stp σ ρ) : List β → σ → Prop
  | [], _ => True
  | b :: bs, s => S s b ∧ match step s b with
    | .go s => AllX S step bs s
    | _ => True
theorem loopX_ok {σ β ρ : Type} {G : σ → Gm} {E : ρ → D × Nat} {g : D → En → Option En} {body : En → SR} {eb : β → D} {step : σ → β → Stp σ ρ} {S : σ → β → Prop} {Γt : σ → β → Gm} (hg : ∀ s b, JG (G s) g (eb b) (Γt s b)) (hb : ∀ s b, S s b → JK (PX G E) (Γt s b) body (step s b)) :
    ∀ (bs : List β) (s : σ) (e : En), AllX S step bs s → Le (G s) e → (match loopT step bs s with
      | .go s' => ∃ e', loopS g body (bs.map eb) e = .nx e' ∧ Le (G s') e'
      | .brk s' => ∃ e', loopS g body (bs.map eb) e = .nx e' ∧ Le (G s') e'
      | .ret x => ∃ e', loopS g body (bs.map eb) e = .ret (E x) e')
  | [], s, e, _, l => ⟨e, rfl, l⟩
  | b :: bs, s, e, h, l => by
    obtain ⟨e1, a1, a2⟩ := hg s b e l
    have q := hb s b h.1 e1 a2
    have h2 := h.2
    rw [List.map_cons]
    unfold loopS loopT
    rw [a1]
    cases hs : step s b with
    | go s' =>
      rw [hs] at q h2
      obtain ⟨e2, b1, b2⟩ := q
      have ih := loopX_ok hg hb bs s' e2 h2 b2
      rcases b1 with b1 | b1 <;> simp only [b1] <;> exact ih
    | brk s' =>
      rw [hs] at q
      obtain ⟨e2, b1, b2⟩ := q
      simp only [b1]
      exact ⟨e2, rfl, b2⟩
    | ret x =>
      rw [hs] at q
      obtain ⟨e2, b1⟩ := q
      simp only [b1]
      exact ⟨e2, rfl⟩
def LetX {σ ρ τ : Type} (r : Stp σ ρ) (kr : ρ → τ) (K : σ → τ) : τ := match r with
  | .go s => K s
  | .brk s => K s
  | .ret x => kr x
def LetP {σ ρ : Type} (r : Stp σ ρ) (S : σ → Prop) : Prop := match r with
  | .go s => S s
  | .brk s => S s
  | .ret _ => True
theorem jk_forX {σ β ρ τ : Type} {P : τ → SR → Prop} {rest : En → SR} {fi : En → R (List D)} {g : D → En → Option En} {body : En → SR} {bs : List β} {s0 : σ} (G : σ → Gm) (eb : β → D) (E : ρ → D × Nat) {kr : ρ → τ} (hk : ∀ x e, P (kr x) (.ret (E x) e)) {step : σ → β → Stp σ ρ} {SB : σ → β → Prop} {Γt : σ → β → Gm} {K : σ → τ} {S : σ → Prop}
    (hi : J Γ fi (bs.map eb) Γ1) (w : Wk Γ1 (G s0)) (hA : AllX SB step bs s0) (hg : ∀ s b, JG (G s) g (eb b) (Γt s b)) (hb : ∀ s b, SB s b → JK (PX G E) (Γt s b) body (step s b)) (hS : LetP (loopT step bs s0) S) (k : ∀ s, S s → JK P (G s) rest (K s)) :
    JK P Γ (seqS (forS fi g body) rest) (LetX (loopT step bs s0) kr K) := fun e l => by
  obtain ⟨e1, a1, a2⟩ := hi e l
  have q := loopX_ok hg hb bs s0 e1 hA (w.le a2)
  unfold LetX
  unfold LetP at hS
  cases h : loopT step bs s0 with
  | go s =>
    rw [h] at q hS
    obtain ⟨e2, b1, b2⟩ := q
    have : seqS (forS fi g body) rest e = rest e2 := seqS_nx ((forS_ok a1).trans b1)
    rw [this]
    exact k s hS e2 b2
  | brk s =>
    rw [h] at q hS
    obtain ⟨e2, b1, b2⟩ := q
    have : seqS (forS fi g body) rest e = rest e2 := seqS_nx ((forS_ok a1).trans b1)
    rw [this]
    exact k s hS e2 b2
  | ret x =>
    rw [h] at q
    obtain ⟨e2, b1⟩ := q
    have : seqS (forS fi g body) rest e = .ret (E x) e2 := seqS_ret ((forS_ok a1).trans b1)
    rw [this]
    exact hk x e2
theorem pf_ret {τ : Type} {E : τ → D × Nat} (x : τ) (e : En) : PF E x (.ret (E x) e) := .inl ⟨e, rfl⟩
def iterW {σ : Type} (c : σ → Bool) (step : σ → σ) : Nat → σ → σ
  | 0, s => s
  | n + 1, s => cond (c s) (iterW c step n (step s)) s
def AllW {σ : Type} (Sc Sb : σ → Prop) (c : σ → Bool) (step : σ → σ) : Nat → σ → Prop
  | 0, _ => False
  | n + 1, s => Sc s ∧ (c s = true → Sb s ∧ AllW Sc Sb c step n (step s))
theorem while_ok {σ : Type} {G : σ → Gm} {c : En → R Bool} {body : En → SR} {cT : σ → Bool} {step : σ → σ} {Sc Sb : σ → Prop} (hc : ∀ s, Sc s → J (G s) c (cT s) (G s)) (hb : ∀ s, Sb s → JK (PL G) (G s) body (step s)) :
    ∀ (n : Nat) (s : σ) (e : En), AllW Sc Sb cT step n s → Le (G s) e → ∃ e', whileS c body n e = .nx e' ∧ Le (G (iterW cT step n s)) e'
  | 0, s, e, h, _ => h.elim
  | n + 1, s, e, h, l => by
    obtain ⟨e1, a1, a2⟩ := hc s h.1 e l
    unfold whileS iterW
    rw [a1]
    cases q : cT s with
    | false => exact ⟨e1, rfl, a2⟩
    | true =>
      obtain ⟨h1, h2⟩ := h.2 q
      obtain ⟨e2, b1, b2⟩ := hb s h1 e1 a2
      obtain ⟨e3, c1, c2⟩ := while_ok hc hb n (step s) e2 h2 b2
      refine ⟨e3, ?_, c2⟩
      simp only [Pv.R.then_ok, if_true]
      rcases b1 with b1 | b1 <;> simp only [b1] <;> exact c1
theorem jk_while {σ τ : Type} {P : τ → SR → Prop} {rest : En → SR} {n : Nat} {s0 : σ} (G : σ → Gm) {c : En → R Bool} {body : En → SR} {cT : σ → Bool} {step : σ → σ} {Sc Sb : σ → Prop} {K : σ → τ} {S : σ → Prop}
    (w : Wk Γ (G s0)) (hA : AllW Sc Sb cT step n s0) (hc : ∀ s, Sc s → J (G s) c (cT s) (G s)) (hb : ∀ s, Sb s → JK (PL G) (G s) body (step s)) (hS : Let (iterW cT step n s0) S) (k : ∀ s, S s → JK P (G s) rest (K s)) :
    JK P Γ (seqS (whileS c body n) rest) (Let (iterW cT step n s0) K) := fun e l => by
  obtain ⟨e2, b1, b2⟩ := while_ok hc hb n s0 e hA (w.le l)
  have : seqS (whileS c body n) rest e = rest e2 := seqS_nx b1
  rw [this]
  exact k _ hS e2 b2
theorem le_en : ∀ ds : List D, Le (ds.map fun d => .ex d 0) (ds.map fun d => some (d, 0))
  | [] => trivial
  | _ :: ds => ⟨rfl, le_en ds⟩
theorem le_app : ∀ {Γ Δ : Gm} {e f : En}, Le Γ e → Le Δ f → Le (Γ ++ Δ) (e ++ f)
  | [], _, [], _, _, h => h
  | [], _, _ :: _, _, h, _ => h.elim
  | _ :: _, _, [], _, h, _ => h.elim
  | _ :: _, _, _ :: _, _, h, k => ⟨h.1, le_app h.2 k⟩
theorem le_rep : ∀ n : Nat, Le (List.replicate n .un) (List.replicate n none)
  | 0 => trivial
  | n + 1 => ⟨trivial, le_rep n⟩
def entry (n : Nat) (ds : List D) : Gm := ds.map (fun d => .ex d 0) ++ List.replicate (n - ds.length) .un
theorem jf_of {τ : Type} {n : Nat} {g : En → SR} {ds : List D} {E : τ → D × Nat} {v : τ} (h : JK (PF E) (entry n ds) g v) : fnF n false g none ds = .ok (E v) none := by
  have l : Le (entry n ds) (en0 n none ds) := by
    unfold entry en0
    rw [List.nil_append, Nat.zero_add]
    exact le_app (le_en ds) (le_rep _)
  rcases h _ l with ⟨e, q⟩ | ⟨e, q, q2⟩
  · exact fnF_ret q
  · rw [q2]; exact fnF_nx q
end
end Tv
end

section
set_option Elab.async false
set_option linter.all false
set_option maxRecDepth 100000
set_option maxHeartbeats 4000000
namespace Tv
open PySem Pv

abbrev eI (i : Int) : D := .int i
abbrev eN (n : Nat) : D := .int (n : Int)
abbrev eB (b : Bool) : D := .bl b
abbrev eS (s : Str) : D := .str s
abbrev eD (d : D) : D := d
abbrev eU (_ : Unit) : D := .non
abbrev e2 {α β : Type} (f : α → D) (g : β → D) (p : α × β) : D := .tup [f p.1, g p.2]
abbrev e3 {α β γ : Type} (f : α → D) (g : β → D) (h : γ → D) (p : α × β × γ) : D := .tup [f p.1, g p.2.1, h p.2.2]
abbrev e4 {α β γ δ : Type} (f : α → D) (g : β → D) (h : γ → D) (k : δ → D) (p : α × β × γ × δ) : D := .tup [f p.1, g p.2.1, h p.2.2.1, k p.2.2.2]
abbrev eT {α : Type} (f : α → D) (xs : List α) : D := .tup (xs.map f)
abbrev eL {α : Type} (f : α → D) (xs : List α) : D := .lst (xs.map f)
def nth {α : Type} [Inhabited α] (xs : List α) (i : Nat) : α := xs.getD i default
theorem nth_eq {α : Type} [Inhabited α] {xs : List α} {i : Nat} (h : i < xs.length) : nth xs i = xs[i] := by
  unfold nth
  simp [h]
theorem nth_at {α : Type} [Inhabited α] {xs : List α} {i : Nat} (h : i < xs.length) : xs[i]? = some (nth xs i) := by
  rw [nth_eq h]; simp [h]

theorem g_addI (a b : Int) : addD (eI a) (eI b) = some (eI (a + b), 0) := rfl
theorem g_addN (a b : Nat) : addD (eN a) (eN b) = some (eN (a + b), 0) := by
  show some (D.int ((a : Int) + b), 0) = some (D.int ((a + b : Nat) : Int), 0)
  rw [Int.natCast_add]
theorem g_subI (a b : Int) : subD (eI a) (eI b) = some (eI (a - b), 0) := rfl
theorem g_subN {a b : Nat} (h : b ≤ a) : subD (eN a) (eN b) = some (eN (a - b), 0) := by
  show some (D.int ((a : Int) - b), 0) = some (D.int ((a - b : Nat) : Int), 0)
  rw [Int.natCast_sub h]
theorem g_mulI {a b : Int} (h : mulOk a b = true) : mulD (eI a) (eI b) = some (eI (a * b), 0) := by
  show (if mulOk a b = true then some (D.int (a * b), 0) else none) = _
  rw [if_pos h]
theorem g_mulN {a b : Nat} (h : mulOk a b = true) : mulD (eN a) (eN b) = some (eN (a * b), 0) := by
  rw [show eN (a * b) = eI ((a : Int) * b) by rw [eN, eI, Int.natCast_mul]]
  exact g_mulI h
theorem g_divI {a b : Int} (h : b ≠ 0 ∧ b.natAbs.log2 < 9000) : fdivD (eI a) (eI b) = some (eI (a.fdiv b), 0) := by
  show (if b ≠ 0 ∧ b.natAbs.log2 < 9000 then some (D.int (a.fdiv b), 0) else none) = _
  rw [if_pos h]
theorem g_modI {a b : Int} (h : b ≠ 0) : modD (eI a) (eI b) = some (eI (a.fmod b), 0) := by
  show (if b ≠ 0 then some (D.int (a.fmod b), 0) else none) = _
  rw [if_pos h]
theorem g_modN {a b : Nat} (h : b ≠ 0) : modD (eN a) (eN b) = some (eN (a % b), 0) := by
  have e : (a : Int).fmod (b : Int) = ((a % b : Nat) : Int) := by
    rw [Int.fmod_eq_emod_of_nonneg _ (Int.natCast_nonneg b)]; rfl
  show _ = some (D.int ((a % b : Nat) : Int), 0)
  rw [← e]
  exact g_modI (by omega)
theorem g_neg (a : Int) : negD (eI a) = some (eI (-a), 0) := rfl
theorem g_abs (a : Int) : absD (eI a) = some (eN a.natAbs, 0) := by
  show some (D.int (if a < 0 then -a else a), 0) = some (D.int (a.natAbs : Int), 0)
  split
  · rw [show (a.natAbs : Int) = -a by omega]
  · rw [show (a.natAbs : Int) = a by omega]
theorem g_max2I (a b : Int) : max2D (eI a) (eI b) = some (eI (max a b), 0) := rfl
theorem g_max2N (a b : Nat) : max2D (eN a) (eN b) = some (eN (max a b), 0) := by
  show some (D.int (max (a : Int) b), 0) = some (D.int ((max a b : Nat) : Int), 0)
  rw [show max (a : Int) b = ((max a b : Nat) : Int) by omega]
theorem g_intN (a : Nat) : intD (eN a) = some (eN a, 0) := rfl
theorem g_ltI (a b : Int) : cmpD (fun i j => decide (i < j)) (eI a) (eI b) = some (eB (decide (a < b)), 0) := rfl
theorem dec_cast {p q : Prop} [Decidable p] [Decidable q] (h : p ↔ q) : decide p = decide q := by
  by_cases x : p
  · rw [decide_eq_true x, decide_eq_true (h.mp x)]
  · rw [decide_eq_false x, decide_eq_false fun y => x (h.mpr y)]
theorem g_ltN (a b : Nat) : cmpD (fun i j => decide (i < j)) (eN a) (eN b) = some (eB (decide (a < b)), 0) := by
  show some (D.bl (decide ((a : Int) < b)), 0) = _
  rw [dec_cast (show (a : Int) < b ↔ a < b by omega)]
theorem g_gtN (a b : Nat) : cmpD (fun i j => decide (j < i)) (eN a) (eN b) = some (eB (decide (b < a)), 0) := g_ltN b a
theorem g_eqI (a b : Int) : eqD (eI a) (eI b) = some (eB (decide (a = b)), 0) := eqD_int a b
theorem g_neI (a b : Int) : neD (eI a) (eI b) = some (eB (!decide (a = b)), 0) := neD_int a b
theorem g_eqN (a b : Nat) : eqD (eN a) (eN b) = some (eB (decide (a = b)), 0) := by
  rw [g_eqI, dec_cast (show (a : Int) = b ↔ a = b by omega)]
theorem g_neN (a b : Nat) : neD (eN a) (eN b) = some (eB (!decide (a = b)), 0) := by
  rw [g_neI, dec_cast (show (a : Int) = b ↔ a = b by omega)]
structure Pl {α : Type} (e : α → D) (k : Nat) : Prop where
  p : ∀ a, plD (e a) = true
  d : ∀ a, dpD (e a) ≤ k
  i : ∀ a b, e a = e b → a = b
theorem map_inj {α : Type} {e : α → D} (i : ∀ a b, e a = e b → a = b) : ∀ xs ys : List α, xs.map e = ys.map e → xs = ys
  | [], [], _ => rfl
  | [], _ :: _, h => by cases h
  | _ :: _, [], h => by cases h
  | x :: xs, y :: ys, h => by
    rw [List.map_cons, List.map_cons] at h
    rw [i _ _ (List.cons.inj h).1, map_inj i xs ys (List.cons.inj h).2]
theorem Pl.le {α : Type} {e : α → D} {k m : Nat} (h : Pl e k) (hm : k ≤ m) : Pl e m := ⟨h.p, fun a => Nat.le_trans (h.d a) hm, h.i⟩
theorem Pl.T {α : Type} {e : α → D} {k : Nat} (h : Pl e k) : Pl (eT e) (k + 1) :=
  ⟨fun xs => by rw [plD, plL_all, List.all_eq_true]; exact fun d hd => by obtain ⟨a, _, rfl⟩ := List.mem_map.mp hd; exact h.p a,
   fun xs => by rw [dpD]; exact Nat.succ_le_succ (dpL_le fun d hd => by obtain ⟨a, _, rfl⟩ := List.mem_map.mp hd; exact h.d a),
   fun _ _ q => map_inj h.i _ _ (D.tup.inj q)⟩
theorem Pl.L {α : Type} {e : α → D} {k : Nat} (h : Pl e k) : Pl (eL e) (k + 1) :=
  ⟨fun xs => by rw [plD, plL_all, List.all_eq_true]; exact fun d hd => by obtain ⟨a, _, rfl⟩ := List.mem_map.mp hd; exact h.p a,
   fun xs => by rw [dpD]; exact Nat.succ_le_succ (dpL_le fun d hd => by obtain ⟨a, _, rfl⟩ := List.mem_map.mp hd; exact h.d a),
   fun _ _ q => map_inj h.i _ _ (D.lst.inj q)⟩
theorem Pl.t2 {α β : Type} {e : α → D} {f : β → D} {k m : Nat} (h : Pl e k) (h' : Pl f m) : Pl (e2 e f) (max k m + 1) :=
  ⟨fun p => by simp [plD, plL, h.p, h'.p], fun p => by
    have := h.d p.1
    have := h'.d p.2
    simp only [dpD, dpL]; omega, fun p q x => by
    have := D.tup.inj x
    exact Prod.ext (h.i _ _ (List.cons.inj this).1) (h'.i _ _ (List.cons.inj (List.cons.inj this).2).1)⟩
theorem Pl.pl {α : Type} {e : α → D} {k : Nat} (h : Pl e k) (hk : k ≤ 64) (a : α) : PlD (e a) := ⟨h.p a, Nat.le_trans (h.d a) hk⟩
def eqb {α : Type} [DecidableEq α] (a b : α) : Bool := decide (a = b)
theorem eqb_t {α : Type} [DecidableEq α] {a b : α} (h : a = b) : eqb a b = true := decide_eq_true h
theorem g_ne {α : Type} [DecidableEq α] {e : α → D} {k : Nat} (h : Pl e k) (hk : Nat.ble k 64 = true) (a b : α) : neD (e a) (e b) = some (eB (!eqb a b), 0) := by
  have hk := Nat.le_of_ble_eq_true hk
  unfold eqb
  by_cases q : a = b
  · subst q
    rw [decide_eq_true rfl]
    exact neD_same (h.pl hk a)
  · rw [decide_eq_false q]
    exact neD_diff (h.pl hk a) (h.pl hk b) fun x => q (h.i _ _ x)
theorem atI_nat {α : Type} [Inhabited α] {f : α → D} {xs : List α} {k : Nat} (h : k < xs.length) : L2.atI (xs.map f) (k : Int) = some (f (nth xs k)) := by
  have h' : k < (xs.map f).length := by simpa using h
  rw [at_nat h', nth_eq h]
  simp
theorem g_idxL {α : Type} [Inhabited α] {f : α → D} {xs : List α} {k : Nat} (h : k < xs.length) : idxD (eL f xs) (eN k) = some (f (nth xs k), 0) := by
  show (L2.atI (xs.map f) (k : Int)).map (·, 0) = _
  rw [atI_nat h]; rfl
theorem g_idxT {α : Type} [Inhabited α] {f : α → D} {xs : List α} {k : Nat} (h : k < xs.length) : idxD (eT f xs) (eN k) = some (f (nth xs k), 0) := by
  show (L2.atI (xs.map f) (k : Int)).map (·, 0) = _
  rw [atI_nat h]; rfl
theorem atI_last {α : Type} [Inhabited α] {f : α → D} {xs : List α} (h : 0 < xs.length) : L2.atI (xs.map f) (-1) = some (f (nth xs (xs.length - 1))) := by
  have h' : xs.length - 1 < (xs.map f).length := by simp; omega
  have q := nth_at (xs := xs) (i := xs.length - 1) (by omega)
  have e : L2.ixN (xs.map f).length (-1) = some (xs.length - 1) := by
    unfold L2.ixN
    simp only [List.length_map]
    have h1 : ¬ (0 : Int) ≤ -1 := by omega
    have h2 : (0 : Int) ≤ (xs.length : Int) + -1 := by omega
    have h3 : ((xs.length : Int) + -1) < xs.length := by omega
    have h4 : ((xs.length : Int) + -1).toNat = xs.length - 1 := by omega
    simp [h1, h2, h3, h4]
    constructor <;> omega
  unfold L2.atI
  rw [e]
  show (xs.map f)[xs.length - 1]? = _
  rw [List.getElem?_map, q]
  rfl
theorem g_idxLm {α : Type} [Inhabited α] {f : α → D} {xs : List α} (h : 0 < xs.length) : idxD (eL f xs) (eI (-1)) = some (f (nth xs (xs.length - 1)), 0) := by
  show (L2.atI (xs.map f) (-1)).map (·, 0) = _
  rw [atI_last h]; rfl
theorem g_p0 {d : D} {ds : List D} : idxD (.tup (d :: ds)) (.int 0) = some (d, 0) := by simp [idxD, at_0]
theorem g_p1 {d e : D} {ds : List D} : idxD (.tup (d :: e :: ds)) (.int 1) = some (e, 0) := by simp [idxD, at_1]
theorem g_lenL {α : Type} (f : α → D) (xs : List α) : lenD (eL f xs) = some (eN xs.length, 0) := by show some (D.int ((xs.map f).length : Nat), 0) = _; rw [List.length_map]
theorem g_lenT {α : Type} (f : α → D) (xs : List α) : lenD (eT f xs) = some (eN xs.length, 0) := by show some (D.int ((xs.map f).length : Nat), 0) = _; rw [List.length_map]
theorem g_tupL {α : Type} (f : α → D) (xs : List α) : tupD (eL f xs) = some (eT f xs, 0) := rfl
theorem g_lisL {α : Type} (f : α → D) (xs : List α) : lisD (eL f xs) = some (eL f xs, 1) := rfl
theorem g_lisT {α : Type} (f : α → D) (xs : List α) : lisD (eT f xs) = some (eL f xs, 1) := rfl
theorem g_catL {α : Type} {f : α → D} {xs ys : List α} (h : xs.length + ys.length ≤ lim) : addD (eL f xs) (eL f ys) = some (eL f (xs ++ ys), 1) := by
  show (if (xs.map f).length + (ys.map f).length ≤ lim then _ else _) = _
  rw [List.length_map, List.length_map, if_pos h, ← List.map_append]
theorem g_catT {α : Type} {f : α → D} {xs ys : List α} (h : xs.length + ys.length ≤ lim) : addD (eT f xs) (eT f ys) = some (eT f (xs ++ ys), 0) := by
  show (if (xs.map f).length + (ys.map f).length ≤ lim then _ else _) = _
  rw [List.length_map, List.length_map, if_pos h, ← List.map_append]
theorem cutD_map {α : Type} (f : α → D) (xs : List α) (lo hi : Option Int) : cutD (xs.map f) lo hi = (cutD xs lo hi).map f := by
  unfold cutD
  rw [List.length_map, List.map_take, List.map_drop]
theorem cut_toN {α : Type} (xs : List α) (k : Nat) : cutD xs none (some (k : Int)) = xs.take k := by
  by_cases h : k ≤ xs.length
  · exact cut_to h
  · have h0 : HT.sIx xs.length 0 none = 0 := rfl
    have h1 : HT.sIx xs.length xs.length (some (k : Int)) = xs.length := by rw [HT.sIx_nat]; omega
    unfold cutD
    rw [h0, h1, List.take_of_length_le (by omega : xs.length ≤ k)]
    simp
theorem g_takeT {α : Type} (f : α → D) (xs : List α) (k : Nat) : slD (eT f xs) none (some (k : Int)) = some (eT f (xs.take k), 0) := by
  show some (D.tup (cutD (xs.map f) _ _), 0) = _
  rw [cutD_map, cut_toN]
theorem bls_map : ∀ bs : List Bool, D.bls (bs.map eB) = some bs
  | [] => rfl
  | b :: bs => by
    show (D.bls (bs.map eB)).map (b :: ·) = _
    rw [bls_map bs]; rfl
theorem g_all (bs : List Bool) : allD (eL eB bs) = some (eB (bs.all id), 0) := by
  show (D.bls (bs.map eB)).map _ = _
  rw [bls_map]; rfl
theorem i_L {α : Type} (f : α → D) (xs : List α) : itsD (eL f xs) = some (xs.map f) := rfl
theorem i_T {α : Type} (f : α → D) (xs : List α) : itsD (eT f xs) = some (xs.map f) := rfl
def rng (a b : Nat) : List Nat := (List.range (b - a)).map fun k => a + k
theorem i_rgN {n : Nat} (h : n ≤ lim) : rg1D [eN n] = some ((List.range n).map eN) := rg1D_ok h
theorem i_rgI {i : Int} (h : i ≤ 16000000 ∧ -16000000 ≤ i) : rg1D [eI i] = some ((List.range i.toNat).map eN) := by
  show rgD 0 i = _
  unfold rgD
  have hb : rgB 0 i = true := by
    unfold rgB
    rw [Bool.and_eq_true]
    exact ⟨Nat.ble_eq_true_of_le (by omega), Nat.ble_eq_true_of_le (by omega)⟩
  rw [if_pos hb, show (i - 0).toNat = i.toNat by omega]
  congr 1
  apply List.map_congr_left
  intro k _
  show D.int (0 + (k : Int)) = D.int k
  rw [Int.zero_add]
theorem i_rg2N {a b : Nat} (h : a ≤ lim ∧ b ≤ lim) : rg2D [eN a, eN b] = some ((rng a b).map eN) := by
  have := rg2D_ok (l := a) (n := b) h.1 h.2
  rw [rng, List.map_map]
  exact this
theorem zip_map2 {α β : Type} (f : α → D) (g : β → D) : ∀ (xs : List α) (ys : List β), ((xs.map f).zip (ys.map g)).map (fun q => D.tup [q.1, q.2]) = (xs.zip ys).map (e2 f g)
  | [], _ => by simp
  | _ :: _, [] => by simp
  | x :: xs, y :: ys => by
    have ih := zip_map2 f g xs ys
    simp only [List.map_cons, List.zip_cons_cons, ih]
theorem i_zipL {α β : Type} (f : α → D) (g : β → D) (xs : List α) (ys : List β) : zipD2 [eL f xs, eL g ys] = some ((xs.zip ys).map (e2 f g)) := by
  show some _ = _
  rw [zip_map2]
def enumT {α : Type} (xs : List α) : List (Nat × α) := xs.zipIdx.map fun q => (q.2, q.1)
theorem zipIdx_map {α : Type} (f : α → D) : ∀ (xs : List α) (n : Nat), ((xs.map f).zipIdx n).map (fun q => D.tup [.int (q.2 : Nat), q.1]) = ((xs.zipIdx n).map fun q => (q.2, q.1)).map (e2 eN f)
  | [], _ => rfl
  | x :: xs, n => by
    have ih := zipIdx_map f xs (n + 1)
    simp only [List.map_cons, List.zipIdx_cons, ih]
theorem mulOk_l {a b : Int} (h : a.natAbs < 2 ^ 64) : mulOk a b = true := by
  unfold mulOk
  rw [show sml a = true by unfold sml; exact Nat.ble_eq_true_of_le (by omega)]
  simp
theorem mulOk_log {a b : Int} (h : a.natAbs.log2 + b.natAbs.log2 < 1000000) : mulOk a b = true := by
  unfold mulOk
  rw [decide_eq_true h]
  simp
theorem mulOk_lN {a : Nat} {b : Int} (h : a < 2 ^ 64) : mulOk (a : Int) b = true := mulOk_l (by simpa using h)
end Tv
end

section
set_option Elab.async false
set_option linter.all false
set_option maxRecDepth 100000
set_option maxHeartbeats 4000000
namespace Tv
open PySem Pv
section
variable {Γ Γ' Γ1 Γ2 Γ3 Γ4 : Gm}
theorem j_opC {g g' : D → D → Option (D × Nat)} {fa fb fc : En → R Opd} {d d' d'' : D} {q q' q'' : Option Nat} {b c : Bool} {k k' : Nat} (ha : JO Γ fa d q Γ1) (hb : JO Γ1 fb d' q' Γ2) (h1 : HQ Γ2 q d) (h2 : HQ Γ2 q' d') (hg : g d d' = some (.bl b, k)) (hc : b = true → JO Γ2 fc d'' q'' Γ2) (h3 : HQ Γ2 q'' d'') (hg' : b = true → g' d' d'' = some (.bl c, 0)) :
    J Γ (opC g g' fa fb fc) (.bl (b && c), 0) Γ2 := fun e l => by
  obtain ⟨o, e1, a1, a2, a3⟩ := ha e l
  obtain ⟨o', e2, b1, b2, b3⟩ := hb e1 a2
  unfold opC
  rw [a1]
  simp only [R.bind_ok, b1, h1.get b2 a3, h2.get b2 b3, hg]
  cases b with
  | false => exact ⟨e2, rfl, b2⟩
  | true =>
    obtain ⟨o'', e3, c1, c2, c3⟩ := hc rfl e2 b2
    refine ⟨e3, ?_, c2⟩
    simp only [c1, R.bind_ok, h2.get c2 b3, h3.get c2 c3, hg' rfl, R.of_some, Bool.true_and]
section
variable {τ : Type} {P : τ → SR → Prop} {v : τ} {rest : En → SR}
end
end
theorem tr_B (b : Bool) : truD (eB b) = some b := rfl
theorem g_revL {α : Type} (f : α → D) (xs : List α) : revD (eL f xs) = some (eL f xs.reverse, 1) := by
  show some (D.lst (xs.map f).reverse, 1) = _
  rw [← List.map_reverse]
theorem rep_flat {α : Type} (f : α → D) (xs : List α) (k : Nat) : (List.replicate k (xs.map f)).flatten = ((List.replicate k xs).flatten).map f := by
  rw [List.map_flatten, List.map_replicate]
theorem g_mulL {α : Type} {f : α → D} {xs : List α} {k : Nat} (h : xs.length * k ≤ lim ∧ k ≤ lim) : mulD (eL f xs) (eN k) = some (eL f (List.replicate k xs).flatten, 1) := by
  show (if (xs.map f).length * (k : Int).toNat ≤ lim ∧ -(2 ^ 63) ≤ (k : Int) ∧ (k : Int) < 2 ^ 63 then some (D.lst (List.replicate (k : Int).toNat (xs.map f)).flatten, 1) else none) = _
  have hk : k ≤ 16000000 := h.2
  rw [List.length_map, if_pos ⟨by simpa using h.1, by omega, by omega⟩, Int.toNat_natCast, rep_flat]
theorem enum_T {α : Type} (f : α → D) (xs : List α) : enumD [eT f xs] = some ((enumT xs).map (e2 eN f)) := by
  show some _ = some _
  congr 1
  exact zipIdx_map f xs 0
theorem len_range {n : Nat} (h : n ≤ lim) : (List.range n).length ≤ lim := by rw [List.length_range]; exact h
abbrev eSt (s : Int × Int) : D := .lst [.int s.1, .int s.2]
def tkV (s : Int × Int) (m : Nat) : Nat := if 0 < s.1 then (s.1.fmod m).toNat else ((((s.2 * 48271 + 11).fmod 2147483647).fdiv 7).fmod m).toNat
def tkS (s : Int × Int) (m : Nat) : Int × Int := if 0 < s.1 then (s.1.fdiv m, s.2) else (s.1, (s.2 * 48271 + 11).fmod 2147483647)
theorem tkV_lt (s : Int × Int) {m : Nat} (h : 0 < m) : tkV s m < m := by
  have h0 : (0 : Int) < m := by omega
  unfold tkV
  split
  · have h1 := Int.fmod_nonneg_of_pos s.1 h0
    have h2 := Int.fmod_lt_of_pos s.1 h0
    omega
  · have h1 := Int.fmod_nonneg_of_pos (((s.2 * 48271 + 11).fmod 2147483647).fdiv 7) h0
    have h2 := Int.fmod_lt_of_pos (((s.2 * 48271 + 11).fmod 2147483647).fdiv 7) h0
    omega
theorem take_pos (a b m : Int) (hm0 : m ≠ 0) (hl : m.natAbs.log2 < 9000) (h : 0 < a) : lawTake (some (.lst [.int a, .int b], 1)) [.int m] = .ok (.int (a.fmod m), 0) (some (.lst [.int (a.fdiv m), .int b], 1)) := by
  unfold lawTake
  simp [-List.map_map, fnF, en0, seqS, passS, noS, exprS, retS, retN, retM, putE, setS, iteS, vOfE, eOfV, oOfV, kI, kB, kS, kN, nmV, nmO, op1, op2, opC, tst, tru, truD, notT, andT, orT, blV, vbl, andV, orV, notV, iteE, aNil, aCons, lNil, lCons, tupE, lstE, dicE, Opd.get, callF, frR, callI, callL, own1, addD, subD, negD, cmpD, lenD, intD, tupD, lisD, absD, isiD, tyD, min2D, max2D, Pv.R.of, raiseS, asgS, nameG, nilG, consG, tupG, isD, nisD, isNB, opS, pNone, pSome, seqI', itsD, sItS, putD, wipeE, backE, at_0, at_1, idxD, h, modD, fdivD, hm0, hl, L2.ixN]
theorem take_neg (a b m : Int) (hm0 : m ≠ 0) (h : ¬ 0 < a) : lawTake (some (.lst [.int a, .int b], 1)) [.int m] = .ok (.int ((((b * 48271 + 11).fmod 2147483647).fdiv 7).fmod m), 0) (some (.lst [.int a, .int ((b * 48271 + 11).fmod 2147483647)], 1)) := by
  unfold lawTake
  simp [-List.map_map, fnF, en0, seqS, passS, noS, exprS, retS, retN, retM, putE, setS, iteS, vOfE, eOfV, oOfV, kI, kB, kS, kN, nmV, nmO, op1, op2, opC, tst, tru, truD, notT, andT, orT, blV, vbl, andV, orV, notV, iteE, aNil, aCons, lNil, lCons, tupE, lstE, dicE, Opd.get, callF, frR, callI, callL, own1, addD, subD, negD, cmpD, lenD, intD, tupD, lisD, absD, isiD, tyD, min2D, max2D, Pv.R.of, raiseS, asgS, nameG, nilG, consG, tupG, isD, nisD, isNB, opS, pNone, pSome, seqI', itsD, sItS, putD, wipeE, backE, at_0, at_1, idxD, h, modD, fdivD, hm0, mul2, L2.ixN, log7]
theorem take_ok (s : Int × Int) {m : Nat} (hm : 0 < m) (hl : m.log2 < 9000) : lawTake (some (eSt s, 1)) [eN m] = .ok (eN (tkV s m), 0) (some (eSt (tkS s m), 1)) := by
  obtain ⟨a, b⟩ := s
  have h0 : (0 : Int) < m := by omega
  have hm0 : (m : Int) ≠ 0 := by omega
  have hl' : ((m : Int).natAbs).log2 < 9000 := by simpa using hl
  by_cases h : 0 < a
  · have h1 := Int.fmod_nonneg_of_pos a h0
    have e1 : tkV (a, b) m = (a.fmod m).toNat := by unfold tkV; rw [if_pos h]
    have e2 : tkS (a, b) m = (a.fdiv m, b) := by unfold tkS; rw [if_pos h]
    have e3 : (((a.fmod m).toNat : Nat) : Int) = a.fmod m := by omega
    rw [e1, e2]
    show _ = FR.ok (D.int _, 0) _
    rw [e3]
    exact take_pos a b m hm0 hl' h
  · have h1 := Int.fmod_nonneg_of_pos (((b * 48271 + 11).fmod 2147483647).fdiv 7) h0
    have e1 : tkV (a, b) m = ((((b * 48271 + 11).fmod 2147483647).fdiv 7).fmod m).toNat := by unfold tkV; rw [if_neg h]
    have e2 : tkS (a, b) m = (a, (b * 48271 + 11).fmod 2147483647) := by unfold tkS; rw [if_neg h]
    have e3 : (((((b * 48271 + 11).fmod 2147483647).fdiv 7).fmod m).toNat : Int) = (((b * 48271 + 11).fmod 2147483647).fdiv 7).fmod m := by omega
    rw [e1, e2]
    show _ = FR.ok (D.int _, 0) _
    rw [e3]
    exact take_neg a b m hm0 h
section
variable {Γ Γ' Γ1 Γ2 Γ3 Γ4 : Gm}
theorem j_callI {n i : Nat} {F : Sl → List D → FR} {r : En → R (List D)} {ds : List D} {d d' : D} {k k' : Nat} {p : D × Nat} (h0 : at' Γ i = some (.ex d k)) (h : J Γ r ds Γ1) (h1 : at' Γ1 i = some (.ex d k)) (hn : Nat.beq (ds.length + 1) n = true) (hF : F (some (d, k)) ds = .ok p (some (d', k'))) : J Γ (callI n F i r) p (put Γ1 i (.ex d' k')) := fun e l => by
  obtain ⟨s, q1, q2⟩ := le_at l h0
  cases q2
  obtain ⟨e', r1, r2⟩ := h e l
  obtain ⟨s', t1, t2⟩ := le_at r2 h1
  cases t2
  refine ⟨e'.set i (some (d', k')), ?_, le_put r2 rfl⟩
  unfold callI
  rw [q1]
  simp only [r1, R.bind_ok, Nat.eq_of_beq_eq_true hn, if_true, t1, hF]
def PI {τ σ : Type} (E : τ → D × Nat) (es : σ → D × Nat) (v : τ × σ) (r : SR) : Prop := ∃ e, (r = .ret (E v.1) e ∨ (r = .nx e ∧ E v.1 = (.non, 0))) ∧ e[0]? = some (some (es v.2))
theorem ji_of {τ σ : Type} {n : Nat} {g : En → SR} {p : D × Nat} {ds : List D} {E : τ → D × Nat} {es : σ → D × Nat} {v : τ × σ} (h : JK (PI E es) (.ex p.1 p.2 :: (ds.map (fun d => .ex d 0) ++ List.replicate (n - (1 + ds.length)) .un)) g v) : fnF n true g (some p) ds = .ok (E v.1) (some (es v.2)) := by
  have l : Le (.ex p.1 p.2 :: (ds.map (fun d => .ex d 0) ++ List.replicate (n - (1 + ds.length)) .un)) (en0 n (some p) ds) := by
    unfold en0
    exact ⟨rfl, le_app (le_en ds) (le_rep _)⟩
  obtain ⟨e, q, q2⟩ := h _ l
  unfold fnF
  rcases q with q | ⟨q, q3⟩
  · rw [q]; simp only [if_true, q2, Option.getD_some]
  · rw [q]; simp only [if_true, q2, Option.getD_some, q3]
theorem ji_ret {τ σ : Type} {E : τ → D × Nat} {es : σ → D × Nat} {x : τ} {s : σ} {fe : En → R (D × Nat)} {rest : En → SR} {p : D × Nat} (h : J Γ fe (E x) Γ1) (h0 : at' Γ1 0 = some (.ex p.1 p.2)) (he : es s = p) : JK (PI E es) Γ (seqS (retS fe) rest) (x, s) := fun e l => by
  obtain ⟨e', h1, h2⟩ := h e l
  obtain ⟨q, r1, r2⟩ := le_at h2 h0
  cases r2
  exact ⟨e', .inl (seqS_ret (by unfold retS; rw [h1]; rfl)), by rw [r1, he]⟩
end
end Tv
end

section
set_option Elab.async false
set_option linter.all false
set_option maxRecDepth 100000
set_option maxHeartbeats 4000000
namespace Tv
open PySem Pv

end Tv
end

section
set_option Elab.async false
set_option linter.all false
set_option maxRecDepth 100000
set_option maxHeartbeats 4000000
namespace Tv
open PySem Pv
abbrev sMal : Str := PySem.Str.ofString "malformed"
abbrev sReason : Str := PySem.Str.ofString "reason"
theorem ok_mal : PyData.strOk sMal = true := by decide +kernel
inductive Tol where
  | told (d : D) | raised (s : Str)
def Tok (cm cr : Nat) : FR → Prop
  | .ok _ _ => True
  | .ex (.mk c fs) => c = cm ∨ (c ≠ cm ∧ c = cr ∧ ∃ s, fs = [(sReason, .str s)])
  | .no => False
section
variable {tab : Nat → Option (Nat × (Sl → List D → FR))} {cm cr i : Nat} {F : Sl → List D → FR} {a b c d : D}
end
def loopK (g : D → En → Option En) (body : En → SR) (ds : List D) (rest : En → SR) : En → SR := fun e => match loopS g body ds e with
  | .nx e' => rest e'
  | r => r
def NoBC {τ : Type} (P : τ → SR → Prop) : Prop := ∀ v e, ¬ P v (.ct e) ∧ ¬ P v (.bk e)
theorem pf_nbc {τ : Type} {E : τ → D × Nat} : NoBC (PF E) := fun v e => ⟨fun h => (by rcases h with ⟨_, h⟩ | ⟨_, h, _⟩ <;> cases h), fun h => (by rcases h with ⟨_, h⟩ | ⟨_, h, _⟩ <;> cases h)⟩
section
variable {Γ Γ1 Γ2 : Gm} {τ : Type} {P : τ → SR → Prop} {v : τ} {rest body : En → SR} {g : D → En → Option En}
theorem jk_forU {fi : En → R (List D)} {ds : List D} (h : J Γ fi ds Γ1) (k : JK P Γ1 (loopK g body ds rest) v) : JK P Γ (seqS (forS fi g body) rest) v := fun e l => by
  obtain ⟨e1, h1, h2⟩ := h e l
  have := k e1 h2
  unfold seqS
  rw [forS_ok h1]
  unfold loopK at this
  cases q : loopS g body ds e1 with
  | nx e' => rw [q] at this; exact this
  | _ => rw [q] at this; exact this
theorem jk_uNil (k : JK P Γ rest v) : JK P Γ (loopK g body [] rest) v := k
theorem jk_uCons {d : D} {ds : List D} (hP : NoBC P) (hg : JG Γ g d Γ1) (k : JK P Γ1 (seqS body (loopK g body ds rest)) v) : JK P Γ (loopK g body (d :: ds) rest) v := fun e l => by
  obtain ⟨e1, h1, h2⟩ := hg e l
  have := k e1 h2
  unfold loopK
  unfold loopS
  rw [h1]
  unfold seqS at this
  cases q : body e1 with
  | nx e' => rw [q] at this; simp only [q]; exact this
  | ct e' => rw [q] at this; exact ((hP v e').1 this).elim
  | bk e' => rw [q] at this; exact ((hP v e').2 this).elim
  | ret p e' => rw [q] at this; simp only [q]; exact this
  | ex x => rw [q] at this; simp only [q]; exact this
  | no => rw [q] at this; simp only [q]; exact this
end
theorem st_ex (ns : List Int) : ∃ s : Int × Int, lawState none [.scr ns] = .ok (eSt s, 1) none := by
  obtain ⟨a, b, h⟩ := lawState_ok ns
  exact ⟨(a, b), h⟩
noncomputable def stT (ns : List Int) : Int × Int := (st_ex ns).choose
theorem st_ok (ns : List Int) : lawState none [.scr ns] = .ok (eSt (stT ns), 1) none := (st_ex ns).choose_spec
end Tv
end

section
set_option Elab.async false
set_option linter.all false
set_option maxRecDepth 100000
set_option maxHeartbeats 4000000
namespace Tv
open PySem Pv
abbrev eQ (q : Rat) : D := .tup [.int q.num, .int (q.den : Int)]
theorem pl_Q : Pl eQ 1 := ⟨fun _ => rfl, fun _ => by show max 0 (max 0 0) + 1 ≤ 1; decide, fun p q h => by
  have h := D.tup.inj h
  exact Rat.ext (D.int.inj (List.cons.inj h).1) (Int.ofNat.inj (D.int.inj (List.cons.inj (List.cons.inj h).2).1))⟩
def euC (s : Nat × Nat) : Bool := !decide (s.2 = 0)
def euT (s : Nat × Nat) : Nat × Nat := (s.2, s.1 % s.2)
abbrev euA (_ : Nat × Nat) : Prop := True
abbrev euZ (s : Nat × Nat) : Prop := s.2 ≠ 0
theorem euclid : ∀ (k n a b : Nat), b < 2 ^ k → 2 * k + 1 ≤ n → AllW euA euZ euC euT n (a, b) ∧ iterW euC euT n (a, b) = (Nat.gcd a b, 0)
  | _, 0, _, _, _, h => by omega
  | k, n + 1, a, b, hb, hn => by
    unfold AllW iterW
    by_cases h0 : b = 0
    · subst h0
      have hc : euC (a, 0) = false := rfl
      rw [hc, Nat.gcd_zero_right]
      exact ⟨⟨trivial, fun q => by cases q⟩, rfl⟩
    · have hc : euC (a, b) = true := by show (!decide (b = 0)) = true; simp [h0]
      have hg : Nat.gcd a b = Nat.gcd b (a % b) := by rw [Nat.gcd_comm, Nat.gcd_rec, Nat.gcd_comm]
      rw [hc]
      show (True ∧ (true = true → b ≠ 0 ∧ AllW euA euZ euC euT n (b, a % b))) ∧ iterW euC euT n (b, a % b) = _
      match k, n, hb, hn with
      | 0, _, hb, _ => omega
      | k + 1, 0, _, hn => omega
      | k + 1, n + 1, hb, hn =>
        unfold AllW iterW
        by_cases h1 : a % b = 0
        · rw [h1]
          have hc : euC (b, 0) = false := rfl
          rw [hc]
          refine ⟨⟨trivial, fun _ => ⟨h0, trivial, fun q => by cases q⟩⟩, ?_⟩
          show (b, 0) = _
          rw [hg, h1, Nat.gcd_zero_right]
        · have hc : euC (b, a % b) = true := by show (!decide (a % b = 0)) = true; simp [h1]
          have hr : a % b < b := Nat.mod_lt _ (by omega)
          have hr2 : b % (a % b) < a % b := Nat.mod_lt _ (by omega)
          have hlt : b % (a % b) < 2 ^ k := by
            have hp : 2 ^ (k + 1) = 2 * 2 ^ k := by rw [Nat.pow_succ]; omega
            have : 2 * (b % (a % b)) < b := by
              by_cases q : 2 * (a % b) ≤ b
              · omega
              · have e : b % (a % b) = b - (a % b) := by
                  rw [Nat.mod_eq_sub_mod (by omega), Nat.mod_eq_of_lt (by omega)]
                omega
            omega
          obtain ⟨i1, i2⟩ := euclid k n (a % b) (b % (a % b)) hlt (by omega)
          rw [hc]
          refine ⟨⟨trivial, fun _ => ⟨h0, trivial, fun _ => ⟨h1, i1⟩⟩⟩, ?_⟩
          show iterW euC euT n (a % b, b % (a % b)) = _
          rw [i2, hg]
          rw [show Nat.gcd b (a % b) = Nat.gcd (a % b) (b % (a % b)) by rw [Nat.gcd_comm b, Nat.gcd_rec, Nat.gcd_comm]]
def big : Nat := 2 ^ 8500
theorem big_log {n : Nat} (h : n < big) : n.log2 < 9000 := by
  by_cases h0 : n = 0
  · subst h0; decide
  · have := (Nat.log2_lt h0).mpr (show n < 2 ^ 8500 from h)
    omega
def lowOk (_ d : Int) : Prop := d ≠ 0 ∧ d.natAbs < big
theorem low_eq {n d : Int} (h : d ≠ 0) {g : Int} (hg : g = if d < 0 then -(Nat.gcd n.natAbs d.natAbs : Int) else (Nat.gcd n.natAbs d.natAbs : Int)) : n.fdiv g = (Rat.divInt n d).num ∧ d.fdiv g = ((Rat.divInt n d).den : Int) := by
  have hG : 0 < Nat.gcd n.natAbs d.natAbs := Nat.gcd_pos_of_pos_right _ (by omega)
  rw [Rat.num_divInt, Rat.den_divInt, if_neg h]
  have eg : (d.gcd n : Nat) = Nat.gcd n.natAbs d.natAbs := Nat.gcd_comm _ _
  rw [eg]
  obtain ⟨k, hk⟩ : ((Nat.gcd n.natAbs d.natAbs : Nat) : Int) ∣ n := Int.dvd_natAbs.mp (Int.natCast_dvd_natCast.mpr (Nat.gcd_dvd_left _ _))
  obtain ⟨l, hl⟩ : ((Nat.gcd n.natAbs d.natAbs : Nat) : Int) ∣ d := Int.dvd_natAbs.mp (Int.natCast_dvd_natCast.mpr (Nat.gcd_dvd_right _ _))
  generalize hGG : Nat.gcd n.natAbs d.natAbs = G at *
  have hG0 : (G : Int) ≠ 0 := by omega
  by_cases hd : d < 0
  · rw [if_pos hd] at hg
    subst hg
    have hs : d.sign = -1 := Int.sign_eq_neg_one_of_neg hd
    have e1 : n = (-(G : Int)) * (-k) := by rw [hk, Int.neg_mul_neg]
    have e2 : d = (-(G : Int)) * (-l) := by rw [hl, Int.neg_mul_neg]
    constructor
    · rw [hs]
      conv => lhs; rw [e1]
      rw [Int.mul_fdiv_cancel_left _ (by omega)]
      rw [hk, show -1 * ((G : Int) * k) = G * (-k) by rw [Int.mul_neg]; omega, Int.mul_ediv_cancel_left _ hG0]
    · conv => lhs; rw [e2]
      rw [Int.mul_fdiv_cancel_left _ (by omega)]
      have hl0 : l < 0 := by
        rcases Int.lt_trichotomy l 0 with q | q | q
        · exact q
        · subst q; rw [Int.mul_zero] at hl; omega
        · have := Int.mul_pos (show (0 : Int) < G by omega) q; omega
      have : d.natAbs = G * l.natAbs := by rw [hl, Int.natAbs_mul]; rfl
      rw [this, Nat.mul_div_cancel_left _ hG]
      omega
  · rw [if_neg hd] at hg
    subst hg
    have hs : d.sign = 1 := Int.sign_eq_one_of_pos (by omega)
    constructor
    · rw [hs, Int.one_mul]
      conv => lhs; rw [hk]
      conv => rhs; rw [hk]
      rw [Int.mul_fdiv_cancel_left _ hG0, Int.mul_ediv_cancel_left _ hG0]
    · conv => lhs; rw [hl]
      rw [Int.mul_fdiv_cancel_left _ hG0]
      have hl0 : 0 < l := by
        rcases Int.lt_trichotomy l 0 with q | q | q
        · have := Int.mul_neg_of_pos_of_neg (show (0 : Int) < G by omega) q; omega
        · subst q; rw [Int.mul_zero] at hl; omega
        · exact q
      have : d.natAbs = G * l.natAbs := by rw [hl, Int.natAbs_mul]; rfl
      rw [this, Nat.mul_div_cancel_left _ hG]
      omega
def gGcd : En → SR := (seqS (parS 0 1 (lCons ((op1 absD (nmO 0))) (lCons ((op1 absD (nmO 1))) lNil))) (seqS (whileS (tst (op2 neD (nmO 1) (oOfV (kI 0)))) (parS 0 1 (lCons ((eOfV ((nmV 1)))) (lCons ((op2 modD (nmO 0) (nmO 1))) lNil))) 20000) (retM 0)))
def qGcd : Sl → List D → FR := fnF 2 false gGcd
theorem t_gcd (a b : Int) (h : b.natAbs < big) : qGcd none [eI a, eI b] = .ok (eN (Nat.gcd a.natAbs b.natAbs), 0) none := by
  obtain ⟨h1, h2⟩ := euclid 8500 20000 a.natAbs b.natAbs h (by decide)
  have key : qGcd none [eI a, eI b] = .ok (eN (Let a.natAbs fun a1 => Let b.natAbs fun b2 => Let (iterW euC euT 20000 (a1, b2)) fun s4 => s4.1), 0) none :=
    jf_of (E := fun x => (eN x, 0)) (v := Let a.natAbs fun a1 => Let b.natAbs fun b2 => Let (iterW euC euT 20000 (a1, b2)) fun s4 => s4.1) (show JK _ ([.ex (eI a) 0, .ex (eI b) 0] : Gm) gGcd _ from (jk_par (S := fun a1 b2 => AllW euA euZ euC euT 20000 (a1, b2)) eN eN (jl_cons (j_op1 (jo_nm rfl) hq0 (g_abs a)) (jl_cons (j_op1 (jo_nm rfl) hq0 (g_abs b)) jl_nil)) rfl rfl h1 fun a1 b2 h3 => (jk_while (S := fun _ => True) (cT := euC) (step := euT) (s0 := (a1, b2)) (fun (s4 : (Nat × Nat)) => ([.ex (eN s4.1) 0, .ex (eN s4.2) 0] : Gm)) (.cons .same (.cons .same .nil)) h3 (fun s4 h8 => (jt_tst (j_op2 (jo_nm rfl) (jo_v j_int) hq0 hq0 (g_neN s4.2 (0 : Nat))))) (fun s4 h9 => (jk_last (show JK _ _ _ (Let s4.2 fun a5 => Let (s4.1 % s4.2) fun b6 => (a5, b6)) from jk_par (S := fun _ _ => True) eN eN (jl_cons (j_e (j_nm rfl)) (jl_cons (j_op2 (jo_nm rfl) (jo_nm rfl) hq0 hq0 (g_modN (b := s4.2) h9)) jl_nil)) rfl rfl trivial fun a5 b6 _ => (jk_go (.cons .same (.cons .same .nil)))))) trivial fun s4 _ => (jk_last (jk_retM rfl rfl)))))
  rw [key]
  show FR.ok (eN (iterW euC euT 20000 (a.natAbs, b.natAbs)).1, 0) none = _
  rw [h2]
def gLow (G : Sl → List D → FR) : En → SR := (seqS (setS 2 ((callF 2 G (aCons ((nmV 0)) (aCons ((nmV 1)) aNil))))) (seqS (iteS (tst (op2 (cmpD fun i j => decide (i < j)) (nmO 1) (oOfV (kI 0)))) (setS 2 ((op1 negD (nmO 2)))) passS) (retS ((eOfV ((tupE (aCons ((vOfE (op2 fdivD (nmO 0) (nmO 2)))) (aCons ((vOfE (op2 fdivD (nmO 1) (nmO 2)))) aNil)))))))))
def qLow : Sl → List D → FR := fnF 3 false (gLow qGcd)
theorem fdiv_ok {n g : Int} (h : g ≠ 0 ∧ g.natAbs.log2 < 9000) : fdivD (.int n) (.int g) = some (.int (n.fdiv g), 0) := g_divI h
theorem gcd_small {n d : Int} (h : lowOk n d) : (Nat.gcd n.natAbs d.natAbs : Int) ≠ 0 ∧ Nat.gcd n.natAbs d.natAbs < big := by
  have h0 := h.1
  have hG : 0 < Nat.gcd n.natAbs d.natAbs := Nat.gcd_pos_of_pos_right _ (by omega)
  have hle : Nat.gcd n.natAbs d.natAbs ≤ d.natAbs := Nat.gcd_le_right _ (by omega)
  exact ⟨by omega, Nat.lt_of_le_of_lt hle h.2⟩
theorem t_low (n d : Int) (h : lowOk n d) : qLow none [eI n, eI d] = .ok (eQ (Rat.divInt n d), 0) none := by
  have hg := t_gcd n d h.2
  obtain ⟨g0, gb⟩ := gcd_small h
  have hl := big_log gb
  unfold qLow gLow
  by_cases hd : d < 0
  · obtain ⟨e1, e2⟩ := low_eq h.1 (n := n) (g := -(Nat.gcd n.natAbs d.natAbs : Int)) (by rw [if_pos hd])
    have f1 := fdiv_ok (n := n) (g := -(Nat.gcd n.natAbs d.natAbs : Int)) ⟨by omega, by rw [Int.natAbs_neg]; simpa using hl⟩
    have f2 := fdiv_ok (n := d) (g := -(Nat.gcd n.natAbs d.natAbs : Int)) ⟨by omega, by rw [Int.natAbs_neg]; simpa using hl⟩
    rw [e1] at f1
    rw [e2] at f2
    unfold eN at hg
    generalize ((Nat.gcd n.natAbs d.natAbs : Nat) : Int) = G at *
    simp [-List.map_map, fnF, en0, seqS, passS, noS, exprS, retS, retN, retM, putE, setS, iteS, vOfE, eOfV, oOfV, kI, kB, kS, kN, nmV, nmO, op1, op2, opC, tst, tru, truD, notT, andT, orT, blV, vbl, andV, orV, notV, iteE, aNil, aCons, lNil, lCons, tupE, lstE, dicE, Opd.get, callF, frR, callI, callL, own1, addD, subD, negD, cmpD, lenD, intD, tupD, lisD, absD, isiD, tyD, min2D, max2D, Pv.R.of, raiseS, asgS, nameG, nilG, consG, tupG, isD, nisD, isNB, opS, pNone, pSome, seqI', itsD, sItS, putD, wipeE, backE, hg, hd, f1, f2]
  · obtain ⟨e1, e2⟩ := low_eq h.1 (n := n) (g := (Nat.gcd n.natAbs d.natAbs : Int)) (by rw [if_neg hd])
    have f1 := fdiv_ok (n := n) (g := (Nat.gcd n.natAbs d.natAbs : Int)) ⟨by omega, by simpa using hl⟩
    have f2 := fdiv_ok (n := d) (g := (Nat.gcd n.natAbs d.natAbs : Int)) ⟨by omega, by simpa using hl⟩
    rw [e1] at f1
    rw [e2] at f2
    unfold eN at hg
    generalize ((Nat.gcd n.natAbs d.natAbs : Nat) : Int) = G at *
    simp [-List.map_map, fnF, en0, seqS, passS, noS, exprS, retS, retN, retM, putE, setS, iteS, vOfE, eOfV, oOfV, kI, kB, kS, kN, nmV, nmO, op1, op2, opC, tst, tru, truD, notT, andT, orT, blV, vbl, andV, orV, notV, iteE, aNil, aCons, lNil, lCons, tupE, lstE, dicE, Opd.get, callF, frR, callI, callL, own1, addD, subD, negD, cmpD, lenD, intD, tupD, lisD, absD, isiD, tyD, min2D, max2D, Pv.R.of, raiseS, asgS, nameG, nilG, consG, tupG, isD, nisD, isNB, opS, pNone, pSome, seqI', itsD, sItS, putD, wipeE, backE, hg, hd, f1, f2]
end Tv
end

section
set_option Elab.async false
set_option linter.all false
set_option maxRecDepth 100000
set_option maxHeartbeats 4000000
namespace Tv
open PySem Pv
theorem le_all : ∀ {ps : List (D × Nat)} {e : En}, Le (ps.map fun p => .ex p.1 p.2) e → e = ps.map some
  | [], [], _ => rfl
  | [], _ :: _, h => h.elim
  | _ :: _, [], h => h.elim
  | p :: ps, s :: e, h => by
    have h1 : s = some (p.1, p.2) := h.1
    rw [h1, le_all h.2]; rfl
def gFr1 : En → SR := (parS 2 3 (lCons ((op1 absD (nmO 0))) (lCons ((op1 absD (nmO 1))) lNil)))
def gFr2 : En → SR := (whileS (tst (op2 neD (nmO 3) (oOfV (kI 0)))) (parS 2 3 (lCons ((eOfV ((nmV 3)))) (lCons ((op2 modD (oOfV ((vOfE (op1 intD (nmO 2))))) (nmO 3))) lNil))) 20000)
def gFr4 : En → SR := (retS ((eOfV ((tupE (aCons ((vOfE (op2 fdivD (nmO 0) (nmO 2)))) (aCons ((vOfE (op2 fdivD (nmO 1) (nmO 2)))) aNil)))))))
def qFracB : Sl → List D → FR := fnF 4 false (seqS gFr1 (seqS gFr2 (seqS (iteS (tst (op2 (cmpD fun i j => decide (i < j)) (nmO 1) (oOfV (kI 0)))) (setS 2 ((op1 negD (nmO 2)))) passS) gFr4)))
theorem fr1 (n d : Int) : gFr1 (en0 4 none [eI n, eI d]) = .nx [some (.int n, 0), some (.int d, 0), some (.int (n.natAbs : Int), 0), some (.int (d.natAbs : Int), 0)] := by
  have a1 := g_abs n
  have a2 := g_abs d
  unfold gFr1 parS
  simp only [lCons, lNil, op1, nmO, en0]
  simp [Opd.get, a1, a2]
theorem fr2 (n d : Int) (h : d.natAbs < big) : gFr2 [some (.int n, 0), some (.int d, 0), some (.int (n.natAbs : Int), 0), some (.int (d.natAbs : Int), 0)] = .nx [some (.int n, 0), some (.int d, 0), some (.int (Nat.gcd n.natAbs d.natAbs : Nat), 0), some (.int 0, 0)] := by
  obtain ⟨h1, h2⟩ := euclid 8500 20000 n.natAbs d.natAbs h (by decide)
  obtain ⟨e, q1, q2⟩ := while_ok (c := tst (op2 neD (nmO 3) (oOfV (kI 0)))) (body := parS 2 3 (lCons ((eOfV ((nmV 3)))) (lCons ((op2 modD (oOfV ((vOfE (op1 intD (nmO 2))))) (nmO 3))) lNil))) (G := fun s : Nat × Nat => ([.ex (eI n) 0, .ex (eI d) 0, .ex (eN s.1) 0, .ex (eN s.2) 0] : Gm)) (cT := euC) (step := euT) (Sc := euA) (Sb := euZ)
    (fun s _ => (jt_tst (j_op2 (jo_nm rfl) (jo_v j_int) hq0 hq0 (g_neN s.2 (0 : Nat)))))
    (fun s hs => (jk_last (show JK _ _ _ (Let s.2 fun a5 => Let (s.1 % s.2) fun b6 => (a5, b6)) from jk_par (S := fun _ _ => True) eN eN (jl_cons (j_e (j_nm rfl)) (jl_cons (j_op2 (jo_v (j_v (j_op1 (jo_nm rfl) hq0 (g_intN s.1)))) (jo_nm rfl) hq0 hq0 (g_modN (b := s.2) hs)) jl_nil)) rfl rfl trivial fun a5 b6 _ => (jk_go (.cons .same (.cons .same (.cons .same (.cons .same .nil))))))))
    20000 (n.natAbs, d.natAbs) [some (.int n, 0), some (.int d, 0), some (.int (n.natAbs : Int), 0), some (.int (d.natAbs : Int), 0)] h1 ⟨rfl, rfl, rfl, rfl, trivial⟩
  rw [h2] at q2
  have := le_all (ps := [(.int n, 0), (.int d, 0), (.int (Nat.gcd n.natAbs d.natAbs : Nat), 0), (.int 0, 0)]) q2
  unfold gFr2
  rw [q1, this]; rfl
theorem t_fracB (n d : Int) (h : lowOk n d) : qFracB none [eI n, eI d] = .ok (eQ (Rat.divInt n d), 0) none := by
  obtain ⟨g0, gb⟩ := gcd_small h
  have hl := big_log gb
  have s1 := fr1 n d
  have s2 := fr2 n d h.2
  refine fnF_ret (e := [some (.int n, 0), some (.int d, 0), some (.int (if d < 0 then -(Nat.gcd n.natAbs d.natAbs : Int) else (Nat.gcd n.natAbs d.natAbs : Int)), 0), some (.int 0, 0)]) ((seqS_nx s1).trans ((seqS_nx s2).trans ?_))
  · by_cases hd : d < 0
    · obtain ⟨e1, e2⟩ := low_eq h.1 (n := n) (g := -(Nat.gcd n.natAbs d.natAbs : Int)) (by rw [if_pos hd])
      have f1 := fdiv_ok (n := n) (g := -(Nat.gcd n.natAbs d.natAbs : Int)) ⟨by omega, by rw [Int.natAbs_neg]; simpa using hl⟩
      have f2 := fdiv_ok (n := d) (g := -(Nat.gcd n.natAbs d.natAbs : Int)) ⟨by omega, by rw [Int.natAbs_neg]; simpa using hl⟩
      rw [e1] at f1
      rw [e2] at f2
      rw [if_pos hd]
      generalize ((Nat.gcd n.natAbs d.natAbs : Nat) : Int) = G at *
      unfold gFr4
      simp [-List.map_map, fnF, en0, seqS, passS, noS, exprS, retS, retN, retM, putE, setS, iteS, vOfE, eOfV, oOfV, kI, kB, kS, kN, nmV, nmO, op1, op2, opC, tst, tru, truD, notT, andT, orT, blV, vbl, andV, orV, notV, iteE, aNil, aCons, lNil, lCons, tupE, lstE, dicE, Opd.get, callF, frR, callI, callL, own1, addD, subD, negD, cmpD, lenD, intD, tupD, lisD, absD, isiD, tyD, min2D, max2D, Pv.R.of, raiseS, asgS, nameG, nilG, consG, tupG, isD, nisD, isNB, opS, pNone, pSome, seqI', itsD, sItS, putD, wipeE, backE, hd, f1, f2]
    · obtain ⟨e1, e2⟩ := low_eq h.1 (n := n) (g := (Nat.gcd n.natAbs d.natAbs : Int)) (by rw [if_neg hd])
      have f1 := fdiv_ok (n := n) (g := (Nat.gcd n.natAbs d.natAbs : Int)) ⟨by omega, by simpa using hl⟩
      have f2 := fdiv_ok (n := d) (g := (Nat.gcd n.natAbs d.natAbs : Int)) ⟨by omega, by simpa using hl⟩
      rw [e1] at f1
      rw [e2] at f2
      rw [if_neg hd]
      generalize ((Nat.gcd n.natAbs d.natAbs : Nat) : Int) = G at *
      unfold gFr4
      simp [-List.map_map, fnF, en0, seqS, passS, noS, exprS, retS, retN, retM, putE, setS, iteS, vOfE, eOfV, oOfV, kI, kB, kS, kN, nmV, nmO, op1, op2, opC, tst, tru, truD, notT, andT, orT, blV, vbl, andV, orV, notV, iteE, aNil, aCons, lNil, lCons, tupE, lstE, dicE, Opd.get, callF, frR, callI, callL, own1, addD, subD, negD, cmpD, lenD, intD, tupD, lisD, absD, isiD, tyD, min2D, max2D, Pv.R.of, raiseS, asgS, nameG, nilG, consG, tupG, isD, nisD, isNB, opS, pNone, pSome, seqI', itsD, sItS, putD, wipeE, backE, hd, f1, f2]
def LowF (L : Sl → List D → FR) : Prop := ∀ n d, lowOk n d → L none [eI n, eI d] = .ok (eQ (Rat.divInt n d), 0) none
def gRsum (L : Sl → List D → FR) : En → SR := (retS ((callF 2 L (aCons ((vOfE (op2 addD (oOfV ((vOfE (op2 mulD (oOfV ((vOfE (op2 idxD (nmO 0) (oOfV (kI 0)))))) (oOfV ((vOfE (op2 idxD (nmO 1) (oOfV (kI 1)))))))))) (oOfV ((vOfE (op2 mulD (oOfV ((vOfE (op2 idxD (nmO 1) (oOfV (kI 0)))))) (oOfV ((vOfE (op2 idxD (nmO 0) (oOfV (kI 1))))))))))))) (aCons ((vOfE (op2 mulD (oOfV ((vOfE (op2 idxD (nmO 0) (oOfV (kI 1)))))) (oOfV ((vOfE (op2 idxD (nmO 1) (oOfV (kI 1))))))))) aNil)))))
def gRless (L : Sl → List D → FR) : En → SR := (retS ((callF 2 L (aCons ((vOfE (op2 subD (oOfV ((vOfE (op2 mulD (oOfV ((vOfE (op2 idxD (nmO 0) (oOfV (kI 0)))))) (oOfV ((vOfE (op2 idxD (nmO 1) (oOfV (kI 1)))))))))) (oOfV ((vOfE (op2 mulD (oOfV ((vOfE (op2 idxD (nmO 1) (oOfV (kI 0)))))) (oOfV ((vOfE (op2 idxD (nmO 0) (oOfV (kI 1))))))))))))) (aCons ((vOfE (op2 mulD (oOfV ((vOfE (op2 idxD (nmO 0) (oOfV (kI 1)))))) (oOfV ((vOfE (op2 idxD (nmO 1) (oOfV (kI 1))))))))) aNil)))))
def gRprod (L : Sl → List D → FR) : En → SR := (retS ((callF 2 L (aCons ((vOfE (op2 mulD (oOfV ((vOfE (op2 idxD (nmO 0) (oOfV (kI 0)))))) (oOfV ((vOfE (op2 idxD (nmO 1) (oOfV (kI 0))))))))) (aCons ((vOfE (op2 mulD (oOfV ((vOfE (op2 idxD (nmO 0) (oOfV (kI 1)))))) (oOfV ((vOfE (op2 idxD (nmO 1) (oOfV (kI 1))))))))) aNil)))))
structure Sm (q : Rat) : Prop where
  n : q.num.natAbs < 2 ^ 4000
  d : q.den < 2 ^ 4000
theorem log_4000 {n : Nat} (h : n < 2 ^ 4000) : n.log2 < 4000 := by
  by_cases h0 : n = 0
  · subst h0; decide
  · exact (Nat.log2_lt h0).mpr h
theorem mul_4000 {a b : Int} (ha : a.natAbs < 2 ^ 4000) (hb : b.natAbs < 2 ^ 4000) : mulOk a b = true := mulOk_log (by
  have := log_4000 ha
  have := log_4000 hb
  omega)
theorem pow_big : (2 : Nat) ^ 4000 * 2 ^ 4000 ≤ big := by
  unfold big
  rw [← Nat.pow_add]
  exact Nat.pow_le_pow_right (by decide) (by decide)
theorem den_big {a b : Rat} (ha : Sm a) (hb : Sm b) : lowOk 0 ((a.den * b.den : Nat) : Int) := by
  have h1 := a.den_nz
  have h2 := b.den_nz
  have h3 : 0 < a.den * b.den := Nat.mul_pos (by omega) (by omega)
  refine ⟨by omega, ?_⟩
  rw [Int.natAbs_natCast]
  exact Nat.lt_of_lt_of_le (Nat.mul_lt_mul'' ha.d hb.d) pow_big
section
variable {L : Sl → List D → FR} (hL : LowF L) {a b : Rat} (ha : Sm a) (hb : Sm b)
include hL ha hb
theorem q_sum : fnF 2 false (gRsum L) none [eQ a, eQ b] = .ok (eQ (a + b), 0) none := by
  have e : a + b = Rat.divInt (a.num * b.den + b.num * a.den) ((a.den * b.den : Nat) : Int) := by
    conv => lhs; rw [← Rat.num_divInt_den a, ← Rat.num_divInt_den b]
    rw [Rat.divInt_add_divInt _ _ (by have := a.den_nz; omega) (by have := b.den_nz; omega), Int.natCast_mul]
  have l := hL (a.num * b.den + b.num * a.den) ((a.den * b.den : Nat) : Int) ⟨(den_big ha hb).1, (den_big ha hb).2⟩
  rw [e]
  exact jf_of (E := fun x => (eQ x, 0)) (v := Rat.divInt (a.num * b.den + b.num * a.den) ((a.den * b.den : Nat) : Int)) (show JK _ ([.ex (eQ a) 0, .ex (eQ b) 0] : Gm) (gRsum L) _ from (jk_last (jk_ret (j_call (ja_cons (j_v (j_op2 (jo_v (j_v (j_op2 (jo_v (j_v (j_op2 (jo_nm rfl) (jo_v j_int) hq0 hq0 g_p0))) (jo_v (j_v (j_op2 (jo_nm rfl) (jo_v j_int) hq0 hq0 g_p1))) hq0 hq0 (g_mulI (a := a.num) (b := ((b.den : Nat) : Int)) (mul_4000 ha.n (by simpa using hb.d)))))) (jo_v (j_v (j_op2 (jo_v (j_v (j_op2 (jo_nm rfl) (jo_v j_int) hq0 hq0 g_p0))) (jo_v (j_v (j_op2 (jo_nm rfl) (jo_v j_int) hq0 hq0 g_p1))) hq0 hq0 (g_mulI (a := b.num) (b := ((a.den : Nat) : Int)) (mul_4000 hb.n (by simpa using ha.d)))))) hq0 hq0 (g_addI (a.num * ((b.den : Nat) : Int)) (b.num * ((a.den : Nat) : Int))))) (ja_cons (j_v (j_op2 (jo_v (j_v (j_op2 (jo_nm rfl) (jo_v j_int) hq0 hq0 g_p1))) (jo_v (j_v (j_op2 (jo_nm rfl) (jo_v j_int) hq0 hq0 g_p1))) hq0 hq0 (g_mulN (a := a.den) (b := b.den) (mul_4000 (by simpa using ha.d) (by simpa using hb.d))))) ja_nil)) rfl l))))
theorem q_less : fnF 2 false (gRless L) none [eQ a, eQ b] = .ok (eQ (a - b), 0) none := by
  have e : a - b = Rat.divInt (a.num * b.den - b.num * a.den) ((a.den * b.den : Nat) : Int) := by
    conv => lhs; rw [← Rat.num_divInt_den a, ← Rat.num_divInt_den b]
    rw [Rat.divInt_sub_divInt _ _ (by have := a.den_nz; omega) (by have := b.den_nz; omega), Int.natCast_mul]
  have l := hL (a.num * b.den - b.num * a.den) ((a.den * b.den : Nat) : Int) ⟨(den_big ha hb).1, (den_big ha hb).2⟩
  rw [e]
  exact jf_of (E := fun x => (eQ x, 0)) (v := Rat.divInt (a.num * b.den - b.num * a.den) ((a.den * b.den : Nat) : Int)) (show JK _ ([.ex (eQ a) 0, .ex (eQ b) 0] : Gm) (gRless L) _ from (jk_last (jk_ret (j_call (ja_cons (j_v (j_op2 (jo_v (j_v (j_op2 (jo_v (j_v (j_op2 (jo_nm rfl) (jo_v j_int) hq0 hq0 g_p0))) (jo_v (j_v (j_op2 (jo_nm rfl) (jo_v j_int) hq0 hq0 g_p1))) hq0 hq0 (g_mulI (a := a.num) (b := ((b.den : Nat) : Int)) (mul_4000 ha.n (by simpa using hb.d)))))) (jo_v (j_v (j_op2 (jo_v (j_v (j_op2 (jo_nm rfl) (jo_v j_int) hq0 hq0 g_p0))) (jo_v (j_v (j_op2 (jo_nm rfl) (jo_v j_int) hq0 hq0 g_p1))) hq0 hq0 (g_mulI (a := b.num) (b := ((a.den : Nat) : Int)) (mul_4000 hb.n (by simpa using ha.d)))))) hq0 hq0 (g_subI (a.num * ((b.den : Nat) : Int)) (b.num * ((a.den : Nat) : Int))))) (ja_cons (j_v (j_op2 (jo_v (j_v (j_op2 (jo_nm rfl) (jo_v j_int) hq0 hq0 g_p1))) (jo_v (j_v (j_op2 (jo_nm rfl) (jo_v j_int) hq0 hq0 g_p1))) hq0 hq0 (g_mulN (a := a.den) (b := b.den) (mul_4000 (by simpa using ha.d) (by simpa using hb.d))))) ja_nil)) rfl l))))
theorem q_prod : fnF 2 false (gRprod L) none [eQ a, eQ b] = .ok (eQ (a * b), 0) none := by
  have e : a * b = Rat.divInt (a.num * b.num) ((a.den * b.den : Nat) : Int) := by
    conv => lhs; rw [← Rat.num_divInt_den a, ← Rat.num_divInt_den b]
    rw [Rat.divInt_mul_divInt, Int.natCast_mul]
  have l := hL (a.num * b.num) ((a.den * b.den : Nat) : Int) ⟨(den_big ha hb).1, (den_big ha hb).2⟩
  rw [e]
  exact jf_of (E := fun x => (eQ x, 0)) (v := Rat.divInt (a.num * b.num) ((a.den * b.den : Nat) : Int)) (show JK _ ([.ex (eQ a) 0, .ex (eQ b) 0] : Gm) (gRprod L) _ from (jk_last (jk_ret (j_call (ja_cons (j_v (j_op2 (jo_v (j_v (j_op2 (jo_nm rfl) (jo_v j_int) hq0 hq0 g_p0))) (jo_v (j_v (j_op2 (jo_nm rfl) (jo_v j_int) hq0 hq0 g_p0))) hq0 hq0 (g_mulI (a := a.num) (b := b.num) (mul_4000 ha.n hb.n)))) (ja_cons (j_v (j_op2 (jo_v (j_v (j_op2 (jo_nm rfl) (jo_v j_int) hq0 hq0 g_p1))) (jo_v (j_v (j_op2 (jo_nm rfl) (jo_v j_int) hq0 hq0 g_p1))) hq0 hq0 (g_mulN (a := a.den) (b := b.den) (mul_4000 (by simpa using ha.d) (by simpa using hb.d))))) ja_nil)) rfl l))))
end
end Tv
end

section
set_option Elab.async false
set_option linter.all false
set_option maxRecDepth 100000
set_option maxHeartbeats 4000000
namespace Tv
open PySem Pv
def PXs {σ ρ : Type} (G : σ → Gm) (E : ρ → D × Nat) : Stp σ ρ → SR → Prop
  | .go s, r => ∃ e, r = .nx e ∧ Le (G s) e
  | .brk _, _ => False
  | .ret x, r => ∃ e, r = .ret (E x) e
section
variable {σ ρ : Type} {G : σ → Gm} {E : ρ → D × Nat} {rest f : En → SR} {Γ Γ1 : Gm}
theorem jx_weak {v : Stp σ ρ} (h : JK (PXs G E) Γ f v) : JK (PX G E) Γ f v := fun e l => by
  have := h e l
  cases v with
  | go s => obtain ⟨e', h1, h2⟩ := this; exact ⟨e', .inl h1, h2⟩
  | brk s => exact this.elim
  | ret x => exact this
theorem jl_weak {τ : Type} {G : τ → Gm} {v : τ} (h : JK (PN G) Γ f v) : JK (PL G) Γ f v := fun e l => by
  obtain ⟨e', h1, h2⟩ := h e l
  exact ⟨e', .inl h1, h2⟩
theorem jxs_go {s : σ} (w : Wk Γ (G s)) : JK (PXs G E) Γ passS (.go s) := fun e l => ⟨e, rfl, w.le l⟩
theorem jxs_ret {x : ρ} {fe : En → R (D × Nat)} (h : J Γ fe (E x) Γ1) : JK (PXs G E) Γ (seqS (retS fe) rest) (.ret x) := fun e l => by
  obtain ⟨e', h1, h2⟩ := h e l
  exact ⟨e', seqS_ret (by unfold retS; rw [h1]; rfl)⟩
theorem pxs_ret (x : ρ) (e : En) : PXs G E (.ret x) (.ret (E x) e) := ⟨e, rfl⟩
end
def nice : D → Bool
  | .fn _ => false
  | .scr _ => false
  | _ => true
def isTupD : D → Bool
  | .tup _ => true
  | _ => false
def isIntD : D → Bool
  | .int _ => true
  | _ => false
def isBlD : D → Bool
  | .bl _ => true
  | _ => false
def tupOf : D → List D
  | .tup ds => ds
  | _ => []
theorem isi_tupD {d : D} (h : nice d = true) : isiD "tuple" d = some (eB (isTupD d), 0) := by
  cases d <;> first | (cases h; done) | rfl | decide
theorem isi_intD {d : D} (h : nice d = true) : isiD "int" d = some (eB (isIntD d || isBlD d), 0) := by
  cases d <;> first | (cases h; done) | rfl | decide
theorem isi_blD {d : D} (h : nice d = true) : isiD "bool" d = some (eB (isBlD d), 0) := by
  cases d <;> first | (cases h; done) | rfl | decide
theorem len_tupD {d : D} (h : isTupD d = true) : lenD d = some (eN (tupOf d).length, 0) := by
  cases d <;> first | (cases h; done) | rfl
theorem its_tupD {d : D} (h : isTupD d = true) : itsD d = some ((tupOf d).map eD) := by
  cases d <;> first | (cases h; done) | (show some _ = some _; simp [tupOf, eD])
theorem idx_tupAny {d : D} {k : Nat} (h : isTupD d = true) (hk : k < (tupOf d).length) : idxD d (eN k) = some ((tupOf d).getD k .non, 0) := by
  cases d with
  | tup ds =>
    have hk : k < ds.length := hk
    have h1 := idx_tup (ds := ds) (k := k) hk
    have h2 : (tupOf (.tup ds)).getD k .non = ds[k]'hk := by
      show ds.getD k .non = _
      rw [List.getD_eq_getElem?_getD, List.getElem?_eq_getElem hk, Option.getD_some]
    rw [h2]; exact h1
  | _ => cases h
def isRatD : D → Bool
  | .tup [.int a, .int b] => decide (0 < b) && decide (Nat.gcd a.natAbs b.natAbs = 1)
  | _ => false
theorem isRatD_Q (q : Rat) : isRatD (eQ q) = true := by
  have h1 := q.den_nz
  have h2 := q.reduced
  show (decide ((0 : Int) < (q.den : Int)) && decide (Nat.gcd q.num.natAbs (q.den : Int).natAbs = 1)) = true
  rw [Int.natAbs_natCast, decide_eq_true (show (0 : Int) < q.den by omega), decide_eq_true h2]; rfl
def Bd (E M : Nat) (q : Rat) : Prop := 0 < E ∧ ∃ z : Int, q * E = z ∧ z.natAbs ≤ M * E
theorem cast_ne {E : Nat} (h : 0 < E) : (E : Rat) ≠ 0 := by
  intro h'
  have : (E : Rat) = ((0 : Nat) : Rat) := h'
  have := Rat.natCast_inj.mp this
  omega
theorem Bd.add {E M N : Nat} {a b : Rat} (ha : Bd E M a) (hb : Bd E N b) : Bd E (M + N) (a + b) := by
  obtain ⟨h0, z, h1, h2⟩ := ha
  obtain ⟨_, w, h3, h4⟩ := hb
  refine ⟨h0, z + w, ?_, ?_⟩
  · rw [Rat.intCast_add, ← h1, ← h3]; grind
  · rw [Nat.add_mul]
    exact Nat.le_trans (Int.natAbs_add_le z w) (by omega)
theorem Bd.neg {E M : Nat} {a : Rat} (ha : Bd E M a) : Bd E M (-a) := by
  obtain ⟨h0, z, h1, h2⟩ := ha
  refine ⟨h0, -z, ?_, by rw [Int.natAbs_neg]; exact h2⟩
  rw [Rat.intCast_neg, ← h1]; grind
theorem Bd.sub {E M N : Nat} {a b : Rat} (ha : Bd E M a) (hb : Bd E N b) : Bd E (M + N) (a - b) := by
  have := ha.add hb.neg
  rwa [← Rat.sub_eq_add_neg] at this
theorem Bd.mul {E F M N : Nat} {a b : Rat} (ha : Bd E M a) (hb : Bd F N b) : Bd (E * F) (M * N) (a * b) := by
  obtain ⟨h0, z, h1, h2⟩ := ha
  obtain ⟨h0', w, h3, h4⟩ := hb
  refine ⟨Nat.mul_pos h0 h0', z * w, ?_, ?_⟩
  · rw [Rat.intCast_mul, ← h1, ← h3, Rat.natCast_mul]; grind
  · rw [Int.natAbs_mul]
    exact Nat.le_trans (Nat.mul_le_mul h2 h4) (by rw [Nat.mul_mul_mul_comm]; exact Nat.le_refl _)
theorem Bd.mono {E M N : Nat} {a : Rat} (ha : Bd E M a) (h : M ≤ N) : Bd E N a := by
  obtain ⟨h0, z, h1, h2⟩ := ha
  exact ⟨h0, z, h1, Nat.le_trans h2 (Nat.mul_le_mul_right _ h)⟩
theorem Bd.over {E M : Nat} {a : Rat} (ha : Bd E M a) {F : Nat} (hF : 0 < F) : Bd (E * F) M a := by
  obtain ⟨h0, z, h1, h2⟩ := ha
  refine ⟨Nat.mul_pos h0 hF, z * F, ?_, ?_⟩
  · rw [Rat.intCast_mul, ← h1, Rat.natCast_mul, Rat.intCast_natCast]; grind
  · rw [Int.natAbs_mul, Int.natAbs_natCast, ← Nat.mul_assoc]
    exact Nat.mul_le_mul_right _ h2
theorem Bd.dvd {E F M : Nat} {a : Rat} (ha : Bd E M a) (h : E ∣ F) (hF : 0 < F) : Bd F M a := by
  obtain ⟨k, rfl⟩ := h
  exact ha.over (Nat.pos_of_ne_zero fun h => by rw [h, Nat.mul_zero] at hF; omega)
theorem Bd.int (z : Int) : Bd 1 z.natAbs (z : Rat) := ⟨Nat.one_pos, z, by grind, by omega⟩
theorem Bd.zero {E M : Nat} (h : 0 < E) : Bd E M 0 := ⟨h, 0, by grind, by simp⟩
theorem Bd.divInt (z : Int) {d : Nat} (h : 0 < d) : Bd d z.natAbs (Rat.divInt z d) := by
  have hd := cast_ne h
  refine ⟨h, z, ?_, Nat.le_mul_of_pos_right _ h⟩
  rw [Rat.divInt_eq_div, Rat.intCast_natCast]; grind
theorem Bd.sm {E M : Nat} {q : Rat} (h : Bd E M q) (hE : E < 2 ^ 2000) (hM : M < 2 ^ 2000) : Sm q := by
  obtain ⟨h0, z, h1, h2⟩ := h
  have e : q = Rat.divInt z E := by
    have hd := cast_ne h0
    rw [Rat.divInt_eq_div, Rat.intCast_natCast, ← h1]; grind
  have hp : (2 : Nat) ^ 2000 * 2 ^ 2000 = 2 ^ 4000 := by rw [← Nat.pow_add]
  have hz : z.natAbs < 2 ^ 4000 := by
    rw [← hp]
    exact Nat.lt_of_le_of_lt h2 (Nat.mul_lt_mul'' hM hE)
  have hE4 : E < 2 ^ 4000 := Nat.lt_of_lt_of_le hE (Nat.pow_le_pow_right (by decide) (by decide))
  have he : (E : Int) ≠ 0 := by omega
  constructor
  · rw [e, Rat.num_divInt]
    have hs : (E : Int).sign = 1 := Int.sign_eq_one_of_pos (by omega)
    rw [hs, Int.one_mul]
    refine Nat.lt_of_le_of_lt ?_ hz
    exact Int.natAbs_ediv_le_natAbs _ _
  · rw [e, Rat.den_divInt, if_neg he, Int.natAbs_natCast]
    exact Nat.lt_of_le_of_lt (Nat.div_le_self _ _) hE4
end Tv
end

section
set_option Elab.async false
set_option linter.all false
set_option maxRecDepth 100000
set_option maxHeartbeats 4000000
namespace Tv
open PySem Pv
def qIsInt : Sl → List D → FR := fnF 1 false (retS ((eOfV ((andV ((vOfE (op1 (isiD "int") (nmO 0)))) ((notV ((vOfE (op1 (isiD "bool") (nmO 0)))))))))))
theorem q_isInt (d : D) (h : nice d = true) : qIsInt none [d] = .ok (eB (isIntD d), 0) none := by
  have h1 := isi_intD h
  have h2 := isi_blD h
  unfold qIsInt
  cases d with
  | fn _ => cases h
  | scr _ => cases h
  | _ => simp [-List.map_map, fnF, en0, seqS, passS, noS, exprS, retS, retN, retM, putE, setS, iteS, vOfE, eOfV, oOfV, kI, kB, kS, kN, nmV, nmO, op1, op2, opC, tst, tru, truD, notT, andT, orT, blV, vbl, andV, orV, notV, iteE, aNil, aCons, lNil, lCons, tupE, lstE, dicE, Opd.get, callF, frR, callI, callL, own1, addD, subD, negD, cmpD, lenD, intD, tupD, lisD, absD, isiD, tyD, min2D, max2D, Pv.R.of, raiseS, asgS, nameG, nilG, consG, tupG, isD, nisD, isNB, opS, pNone, pSome, seqI', itsD, sItS, putD, wipeE, backE]; rfl
structure ratOk (d : D) : Prop where
  n : nice d = true
  m : ∀ ds, d = .tup ds → ds.all nice = true
  b : ∀ a b : Int, d = .tup [.int a, .int b] → b.natAbs < big
def gIsRat (I G : Sl → List D → FR) : En → SR := seqS
  (iteS (orT (notT (tru (oOfV ((vOfE (op1 (isiD "tuple") (nmO 0))))))) (orT (tst (op2 neD (oOfV ((vOfE (op1 lenD (nmO 0))))) (oOfV (kI 2)))) (orT (notT (tru (oOfV ((vOfE (callF 1 I (aCons ((vOfE (op2 idxD (nmO 0) (oOfV (kI 0))))) aNil))))))) (notT (tru (oOfV ((vOfE (callF 1 I (aCons ((vOfE (op2 idxD (nmO 0) (oOfV (kI 1))))) aNil)))))))))) (retS ((eOfV (kB false)))) passS)
  (retS ((eOfV ((andV ((vOfE (op2 (cmpD fun i j => decide (j < i)) (oOfV ((vOfE (op2 idxD (nmO 0) (oOfV (kI 1)))))) (oOfV (kI 0))))) ((vOfE (op2 eqD (oOfV ((vOfE (callF 2 G (aCons ((vOfE (op2 idxD (nmO 0) (oOfV (kI 0))))) (aCons ((vOfE (op2 idxD (nmO 0) (oOfV (kI 1))))) aNil)))))) (oOfV (kI 1))))))))))
def qIsRat : Sl → List D → FR := fnF 1 false (gIsRat qIsInt qGcd)
theorem q_isRat (d : D) (h : ratOk d) : qIsRat none [d] = .ok (eB (isRatD d), 0) none := by
  have hn := h.n
  unfold qIsRat gIsRat
  cases d with
  | fn _ => cases hn
  | scr _ => cases hn
  | tup ds =>
    have hm := h.m ds rfl
    match ds, hm with
    | [], _ => simp [-List.map_map, fnF, en0, seqS, passS, noS, exprS, retS, retN, retM, putE, setS, iteS, vOfE, eOfV, oOfV, kI, kB, kS, kN, nmV, nmO, op1, op2, opC, tst, tru, truD, notT, andT, orT, blV, vbl, andV, orV, notV, iteE, aNil, aCons, lNil, lCons, tupE, lstE, dicE, Opd.get, callF, frR, callI, callL, own1, addD, subD, negD, cmpD, lenD, intD, tupD, lisD, absD, isiD, tyD, min2D, max2D, Pv.R.of, raiseS, asgS, nameG, nilG, consG, tupG, isD, nisD, isNB, opS, pNone, pSome, seqI', itsD, sItS, putD, wipeE, backE, isRatD]
    | [a], _ => simp [-List.map_map, fnF, en0, seqS, passS, noS, exprS, retS, retN, retM, putE, setS, iteS, vOfE, eOfV, oOfV, kI, kB, kS, kN, nmV, nmO, op1, op2, opC, tst, tru, truD, notT, andT, orT, blV, vbl, andV, orV, notV, iteE, aNil, aCons, lNil, lCons, tupE, lstE, dicE, Opd.get, callF, frR, callI, callL, own1, addD, subD, negD, cmpD, lenD, intD, tupD, lisD, absD, isiD, tyD, min2D, max2D, Pv.R.of, raiseS, asgS, nameG, nilG, consG, tupG, isD, nisD, isNB, opS, pNone, pSome, seqI', itsD, sItS, putD, wipeE, backE, isRatD]
    | a :: b :: c :: ds, _ =>
      have h1 : ¬ ((ds.length : Int) + 1 + 1 + 1 = 2) := by omega
      simp [-List.map_map, fnF, en0, seqS, passS, noS, exprS, retS, retN, retM, putE, setS, iteS, vOfE, eOfV, oOfV, kI, kB, kS, kN, nmV, nmO, op1, op2, opC, tst, tru, truD, notT, andT, orT, blV, vbl, andV, orV, notV, iteE, aNil, aCons, lNil, lCons, tupE, lstE, dicE, Opd.get, callF, frR, callI, callL, own1, addD, subD, negD, cmpD, lenD, intD, tupD, lisD, absD, isiD, tyD, min2D, max2D, Pv.R.of, raiseS, asgS, nameG, nilG, consG, tupG, isD, nisD, isNB, opS, pNone, pSome, seqI', itsD, sItS, putD, wipeE, backE, isRatD, h1]
    | [a, b], hm =>
      simp only [List.all_cons, List.all_nil, Bool.and_true, Bool.and_eq_true] at hm
      have ia := q_isInt a hm.1
      have ib := q_isInt b hm.2
      cases a with
      | int i =>
        cases b with
        | int j =>
          have g := t_gcd i j (h.b i j rfl)
          have e : eqD (.int (Nat.gcd i.natAbs j.natAbs : Nat)) (.int 1) = some (eB (decide (Nat.gcd i.natAbs j.natAbs = 1)), 0) := g_eqN (Nat.gcd i.natAbs j.natAbs) 1
          unfold eN at g
          simp only [isIntD] at ia ib
          by_cases hj : 0 < j
          · simp only [isRatD, decide_eq_true hj, Bool.true_and]
            have g' : qGcd none [.int i, .int j] = .ok (.int (Nat.gcd i.natAbs j.natAbs : Nat), 0) none := g
            by_cases h1 : Nat.gcd i.natAbs j.natAbs = 1
            · have dt : ∀ I : Decidable (Nat.gcd i.natAbs j.natAbs = 1), @decide _ I = true := fun I => decide_eq_true h1
              rw [dt] at e ⊢
              generalize Nat.gcd i.natAbs j.natAbs = G at g' e
              simp [-List.map_map, fnF, en0, seqS, passS, noS, exprS, retS, retN, retM, putE, setS, iteS, vOfE, eOfV, oOfV, kI, kB, kS, kN, nmV, nmO, op1, op2, opC, tst, tru, truD, notT, andT, orT, blV, vbl, andV, orV, notV, iteE, aNil, aCons, lNil, lCons, tupE, lstE, dicE, Opd.get, callF, frR, callI, callL, own1, addD, subD, negD, cmpD, lenD, intD, tupD, lisD, absD, isiD, tyD, min2D, max2D, Pv.R.of, raiseS, asgS, nameG, nilG, consG, tupG, isD, nisD, isNB, opS, pNone, pSome, seqI', itsD, sItS, putD, wipeE, backE, ia, ib, at_0, at_1, idxD, hj, g', e]
            · have dt : ∀ I : Decidable (Nat.gcd i.natAbs j.natAbs = 1), @decide _ I = false := fun I => decide_eq_false h1
              rw [dt] at e ⊢
              generalize Nat.gcd i.natAbs j.natAbs = G at g' e
              simp [-List.map_map, fnF, en0, seqS, passS, noS, exprS, retS, retN, retM, putE, setS, iteS, vOfE, eOfV, oOfV, kI, kB, kS, kN, nmV, nmO, op1, op2, opC, tst, tru, truD, notT, andT, orT, blV, vbl, andV, orV, notV, iteE, aNil, aCons, lNil, lCons, tupE, lstE, dicE, Opd.get, callF, frR, callI, callL, own1, addD, subD, negD, cmpD, lenD, intD, tupD, lisD, absD, isiD, tyD, min2D, max2D, Pv.R.of, raiseS, asgS, nameG, nilG, consG, tupG, isD, nisD, isNB, opS, pNone, pSome, seqI', itsD, sItS, putD, wipeE, backE, ia, ib, at_0, at_1, idxD, hj, g', e]
          · simp only [isRatD, decide_eq_false hj, Bool.false_and]
            simp [-List.map_map, fnF, en0, seqS, passS, noS, exprS, retS, retN, retM, putE, setS, iteS, vOfE, eOfV, oOfV, kI, kB, kS, kN, nmV, nmO, op1, op2, opC, tst, tru, truD, notT, andT, orT, blV, vbl, andV, orV, notV, iteE, aNil, aCons, lNil, lCons, tupE, lstE, dicE, Opd.get, callF, frR, callI, callL, own1, addD, subD, negD, cmpD, lenD, intD, tupD, lisD, absD, isiD, tyD, min2D, max2D, Pv.R.of, raiseS, asgS, nameG, nilG, consG, tupG, isD, nisD, isNB, opS, pNone, pSome, seqI', itsD, sItS, putD, wipeE, backE, ia, ib, at_0, at_1, idxD, hj]
        | fn _ => exact absurd hm.2 (by simp [nice])
        | scr _ => exact absurd hm.2 (by simp [nice])
        | _ =>
          simp only [isIntD] at ia ib
          simp [-List.map_map, fnF, en0, seqS, passS, noS, exprS, retS, retN, retM, putE, setS, iteS, vOfE, eOfV, oOfV, kI, kB, kS, kN, nmV, nmO, op1, op2, opC, tst, tru, truD, notT, andT, orT, blV, vbl, andV, orV, notV, iteE, aNil, aCons, lNil, lCons, tupE, lstE, dicE, Opd.get, callF, frR, callI, callL, own1, addD, subD, negD, cmpD, lenD, intD, tupD, lisD, absD, isiD, tyD, min2D, max2D, Pv.R.of, raiseS, asgS, nameG, nilG, consG, tupG, isD, nisD, isNB, opS, pNone, pSome, seqI', itsD, sItS, putD, wipeE, backE, ia, ib, at_0, at_1, idxD, isRatD]
      | fn _ => exact absurd hm.1 (by simp [nice])
      | scr _ => exact absurd hm.1 (by simp [nice])
      | _ =>
        simp only [isIntD] at ia ib
        simp [-List.map_map, fnF, en0, seqS, passS, noS, exprS, retS, retN, retM, putE, setS, iteS, vOfE, eOfV, oOfV, kI, kB, kS, kN, nmV, nmO, op1, op2, opC, tst, tru, truD, notT, andT, orT, blV, vbl, andV, orV, notV, iteE, aNil, aCons, lNil, lCons, tupE, lstE, dicE, Opd.get, callF, frR, callI, callL, own1, addD, subD, negD, cmpD, lenD, intD, tupD, lisD, absD, isiD, tyD, min2D, max2D, Pv.R.of, raiseS, asgS, nameG, nilG, consG, tupG, isD, nisD, isNB, opS, pNone, pSome, seqI', itsD, sItS, putD, wipeE, backE, ia, ib, at_0, at_1, idxD, isRatD]
  | _ => simp [-List.map_map, fnF, en0, seqS, passS, noS, exprS, retS, retN, retM, putE, setS, iteS, vOfE, eOfV, oOfV, kI, kB, kS, kN, nmV, nmO, op1, op2, opC, tst, tru, truD, notT, andT, orT, blV, vbl, andV, orV, notV, iteE, aNil, aCons, lNil, lCons, tupE, lstE, dicE, Opd.get, callF, frR, callI, callL, own1, addD, subD, negD, cmpD, lenD, intD, tupD, lisD, absD, isiD, tyD, min2D, max2D, Pv.R.of, raiseS, asgS, nameG, nilG, consG, tupG, isD, nisD, isNB, opS, pNone, pSome, seqI', itsD, sItS, putD, wipeE, backE, isRatD]
theorem ratOk_Q {q : Rat} (h : Sm q) : ratOk (eQ q) where
  n := rfl
  m := fun ds e => by cases e; rfl
  b := fun a b e => by
    have e := D.tup.inj e
    have hb : (q.den : Int) = b := D.int.inj (List.cons.inj (List.cons.inj e).2).1
    rw [← hb, Int.natAbs_natCast]
    have h1 : (2 : Nat) ^ 4000 ≤ big := by unfold big; exact Nat.pow_le_pow_right (by decide) (by decide)
    exact Nat.lt_of_lt_of_le h.d h1
def eqDD (a b : D) : Bool := match eqD a b with
  | some (.bl c, _) => c
  | _ => false
def EqOk (a b : D) : Prop := ∃ c, eqD a b = some (.bl c, 0)
theorem g_eqDD {a b : D} (h : EqOk a b) : eqD a b = some (eB (eqDD a b), 0) := by
  obtain ⟨c, hc⟩ := h
  unfold eqDD
  rw [hc]
theorem g_neDD {a b : D} (h : EqOk a b) : neD a b = some (eB (!eqDD a b), 0) := by
  obtain ⟨c, hc⟩ := h
  unfold eqDD
  rw [hc]
  unfold eqD at hc
  unfold neD
  cases q : eqB a b with
  | none => rw [q] at hc; cases hc
  | some b' =>
    rw [q] at hc
    have : b' = c := by simpa using hc
    subst this; rfl
theorem eqDD_pl {a b : D} (ha : PlD a) (hb : PlD b) : EqOk a b ∧ (eqDD a b = true ↔ a = b) := by
  obtain ⟨c, h1, h2⟩ := eqB_pl ha hb
  have e : eqD a b = some (.bl c, 0) := by unfold eqD; rw [h1]; rfl
  refine ⟨⟨c, e⟩, ?_⟩
  unfold eqDD
  rw [e]
  exact h2
end Tv
end

section
set_option Elab.async false
set_option linter.all false
set_option maxRecDepth 100000
set_option maxHeartbeats 4000000
namespace Tv
open PySem Pv
def drawS {σ β τ : Type} (F : σ → β → τ × σ) : List β → σ → List τ × σ
  | [], s => ([], s)
  | b :: bs, s => ((F s b).1 :: (drawS F bs (F s b).2).1, (drawS F bs (F s b).2).2)
def AllS {σ β τ : Type} (S : σ → β → Prop) (F : σ → β → τ × σ) : List β → σ → Prop
  | [], _ => True
  | b :: bs, s => S s b ∧ AllS S F bs (F s b).2
theorem drawS_len {σ β τ : Type} (F : σ → β → τ × σ) : ∀ (bs : List β) (s : σ), (drawS F bs s).1.length = bs.length
  | [], _ => rfl
  | b :: bs, s => by simp only [drawS, List.length_cons, drawS_len F bs]
theorem drawS_inv {σ β τ : Type} {F : σ → β → τ × σ} {I : σ → Prop} {P : τ → Prop} (h : ∀ s b, I s → I (F s b).2 ∧ P (F s b).1) : ∀ (bs : List β) (s : σ), I s → I (drawS F bs s).2 ∧ ∀ x ∈ (drawS F bs s).1, P x
  | [], s, hs => ⟨hs, fun x hx => by cases hx⟩
  | b :: bs, s, hs => by
    have h1 := h s b hs
    have h2 := drawS_inv h bs (F s b).2 h1.1
    refine ⟨h2.1, fun x hx => ?_⟩
    rcases List.mem_cons.1 hx with e | e
    · rw [e]; exact h1.2
    · exact h2.2 x e
theorem allS_inv {σ β τ : Type} {S : σ → β → Prop} {F : σ → β → τ × σ} {I : σ → Prop} (h : ∀ s b, I s → S s b ∧ I (F s b).2) : ∀ (bs : List β) (s : σ), I s → AllS S F bs s
  | [], _, _ => trivial
  | b :: bs, s, hs => ⟨(h s b hs).1, allS_inv h bs _ (h s b hs).2⟩
section
variable {Γ Γ' Γ1 Γ2 Γ3 : Gm}
theorem compL_okS {σ β τ : Type} {g : D → En → Option En} {te : En → R (D × Nat)} {m : Nat} {vs : List Nat} {eb : β → D} {eF : τ → D} {F : σ → β → τ × σ} {S : σ → β → Prop} {W : σ → Gm} {Γb Γe : σ → β → Gm}
    (hg : ∀ s b, JG (W s) g (eb b) (Γb s b)) (he : ∀ s b, S s b → J (Γb s b) te (eF (F s b).1, m) (Γe s b)) (hw : ∀ s b, Wk (wipe (Γe s b) vs) (W (F s b).2)) : ∀ (bs : List β) (s : σ) (e : En) (acc : List D), AllS S F bs s → Le (W s) e → acc.length + bs.length ≤ lim →
      ∃ e', compL g yesT te m vs (bs.map eb) e acc = .ok (acc ++ (drawS F bs s).1.map eF) e' ∧ Le (W (drawS F bs s).2) e'
  | [], s, e, acc, _, l, _ => ⟨e, by simp [compL, drawS], l⟩
  | b :: bs, s, e, acc, hS, l, hl => by
    obtain ⟨e1, a1, a2⟩ := hg s b e l
    obtain ⟨e2, b1, b2⟩ := he s b hS.1 e1 a2
    have l2 : Le (W (F s b).2) (wipeE e2 vs) := (hw s b).le (le_wipe b2 vs)
    have hl' : acc.length < lim := by simp only [List.length_cons] at hl; omega
    obtain ⟨e3, c1, c2⟩ := compL_okS hg he hw bs (F s b).2 (wipeE e2 vs) (acc ++ [eF (F s b).1]) hS.2 l2 (by simp only [List.length_append, List.length_cons, List.length_nil] at hl ⊢; omega)
    refine ⟨e3, ?_, c2⟩
    rw [List.map_cons]
    unfold compL
    rw [a1]
    simp only [yesT, R.noX_ok, R.bind_ok, if_true, b1, hl', and_self, c1, List.append_assoc, List.singleton_append, List.map_cons, drawS]
theorem j_compS {σ β τ : Type} {fi : En → R (List D)} {g : D → En → Option En} {te : En → R (D × Nat)} {m : Nat} {vs : List Nat} {bs : List β} {s0 : σ} (eb : β → D) (eF : τ → D) (F : σ → β → τ × σ) (W : σ → Gm) {S : σ → β → Prop} {Γb Γe : σ → β → Gm}
    (hi : J Γ fi (bs.map eb) Γ1) (w : Wk (wipe Γ1 vs) (W s0)) (hl : bs.length ≤ lim) (hS : AllS S F bs s0)
    (hg : ∀ s b, JG (W s) g (eb b) (Γb s b)) (he : ∀ s b, S s b → J (Γb s b) te (eF (F s b).1, m) (Γe s b)) (hw : ∀ s b, Wk (wipe (Γe s b) vs) (W (F s b).2)) :
    J Γ (comp fi g yesT te m vs) (.lst ((drawS F bs s0).1.map eF), m + 1) (back Γ1 (W (drawS F bs s0).2) vs) := fun e l => by
  obtain ⟨e1, a1, a2⟩ := hi e l
  obtain ⟨e2, b1, b2⟩ := compL_okS hg he hw bs s0 (wipeE e1 vs) [] hS (w.le (le_wipe a2 vs)) (by simpa using hl)
  refine ⟨backE e1 e2 vs, ?_, le_back a2 b2 vs⟩
  unfold comp
  rw [a1]
  simp only [R.bind_ok, b1, List.nil_append]
end
end Tv
namespace Tv
open PySem Pv
def Tol.val : Tol → D
  | .told d => d
  | .raised s => .str s
theorem g_repT {α : Type} {f : α → D} {xs : List α} {k : Nat} (h : xs.length * k ≤ lim ∧ k ≤ lim) : repD (eT f xs) (eN k) = some (eT f (List.replicate k xs).flatten, 0) := by
  have hk : k ≤ 16000000 := h.2
  show (if repB (k : Int) = true then _ else _) = _
  have hb : repB (k : Int) = true := by unfold repB; simp; omega
  rw [if_pos hb]
  by_cases h1 : (xs.map f).isEmpty = true ∨ (k : Int) = 1
  · rw [if_pos h1]
    rcases h1 with h1 | h1
    · have : xs = [] := by simpa using h1
      subst this
      simp
    · have : k = 1 := by omega
      subst this
      simp
  · rw [if_neg h1]
    by_cases h2 : (k : Int) ≤ 0
    · have : k = 0 := by omega
      subst this
      rw [if_pos h2]; simp
    · rw [if_neg h2, Int.toNat_natCast, if_pos (by rw [List.length_map, Nat.mul_comm]; exact h.1), rep_flat]
end Tv
namespace Tv
open PySem Pv
theorem jk_norm {τ : Type} {P : τ → SR → Prop} {Γ : Gm} {f : En → SR} {v : τ} (G : Gm) (w : Wk Γ G) (k : JK P G f v) : JK P Γ f v := fun e l => k e (w.le l)
end Tv
namespace Tv
open PySem Pv
section
variable {Γ Γ' Γ1 : Gm}
theorem j_callI' {n i : Nat} {F : Sl → List D → FR} {r : En → R (List D)} {ds : List D} {d d' d0 : D} {k k' k0 : Nat} {p : D × Nat} (h0 : at' Γ i = some (.ex d0 k0)) (h : J Γ r ds Γ1) (h1 : at' Γ1 i = some (.ex d k)) (hn : Nat.beq (ds.length + 1) n = true) (hF : F (some (d, k)) ds = .ok p (some (d', k'))) : J Γ (callI n F i r) p (put Γ1 i (.ex d' k')) := fun e l => by
  obtain ⟨s, q1, q2⟩ := le_at l h0
  cases q2
  obtain ⟨e', r1, r2⟩ := h e l
  obtain ⟨s', t1, t2⟩ := le_at r2 h1
  cases t2
  refine ⟨e'.set i (some (d', k')), ?_, le_put r2 rfl⟩
  unfold callI
  rw [q1]
  simp only [r1, R.bind_ok, Nat.eq_of_beq_eq_true hn, if_true, t1, hF]
end
end Tv
end

section
set_option Elab.async false
set_option linter.all false
set_option maxRecDepth 100000
set_option maxHeartbeats 4000000
namespace L04
open Tv
theorem loop_ix {σ β : Type} {S : σ → β → Prop} {step : σ → β → σ} (st : Nat → σ) {bs : List β} {s : σ} (h0 : s = st 0) (h : ∀ (i : Nat) (hi : i < bs.length), S (st i) bs[i] ∧ step (st i) bs[i] = st (i + 1)) : AllF S step bs s ∧ bs.foldl step s = st bs.length := by
  constructor
  · refine allF_ix (fun i s => s = st i) h0 fun i hi s hs => ?_
    subst hs; exact h i hi
  · refine foldl_ix (fun i s => s = st i) h0 fun i hi s hs => ?_
    subst hs; exact (h i hi).2
def row {α : Type} (n : Nat) (F : Nat → α) : List α := (List.range n).map F
theorem row_len {α : Type} (n : Nat) (F : Nat → α) : (row n F).length = n := by simp [row]
theorem row_get {α : Type} {n : Nat} {F : Nat → α} {k : Nat} (h : k < (row n F).length) : (row n F)[k] = F k := by simp [row]
theorem row_nth {α : Type} [Inhabited α] {n : Nat} {F : Nat → α} {k : Nat} (h : k < n) : nth (row n F) k = F k := by
  rw [nth_eq (by rw [row_len]; exact h), row_get]
theorem row_cg {α : Type} {n : Nat} {F G : Nat → α} (h : ∀ k < n, F k = G k) : row n F = row n G := by
  refine List.ext_getElem (by rw [row_len, row_len]) fun i h1 h2 => ?_
  rw [row_get, row_get]
  exact h i (by rw [row_len] at h1; exact h1)
theorem row_self {α : Type} [Inhabited α] (f : List α) : row f.length (nth f) = f := by
  refine List.ext_getElem (by rw [row_len]) fun i h1 h2 => ?_
  rw [row_get, nth_eq h2]
theorem row_set {α : Type} {n p : Nat} {F : Nat → α} {v : α} : (row n F).set p v = row n (fun t => if t = p then v else F t) := by
  refine List.ext_getElem (by rw [List.length_set, row_len, row_len]) fun i h1 h2 => ?_
  rw [List.getElem_set, row_get, row_get]
  by_cases h : p = i
  · rw [if_pos h, if_pos h.symm]
  · rw [if_neg h, if_neg (Ne.symm h)]
theorem row_map {α β : Type} {n : Nat} {F : Nat → α} (g : α → β) : (row n F).map g = row n (fun k => g (F k)) := by
  unfold row; rw [List.map_map]; rfl
theorem row_app {α : Type} {n : Nat} {F : Nat → α} : row n F ++ [F n] = row (n + 1) F := by
  unfold row; rw [List.range_succ, List.map_append]; rfl
theorem row_flat {α : Type} (n : Nat) (x : α) : (List.replicate n [x]).flatten = row n fun _ => x := by
  refine List.ext_getElem (by simp [row_len]) fun i h1 h2 => ?_
  rw [row_get]
  have : (List.replicate n [x]).flatten = List.replicate n x := by
    clear h1 h2
    induction n with
    | zero => rfl
    | succ n ih => rw [List.replicate_succ, List.flatten_cons, ih]; rfl
  simp only [this, List.getElem_replicate]
theorem enumT_row {α : Type} [Inhabited α] (f : List α) : enumT f = row f.length fun i => (i, nth f i) := by
  refine List.ext_getElem (by simp [enumT, row_len]) fun i h1 h2 => ?_
  rw [row_get]
  rw [row_len] at h2
  simp [enumT, nth_eq h2]
theorem mem_row {α : Type} {n : Nat} {F : Nat → α} {x : α} (h : x ∈ row n F) : ∃ k < n, F k = x := by
  unfold row at h
  obtain ⟨k, h1, h2⟩ := List.mem_map.1 h
  exact ⟨k, List.mem_range.1 h1, h2⟩
def sumN (F : Nat → Rat) : Nat → Rat
  | 0 => 0
  | n + 1 => sumN F n + F n
theorem sumN_cg {F G : Nat → Rat} : ∀ {n : Nat}, (∀ k < n, F k = G k) → sumN F n = sumN G n
  | 0, _ => rfl
  | n + 1, h => by
    show sumN F n + F n = sumN G n + G n
    rw [sumN_cg fun k hk => h k (by omega), h n (by omega)]
theorem sumN_zero {F : Nat → Rat} {m : Nat} : ∀ {n : Nat}, (∀ k, m ≤ k → F k = 0) → m ≤ n → sumN F n = sumN F m
  | 0, _, h => by rw [show m = 0 by omega]
  | n + 1, h0, h => by
    by_cases e : m = n + 1
    · rw [e]
    · show sumN F n + F n = _
      rw [sumN_zero h0 (by omega), h0 n (by omega)]; grind
theorem sumN_head {F : Nat → Rat} : ∀ n : Nat, sumN F (n + 1) = F 0 + sumN (fun k => F (k + 1)) n
  | 0 => by show (0 : Rat) + F 0 = F 0 + 0; grind
  | n + 1 => by
    show sumN F (n + 1) + F (n + 1) = F 0 + (sumN (fun k => F (k + 1)) n + F (n + 1))
    rw [sumN_head n]; grind
theorem sumN_rev (F : Nat → Rat) : ∀ n : Nat, sumN F n = sumN (fun k => F (n - 1 - k)) n
  | 0 => rfl
  | n + 1 => by
    rw [sumN_head n (F := fun k => F (n + 1 - 1 - k))]
    show sumN F n + F n = F (n + 1 - 1 - 0) + sumN (fun k => F (n + 1 - 1 - (k + 1))) n
    rw [sumN_rev F n]
    have : sumN (fun k => F (n + 1 - 1 - (k + 1))) n = sumN (fun k => F (n - 1 - k)) n := sumN_cg fun k hk => by rw [show n + 1 - 1 - (k + 1) = n - 1 - k by omega]
    rw [this]
    show _ = F n + _
    grind
theorem sumN_bd {E M : Nat} (hE : 0 < E) {F : Nat → Rat} : ∀ {n : Nat}, (∀ k < n, Bd E M (F k)) → Bd E (n * M) (sumN F n)
  | 0, _ => Bd.zero hE
  | n + 1, h => by
    have := (sumN_bd (n := n) hE (fun k hk => h k (by omega))).add (h n (by omega))
    rw [show (n + 1) * M = n * M + M by rw [Nat.add_mul, Nat.one_mul]]
    exact this
def Gt (f g : Nat → Rat) (i t : Nat) : Rat := if i ≤ t then f i * g (t - i) else 0
theorem Gt_bd {E M E' M' n : Nat} {f g : Nat → Rat} (hf : ∀ i < n, Bd E M (f i)) (hg : ∀ i < n, Bd E' M' (g i)) {i t : Nat} (hi : i < n) (ht : t < n) : Bd (E * E') (M * M') (Gt f g i t) := by
  unfold Gt
  by_cases h : i ≤ t
  · rw [if_pos h]; exact (hf i hi).mul (hg _ (by omega))
  · rw [if_neg h]; exact Bd.zero (Nat.mul_pos (hf i hi).1 (hg i hi).1)
structure Small (E M E' M' n : Nat) (f g : Nat → Rat) : Prop where
  f : ∀ i < n, Bd E M (f i)
  g : ∀ i < n, Bd E' M' (g i)
  n : n ≤ 25
  e : E * E' < 2 ^ 2000
  m : 26 * (M * M') < 2 ^ 2000
  e1 : E < 2 ^ 2000
  m1 : M < 2 ^ 2000
  e2 : E' < 2 ^ 2000
  m2 : M' < 2 ^ 2000
namespace Small
variable {E M E' M' n : Nat} {f g : Nat → Rat} (H : Small E M E' M' n f g)
include H
theorem pos (h : 0 < n) : 0 < E * E' := Nat.mul_pos (H.f 0 h).1 (H.g 0 h).1
theorem sf {i : Nat} (h : i < n) : Sm (f i) := (H.f i h).sm H.e1 H.m1
theorem sg {i : Nat} (h : i < n) : Sm (g i) := (H.g i h).sm H.e2 H.m2
theorem mm {k : Nat} (h : k ≤ 26) : k * (M * M') < 2 ^ 2000 := Nat.lt_of_le_of_lt (Nat.mul_le_mul_right _ h) H.m
theorem sp {i j : Nat} (h : i < n) (h' : j < n) : Sm (f i * g j) := ((H.f i h).mul (H.g j h')).sm H.e (by have := H.mm (k := 1) (by omega); omega)
theorem sI {m t J : Nat} (hm : m < n) (ht : t < n) : Sm (sumN (fun i => Gt f g i t) m + if t < J then Gt f g m t else 0) := by
  have hn := H.n
  have h1 := sumN_bd (F := fun i => Gt f g i t) (n := m) (H.pos (by omega)) (fun k hk => Gt_bd H.f H.g (by omega) ht)
  have h2 : Bd (E * E') (1 * (M * M')) (if t < J then Gt f g m t else 0) := by
    rw [Nat.one_mul]
    split
    · exact Gt_bd H.f H.g hm ht
    · exact Bd.zero (H.pos (by omega))
  have := h1.add h2
  rw [← Nat.add_mul] at this
  exact this.sm H.e (H.mm (by omega))
end Small
def stI (f g : Nat → Rat) (n m J : Nat) : List Rat := row n fun t => sumN (fun i => Gt f g i t) m + if t < m + J then Gt f g m t else 0
def stO (f g : Nat → Rat) (n m : Nat) : List Rat := row n fun t => sumN (fun i => Gt f g i t) m
theorem stI_0 (f g : Nat → Rat) (n m : Nat) : stI f g n m 0 = stO f g n m := row_cg fun t ht => by
  have : (if t < m + 0 then Gt f g m t else 0) = 0 := by
    split
    · unfold Gt; rw [if_neg (by omega)]
    · rfl
  rw [this]; grind
theorem stI_n (f g : Nat → Rat) {n m : Nat} (h : m ≤ n) : stI f g n m (n - m) = stO f g n (m + 1) := row_cg fun t ht => by
  rw [if_pos (by omega)]; rfl
theorem stI_s (f g : Nat → Rat) {n m J : Nat} (h : m + J < n) : (stI f g n m J).set (m + J) (nth (stI f g n m J) (m + J) + f m * g J) = stI f g n m (J + 1) := by
  unfold stI
  rw [row_nth h, row_set]
  refine row_cg fun t ht => ?_
  by_cases e : t = m + J
  · subst e
    rw [if_pos rfl, if_neg (by omega), if_pos (by omega)]
    have : Gt f g m (m + J) = f m * g J := by unfold Gt; rw [if_pos (by omega), show m + J - m = J by omega]
    rw [this]; grind
  · rw [if_neg e]
    by_cases h1 : t < m + J
    · rw [if_pos h1, if_pos (by omega)]
    · rw [if_neg h1, if_neg (by omega)]
theorem num_0 {q : Rat} : q.num = 0 ↔ q = 0 := by
  constructor
  · intro h
    exact Rat.num_eq_zero.1 h
  · intro h; rw [h]; rfl
end L04
end

section
set_option Elab.async false
set_option linter.all false
set_option maxRecDepth 100000
set_option maxHeartbeats 4000000
namespace FPS
open L04 (sumN sumN_cg sumN_zero sumN_head sumN_rev)
def cv (f g : Nat → Rat) (n : Nat) : Rat := sumN (fun i => f i * g (n - i)) (n + 1)
def sh (f : Nat → Rat) (n : Nat) : Rat := f (n + 1)
def th (f : Nat → Rat) (n : Nat) : Rat := ((n : Int) : Rat) * f n
def on (n : Nat) : Rat := if n = 0 then 1 else 0
theorem sumN_add (F G : Nat → Rat) : ∀ n, sumN (fun i => F i + G i) n = sumN F n + sumN G n
  | 0 => by show (0 : Rat) = 0 + 0; grind
  | n + 1 => by
    show sumN (fun i => F i + G i) n + (F n + G n) = (sumN F n + F n) + (sumN G n + G n)
    rw [sumN_add F G n]; grind
theorem sumN_mul (c : Rat) (F : Nat → Rat) : ∀ n, sumN (fun i => c * F i) n = c * sumN F n
  | 0 => by show (0 : Rat) = c * 0; grind
  | n + 1 => by
    show sumN (fun i => c * F i) n + c * F n = c * (sumN F n + F n)
    rw [sumN_mul c F n]; grind
theorem sumN_0 : ∀ n, sumN (fun _ => 0) n = 0
  | 0 => rfl
  | n + 1 => by show sumN (fun _ => 0) n + 0 = 0; rw [sumN_0 n]; grind
theorem cv_0 (f g : Nat → Rat) : cv f g 0 = f 0 * g 0 := by show (0 : Rat) + f 0 * g (0 - 0) = _; grind
theorem cv_s (f g : Nat → Rat) (n : Nat) : cv f g (n + 1) = f 0 * g (n + 1) + cv (sh f) g n := by
  unfold cv
  rw [sumN_head (n + 1)]
  congr 1
  refine sumN_cg fun k hk => ?_
  show f (k + 1) * g (n + 1 - (k + 1)) = f (k + 1) * g (n - k)
  rw [show n + 1 - (k + 1) = n - k by omega]
theorem cv_comm (f g : Nat → Rat) (n : Nat) : cv f g n = cv g f n := by
  unfold cv
  rw [sumN_rev]
  refine sumN_cg fun k hk => ?_
  rw [show n + 1 - 1 - k = n - k by omega, show n - (n - k) = k by omega, Rat.mul_comm]
theorem cv_cg {f f' g g' : Nat → Rat} {n : Nat} (h : ∀ k ≤ n, f k = f' k) (h' : ∀ k ≤ n, g k = g' k) : cv f g n = cv f' g' n := sumN_cg fun k hk => by
  rw [h k (by omega), h' (n - k) (by omega)]
theorem cv_addL (f f' g : Nat → Rat) (n : Nat) : cv (fun i => f i + f' i) g n = cv f g n + cv f' g n := by
  unfold cv
  rw [← sumN_add]
  exact sumN_cg fun k hk => by grind
theorem cv_mulL (c : Rat) (f g : Nat → Rat) (n : Nat) : cv (fun i => c * f i) g n = c * cv f g n := by
  unfold cv
  rw [← sumN_mul]
  exact sumN_cg fun k hk => by grind
theorem cv_mulR (c : Rat) (f g : Nat → Rat) (n : Nat) : cv f (fun i => c * g i) n = c * cv f g n := by
  rw [cv_comm, cv_mulL, cv_comm g]
theorem cv_zero (g : Nat → Rat) (n : Nat) : cv (fun _ => 0) g n = 0 := by
  exact (sumN_cg (G := fun _ => 0) fun k hk => by grind).trans (sumN_0 _)
theorem cv_one (g : Nat → Rat) : ∀ n, cv on g n = g n
  | 0 => by rw [cv_0]; show (1 : Rat) * _ = _; grind
  | n + 1 => by
    rw [cv_s]
    have : cv (sh on) g n = 0 := by
      rw [show sh on = fun _ => 0 from funext fun k => by unfold sh on; rw [if_neg (by omega)]]
      exact cv_zero g n
    rw [this]; show (1 : Rat) * _ + 0 = _; grind
theorem sh_cv (f g : Nat → Rat) : sh (cv f g) = fun n => f 0 * sh g n + cv (sh f) g n := funext fun n => cv_s f g n
theorem cv_assoc (h : Nat → Rat) : ∀ (n : Nat) (f g : Nat → Rat), cv (cv f g) h n = cv f (cv g h) n
  | 0, f, g => by rw [cv_0, cv_0, cv_0, cv_0]; grind
  | n + 1, f, g => by
    rw [cv_s, cv_s, sh_cv, cv_addL, cv_mulL, cv_assoc h n (sh f) g, cv_0, cv_s g h]
    grind
theorem th_cv (f g : Nat → Rat) (n : Nat) : th (cv f g) n = cv (th f) g n + cv f (th g) n := by
  unfold th cv
  rw [← sumN_mul, ← sumN_add]
  refine sumN_cg fun k hk => ?_
  have : ((n : Int) : Rat) = ((k : Int) : Rat) + (((n - k : Nat) : Int) : Rat) := by
    rw [← Rat.intCast_add]; congr 1; omega
  rw [this]; grind
def pw (f : Nat → Rat) : Nat → Nat → Rat
  | 0 => on
  | k + 1 => cv (pw f k) f
end FPS
end

section
set_option Elab.async false
set_option linter.all false
set_option maxRecDepth 100000
set_option maxHeartbeats 4000000
namespace Tv
open PySem Pv
end Tv
end

section
set_option Elab.async false
set_option linter.all false
set_option maxRecDepth 100000
set_option maxHeartbeats 4000000
namespace Tv
open PySem Pv
theorem j_pop {Γ : Gm} {α : Type} [Inhabited α] {f : α → D} {i : Nat} {xs : List α} (h0 : at' Γ i = some (.ex (eL f xs) 1)) (hk : 0 < xs.length) :
    J Γ (popV i) (f (nth xs (xs.length - 1))) (put Γ i (.ex (eL f xs.dropLast) 1)) := fun e l => by
  obtain ⟨s, q1, q2⟩ := le_at l h0
  cases q2
  refine ⟨e.set i (some (eL f xs.dropLast, 1)), ?_, le_put l rfl⟩
  have e1 : (xs.map f)[(xs.map f).length - 1]? = some (f (nth xs (xs.length - 1))) := by
    rw [List.length_map, List.getElem?_map, nth_at (by omega)]; rfl
  unfold popV
  simp only [q1, eL, e1, List.map_dropLast]
theorem idx_tupAnym {d : D} (h : isTupD d = true) (hk : 0 < (tupOf d).length) : idxD d (eI (-1)) = some ((tupOf d).getD ((tupOf d).length - 1) .non, 0) := by
  cases d with
  | tup ds =>
    have hk : 0 < ds.length := hk
    have h1 := atI_last (f := fun d : D => d) (xs := ds) hk
    rw [List.map_id'] at h1
    show (L2.atI ds (-1)).map (·, 0) = _
    rw [h1]
    show some (nth ds (ds.length - 1), 0) = some (ds.getD (ds.length - 1) .non, 0)
    rw [nth_eq (by omega), List.getD_eq_getElem?_getD, List.getElem?_eq_getElem (by omega), Option.getD_some]
  | _ => cases h
end Tv
namespace Tv
open PySem Pv
end Tv
namespace Tv
open PySem Pv
section
variable {σ ρ σ' : Type} {G : σ → Gm} {E : ρ → D × Nat} {es : σ' → D × Nat} {rest f : En → SR} {Γ Γ1 : Gm}
end
def okD : FR → D
  | .ok (d, _) _ => d
  | _ => .non
end Tv
namespace Tv
open PySem Pv
end Tv
namespace Tv
open PySem Pv
section
variable {Γ Γ1 Γ2 : Gm}
end
end Tv
end

section
set_option Elab.async false
set_option linter.all false
set_option maxRecDepth 100000
set_option maxHeartbeats 4000000
namespace PL
open Tv
open L04 (row row_len row_get row_nth row_app row_cg row_self row_map row_flat loop_ix sumN sumN_cg sumN_head sumN_zero sumN_rev sumN_bd enumT_row mem_row num_0 Gt stO)
open FPS
theorem nth_ge {xs : List Rat} {k : Nat} (h : xs.length ≤ k) : nth xs k = 0 := by
  unfold nth
  rw [List.getD_eq_getElem?_getD, List.getElem?_eq_none h]; rfl
theorem nth_row (n : Nat) (F : Nat → Rat) (k : Nat) : nth (row n F) k = if k < n then F k else 0 := by
  by_cases h : k < n
  · rw [if_pos h, row_nth h]
  · rw [if_neg h, nth_ge (by rw [row_len]; omega)]
theorem nth_nil (k : Nat) : nth ([] : List Rat) k = 0 := rfl
theorem row_nths {f : List Rat} {N : Nat} (h : f.length ≤ N) : f ++ (List.replicate (N - f.length) [(((0 : Int) : Rat))]).flatten = row N (nth f) := by
  rw [row_flat]
  refine List.ext_getElem (by simp [row_len]; omega) fun i h1 h2 => ?_
  rw [row_get]
  by_cases e : i < f.length
  · rw [List.getElem_append_left e, nth_eq e]
  · rw [List.getElem_append_right (by omega), row_get, nth_ge (by omega)]; rfl
def tr : List Rat → List Rat
  | [] => []
  | x :: xs => if tr xs = [] ∧ x = 0 then [] else x :: tr xs
theorem tr_nth : ∀ (xs : List Rat) (k : Nat), nth (tr xs) k = nth xs k
  | [], _ => rfl
  | x :: xs, k => by
    unfold tr
    split
    · rename_i h
      have ih := tr_nth xs
      rw [h.1] at ih
      cases k with
      | zero => exact h.2.symm
      | succ k => exact ih k
    · cases k with
      | zero => rfl
      | succ k => exact tr_nth xs k
theorem tr_len : ∀ xs : List Rat, (tr xs).length ≤ xs.length
  | [] => Nat.le_refl _
  | x :: xs => by
    have ih := tr_len xs
    unfold tr
    split
    · exact Nat.zero_le _
    · simp; exact ih
theorem tr_nil : ∀ {xs : List Rat}, (∀ k, nth xs k = 0) → tr xs = []
  | [], _ => rfl
  | x :: xs, h => by
    unfold tr
    rw [if_pos ⟨tr_nil fun k => h (k + 1), h 0⟩]
theorem tr_ext : ∀ {xs ys : List Rat}, (∀ k, nth xs k = nth ys k) → tr xs = tr ys
  | [], ys, h => (tr_nil fun k => (h k).symm).symm
  | x :: xs, [], h => tr_nil h
  | x :: xs, y :: ys, h => by
    have e : x = y := h 0
    subst e
    unfold tr
    rw [tr_ext fun k => h (k + 1)]
theorem tr_last : ∀ (xs : List Rat) {q : Rat}, q ≠ 0 → tr (xs ++ [q]) = xs ++ [q]
  | [], q, h => by
    show (if _ ∧ q = 0 then _ else _) = _
    rw [if_neg fun e => h e.2]; rfl
  | x :: xs, q, h => by
    show (if tr (xs ++ [q]) = [] ∧ x = 0 then [] else x :: tr (xs ++ [q])) = _
    rw [tr_last xs h, if_neg fun e => by simp at e]; rfl
def Tr (xs : List Rat) : Prop := tr xs = xs
theorem tr_tr (xs : List Rat) : Tr (tr xs) := tr_ext (tr_nth xs)
theorem Tr.last {xs : List Rat} (h : Tr xs) (h0 : 0 < xs.length) : nth xs (xs.length - 1) ≠ 0 := by
  intro hz
  have e : xs = xs.dropLast ++ [xs.getLast (List.ne_nil_of_length_pos h0)] := (List.dropLast_concat_getLast _).symm
  have e2 : nth xs (xs.length - 1) = xs.getLast (List.ne_nil_of_length_pos h0) := by
    rw [nth_eq (by omega), List.getLast_eq_getElem]
  have e3 : tr xs = tr xs.dropLast := tr_ext fun k => by
    by_cases hk : k < xs.length - 1
    · rw [nth_eq (by omega), nth_eq (by rw [List.length_dropLast]; exact hk), List.getElem_dropLast]
    · rw [nth_ge (xs := xs.dropLast) (by rw [List.length_dropLast]; omega)]
      by_cases hk' : k = xs.length - 1
      · rw [hk', hz]
      · rw [nth_ge (by omega)]
  have := tr_len xs.dropLast
  rw [List.length_dropLast, ← e3, h] at this
  omega
theorem Tr.of_last {xs : List Rat} (h : xs.length = 0 ∨ nth xs (xs.length - 1) ≠ 0) : Tr xs := by
  rcases h with h | h
  · rw [List.length_eq_zero_iff.1 h]; rfl
  · by_cases h0 : xs.length = 0
    · rw [List.length_eq_zero_iff.1 h0]; rfl
    have e : xs = xs.dropLast ++ [xs.getLast (List.ne_nil_of_length_pos (by omega))] := (List.dropLast_concat_getLast _).symm
    have e2 : nth xs (xs.length - 1) = xs.getLast (List.ne_nil_of_length_pos (by omega)) := by
      rw [nth_eq (by omega), List.getLast_eq_getElem]
    unfold Tr
    rw [e]
    exact tr_last _ (by rw [← e2]; exact h)
def trC (s : List Rat) : Bool := (decide (0 < s.length)) && (decide ((nth s (s.length - 1)).num = (0 : Int)))
theorem tr_while : ∀ (n : Nat) (s : List Rat), s.length < n →
    AllW (fun s => decide (0 < s.length) = true → 0 < s.length) (fun s => 0 < s.length) trC List.dropLast n s ∧ iterW trC List.dropLast n s = tr s
  | 0, _, h => by omega
  | n + 1, s, h => by
    unfold AllW iterW
    by_cases h0 : 0 < s.length
    · by_cases hz : nth s (s.length - 1) = 0
      · have hc : trC s = true := by unfold trC; rw [decide_eq_true h0, decide_eq_true (num_0.2 hz)]; rfl
        rw [hc]
        have ih := tr_while n s.dropLast (by rw [List.length_dropLast]; omega)
        refine ⟨⟨fun _ => h0, fun _ => ⟨h0, ih.1⟩⟩, ih.2.trans (tr_ext fun k => ?_)⟩
        by_cases hk : k < s.length - 1
        · rw [nth_eq (xs := s) (by omega), nth_eq (by rw [List.length_dropLast]; exact hk), List.getElem_dropLast]
        · rw [nth_ge (xs := s.dropLast) (by rw [List.length_dropLast]; omega)]
          by_cases hk' : k = s.length - 1
          · rw [hk', hz]
          · rw [nth_ge (by omega)]
      · have hc : trC s = false := by unfold trC; rw [decide_eq_false fun e => hz (num_0.1 e)]; exact Bool.and_false _
        rw [hc]
        exact ⟨⟨fun _ => h0, fun e => by cases e⟩, (Tr.of_last (.inr hz)).symm⟩
    · have hc : trC s = false := by unfold trC; rw [decide_eq_false h0]; rfl
      rw [hc]
      refine ⟨⟨fun e => of_decide_eq_true e, fun e => by cases e⟩, ?_⟩
      rw [List.length_eq_zero_iff.1 (show s.length = 0 by omega)]; rfl
theorem tr_row {N N' : Nat} {F F' : Nat → Rat} (h : ∀ k, F k = F' k) (h1 : ∀ k, N ≤ k → F k = 0) (h2 : ∀ k, N' ≤ k → F' k = 0) : tr (row N F) = tr (row N' F') := tr_ext fun k => by
  rw [nth_row, nth_row]
  by_cases a : k < N
  · rw [if_pos a]
    by_cases b : k < N'
    · rw [if_pos b, h]
    · rw [if_neg b, h, h2 k (by omega)]
  · rw [if_neg a, ← h1 k (by omega)]
    by_cases b : k < N'
    · rw [if_pos b, h]
    · rw [if_neg b, h1 k (by omega)]
theorem sum_z {F : Nat → Rat} {n : Nat} (h : ∀ k < n, F k = 0) : sumN F n = 0 := (sumN_cg (G := fun _ => 0) h).trans (sumN_0 n)
theorem Gt_sum {f g : List Rat} (t : Nat) : sumN (fun i => Gt (nth f) (nth g) i t) f.length = cv (nth f) (nth g) t := by
  have a : sumN (fun i => Gt (nth f) (nth g) i t) (f.length + (t + 1)) = sumN (fun i => Gt (nth f) (nth g) i t) f.length := sumN_zero (fun k hk => by
    unfold Gt
    rw [nth_ge hk]
    split <;> grind) (by omega)
  have b : sumN (fun i => Gt (nth f) (nth g) i t) (f.length + (t + 1)) = sumN (fun i => Gt (nth f) (nth g) i t) (t + 1) := sumN_zero (fun k hk => by
    unfold Gt
    rw [if_neg (by omega)]) (by omega)
  rw [← a, b]
  refine sumN_cg fun i hi => ?_
  unfold Gt
  rw [if_pos (by omega)]
theorem cv_ge {f g : List Rat} {t : Nat} (h : f.length + g.length ≤ t + 1) : cv (nth f) (nth g) t = 0 := sum_z fun i hi => by
  by_cases a : i < f.length
  · rw [nth_ge (xs := g) (by omega)]; grind
  · rw [nth_ge (xs := f) (by omega)]; grind
theorem stI_end {f g : List Rat} (L m : Nat) : L04.stI (nth f) (nth g) L m g.length = stO (nth f) (nth g) L (m + 1) := row_cg fun t ht => by
  show _ = sumN _ m + Gt (nth f) (nth g) m t
  by_cases h : t < m + g.length
  · rw [if_pos h]
  · rw [if_neg h]
    have : Gt (nth f) (nth g) m t = 0 := by
      unfold Gt
      split
      · rw [nth_ge (xs := g) (by omega)]; grind
      · rfl
    rw [this]
structure Sz (E M E' M' : Nat) (f g : List Rat) : Prop where
  bf : ∀ i, Bd E M (nth f i)
  bg : ∀ i, Bd E' M' (nth g i)
  n : f.length ≤ 90
  n' : g.length ≤ 90
  e : E * E' < 2 ^ 2000
  m : 100 * (M * M') < 2 ^ 2000
  e1 : E < 2 ^ 2000
  m1 : M < 2 ^ 2000
  e2 : E' < 2 ^ 2000
  m2 : M' < 2 ^ 2000
theorem bd_mem {E M : Nat} {f : List Rat} (hE : 0 < E) (h : ∀ q ∈ f, Bd E M q) (i : Nat) : Bd E M (nth f i) := by
  by_cases hi : i < f.length
  · rw [nth_eq hi]; exact h _ (List.getElem_mem hi)
  · rw [nth_ge (by omega)]; exact Bd.zero hE
namespace Sz
variable {E M E' M' : Nat} {f g : List Rat} (H : Sz E M E' M' f g)
include H
theorem pos : 0 < E * E' := Nat.mul_pos (H.bf 0).1 (H.bg 0).1
theorem sf (i : Nat) : Sm (nth f i) := (H.bf i).sm H.e1 H.m1
theorem sg (i : Nat) : Sm (nth g i) := (H.bg i).sm H.e2 H.m2
theorem bG (i t : Nat) : Bd (E * E') (M * M') (Gt (nth f) (nth g) i t) := by
  unfold Gt
  split
  · exact (H.bf i).mul (H.bg _)
  · exact Bd.zero H.pos
theorem mm {k : Nat} (h : k ≤ 100) : k * (M * M') < 2 ^ 2000 := Nat.lt_of_le_of_lt (Nat.mul_le_mul_right _ h) H.m
theorem sp (i j : Nat) : Sm (nth f i * nth g j) := ((H.bf i).mul (H.bg j)).sm H.e (by have := H.mm (k := 1) (by omega); omega)
theorem sI {L m J t : Nat} (hm : m < f.length) : Sm (nth (L04.stI (nth f) (nth g) L m J) t) := by
  have hn := H.n
  unfold L04.stI
  rw [nth_row]
  split
  · have h1 := sumN_bd (F := fun i => Gt (nth f) (nth g) i t) (n := m) H.pos (fun k _ => H.bG k t)
    have h2 : Bd (E * E') (1 * (M * M')) (if t < m + J then Gt (nth f) (nth g) m t else 0) := by
      rw [Nat.one_mul]
      split
      · exact H.bG m t
      · exact Bd.zero H.pos
    have := h1.add h2
    rw [← Nat.add_mul] at this
    exact this.sm H.e (H.mm (by omega))
  · exact (Bd.zero (E := 1) (M := 1) (by decide)).sm (by decide) (by decide)
theorem bcv (t : Nat) : Bd (E * E') (90 * (M * M')) (cv (nth f) (nth g) t) := by
  rw [← Gt_sum]
  exact (sumN_bd (F := fun i => Gt (nth f) (nth g) i t) (n := f.length) H.pos (fun k _ => H.bG k t)).mono (Nat.mul_le_mul_right _ H.n)
end Sz
end PL
end

section
set_option Elab.async false
set_option linter.all false
set_option maxRecDepth 100000
set_option maxHeartbeats 4000000
namespace Pv
open PySem PySem.Spec PyProof.Rows L2
section
variable {Γ : Ct} {pos : Pos} {es : List Expr}
end
end Pv
end

section
set_option Elab.async false
set_option linter.all false
set_option maxRecDepth 100000
set_option maxHeartbeats 4000000
namespace Pv
open PySem PySem.Spec PyProof.Rows L2
mutual
def noL : D → Bool
  | .non => true
  | .bl _ => true
  | .int _ => true
  | .str _ => true
  | .fn _ => true
  | .tup ds => noLs ds
  | .lst _ => false
  | .dic _ _ => false
  | .scr _ => true
def noLs : List D → Bool
  | [] => true
  | d :: ds => noL d && noLs ds
end
section
variable {C : RC} {Z Z' : Fp} {H : Hp}
mutual
theorem Sh.noL : ∀ (d : D) (v : V), noL d = true → Sh C Z H v d → Sh C Z' H v d
  | .non, _, _, h => by cases h; exact .non
  | .bl b, _, _, h => by cases h; exact .bl b
  | .int i, _, _, h => by cases h; exact .int i
  | .str y, _, _, h => by cases h; exact .str y
  | .fn n, _, _, h => by cases h with | fn e => exact .fn e
  | .tup ds, _, n, h => by cases h with | tup s r => exact .tup s (ShL.noL ds _ (by rw [Pv.noL] at n; exact n) r)
  | .lst ds, _, n, _ => by rw [Pv.noL] at n; cases n
  | .scr ns, _, _, h => by cases h with | scr s => exact .scr s
  | .dic ks ds, _, n, _ => by rw [Pv.noL] at n; cases n
theorem ShL.noL : ∀ (ds : List D) (vs : List V), noLs ds = true → ShL C Z H vs ds → ShL C Z' H vs ds
  | [], _, _, h => by cases h; exact .nil
  | d :: ds, _, n, h => by
    rw [Pv.noLs, Bool.and_eq_true] at n
    cases h with | cons h r => exact .cons (Sh.noL d _ n.1 h) (ShL.noL ds _ n.2 r)
end
def shOk : Nat → D → Bool
  | 0, d => noL d
  | k + 1, .lst ds => ds.all (shOk k)
  | _ + 1, .dic _ ds => noLs ds
  | _ + 1, d => noL d
theorem Ow.noL : ∀ {k : Nat} {v : V} {d : D} {A : Fp}, shOk k d = true → Ow C Z H k v d A → Ow C Z' H k v d A
  | 0, v, d, A, n, h => ⟨Sh.noL d v n h.1, h.2⟩
  | k + 1, v, d, A, n, h => by
    rcases h with ⟨m, h, q⟩ | ⟨b, xs, ds, B, rfl, rfl, hb, hl, hc, hd, ha, hi, e⟩ | ⟨b, ks, xs, ds, rfl, rfl, hb, hl, r, e⟩
    · refine .inl ⟨m, Sh.noL d v ?_ h, q⟩
      cases d <;> first | (cases m; done) | exact n
    · refine .inr (.inl ⟨b, xs, ds, B, rfl, rfl, hb, hl, fun i x y e1 e2 => ?_, hd, ha, hi, e⟩)
      have n' : ds.all (shOk k) = true := n
      rw [List.all_eq_true] at n'
      exact Ow.noL (n' y (List.mem_of_getElem? e2)) (hc i x y e1 e2)
    · exact .inr (.inr ⟨b, ks, xs, ds, rfl, rfl, hb, hl, ShL.noL ds _ n r, e⟩)
end
inductive OsL (C : RC) (σ : L2.St) (Z : Fp) (H : Hp) : List Opd → List V → Prop
  | nil : OsL C σ Z H [] []
  | cons {o : Opd} {os : List Opd} {v : V} {vs : List V} : OR C σ (fun _ => False) Z H o v → OsL C σ Z H os vs → OsL C σ Z H (o :: os) (v :: vs)
section
variable {Γ : Ct} {e : Expr} {u : En → R Opd}
end
section
variable {Γ : Ct} {k : Nat} {f : Addr} {fd : FuncData} {ps : List Str} {F : Sl → List D → FR} {x : Str} {p pos : Pos} {e : Expr} {es : List Expr}
end
end Pv
end

section
set_option Elab.async false
set_option linter.all false
set_option maxRecDepth 100000
set_option maxHeartbeats 4000000
namespace Pv
open PySem L2
section
variable {Γ : Ct} {k : Nat} {f : Addr} {fd : FuncData} {ps : List Str} {F : Sl → List D → FR} {x : Str} {p pos : Pos}
end
end Pv
end

section
set_option Elab.async false
set_option linter.all false
set_option maxRecDepth 100000
set_option maxHeartbeats 4000000
namespace Pv
open PySem L2
section
variable {Γ : Ct} {a b : Expr} {fa fb : En → R Opd} {pos : Pos}
end
end Pv
end

section
set_option Elab.async false
set_option linter.all false
set_option maxRecDepth 100000
set_option maxHeartbeats 4000000
namespace Pv
open PySem PySem.Spec PyProof.Rows L2
section
variable {Γ : Ct} {x : Str} {p pos apos cpos : Pos} {e f a : Expr}
end
end Pv
end

section
set_option Elab.async false
set_option linter.all false
set_option maxRecDepth 100000
set_option maxHeartbeats 4000000
namespace HT
open PySem PySem.Spec PyProof.Rows L2
section
variable {prog : Program} {w : World} {A : Around} {E : Value → Shared → Prop} {s : Shared}
end
end HT
namespace Pv
open PySem PySem.Spec PyProof.Rows L2
section
variable {Γ : Ct} {e a : Expr} {fa : En → R Opd} {pos p q p1 p2 p3 p4 p5 : Pos}
end
end Pv
end

section
set_option Elab.async false
set_option linter.all false
set_option maxRecDepth 100000
set_option maxHeartbeats 4000000
namespace Pv
open PySem PySem.Spec PyProof.Rows L2
structure DB (K : PySem.W.Frag) (mg : Str → Option Value) (x y : Str) (st : Stmt) (ps : List Str) where
  f : Addr
  fd : FuncData
  F : Fun K y y st f fd
  m : mg x = some (.ref f)
  b : Binds K fd ps []
def DB.of {K : PySem.W.Frag} {h : Heap} {mg : Str → Option Value} (X : K.In h) (G : h.Ns mainGlobals mg) {x y : Str} {st : Stmt} {ps : List Str} {f : Addr} {oc : Value} {od an : Option Addr} {sl : Array (Option Value)} {kV dc pm cd ct : Value}
    (a : PySem.W.nsIn K mainGlobals x = some (some (.ref f))) (l : K.lookup f = some ⟨oc, od, .func (PySem.W.fnOf y y (defArgs st) (defBody st) (defScope st) .none kV dc pm an cd ct), sl⟩) (c : PySem.W.codeIn K cd y = true) (k : PySem.W.keepIn K (.ref f) = true)
    (hb : ∀ (kV doc pm : Value) (an : Option Addr) (cdv ct : Value) (us : List Value), us.length = ps.length → bindArgs (PySem.W.fnOf y y (defArgs st) (defBody st) (defScope st) .none kV doc pm an cdv ct) ⟨us, []⟩ = pure (ps.zip us)) : DB K mg x y st ps :=
  ⟨f, _, fun_mk l c k, PySem.W.mg_of X G a, (fun_mk l c k).binds hb⟩
end Pv
end

section
set_option Elab.async false
set_option linter.all false
set_option maxRecDepth 100000
set_option maxHeartbeats 4000000
namespace Pv
open PySem PySem.Spec PyProof.Rows L2
section
variable {X : Cx}
end
section
variable {Γ : Ct}
end
end Pv
end

section
set_option Elab.async false
set_option linter.all false
set_option maxRecDepth 100000
set_option maxHeartbeats 4000000
namespace Pv
open PySem PySem.Spec PyProof.Rows L2
theorem TA.of2 {K : PySem.W.Frag} {h : Heap} {mg : Str → Option Value} (X : K.In h) (G : h.Ns mainGlobals mg) {x : Str} {a : Addr} {od : Option Addr} {its : Array Value} {n : Nat} {sl : Array (Option Value)} {vs : List V} {ds : List D}
    (e : PySem.W.nsIn K mainGlobals x = some (some (.ref a))) (l : K.lookup a = some ⟨.type "tuple", od, .seq its n, sl⟩) (hz : its.size ≤ sizeLine) (hv : Vals vs its.toList) (hs : ∀ (C : RC) (Z : Fp) (H : Hp), C.K = K → ShL C Z H vs ds) : Nonempty (TA K mg x (.tup ds)) :=
  ⟨⟨a, PySem.W.mg_of X G e, fun C Z H hK => .tup (.inr ⟨_, its, n, by rw [hK]; exact l, rfl, rfl, hz, hv⟩) (hs C Z H hK)⟩⟩
theorem sh_con {C : RC} {Z : Fp} {H : Hp} {K : PySem.W.Frag} {a : Addr} {od : Option Addr} {its : Array Value} {n : Nat} {sl : Array (Option Value)} {vs : List V} {ds : List D} (hK : C.K = K) (l : K.lookup a = some ⟨.type "tuple", od, .seq its n, sl⟩) (hz : its.size ≤ sizeLine) (hv : Vals vs its.toList) (hs : ShL C Z H vs ds) : Sh C Z H (.ref a) (.tup ds) :=
  .tup (.inr ⟨_, its, n, by rw [hK]; exact l, rfl, rfl, hz, hv⟩) hs
theorem vals_ref {a : Addr} {vs : List V} {xs : List Value} (h : Vals vs xs) : Vals (.ref a :: vs) (.ref a :: xs) := .cons rfl h
end Pv
end

section
open PySem PySem.Spec PyProof.Rows L2 Pv
namespace L37
def topS (i : Nat) : Stmt := PySem.Challenge.pw_momentroads_k37_whole_orthogonal_polynom.main.body.getD i (.Pass ⟨0, 0, 0, 0⟩)
abbrev s__law_state : Stmt := topS 41
theorem sc__law_state : FnScope ["script", "seed", "total", "cell"] ["script"] (defScope s__law_state) := ⟨rfl, rfl, rfl, by decide +kernel, rfl, by decide +kernel, by decide +kernel⟩
abbrev s__law_take : Stmt := topS 42
theorem sc__law_take : FnScope ["state", "m", "value"] ["state", "m"] (defScope s__law_take) := ⟨rfl, rfl, rfl, by decide +kernel, rfl, by decide +kernel, by decide +kernel⟩
abbrev s__law_trimmed : Stmt := topS 43
theorem sc__law_trimmed : FnScope ["row", "found"] ["row"] (defScope s__law_trimmed) := ⟨rfl, rfl, rfl, by decide +kernel, rfl, by decide +kernel, by decide +kernel⟩
abbrev s__law_frac : Stmt := topS 44
theorem sc__law_frac : FnScope ["n", "d", "a", "b"] ["n", "d"] (defScope s__law_frac) := ⟨rfl, rfl, rfl, by decide +kernel, rfl, by decide +kernel, by decide +kernel⟩
abbrev s_is_integer : Stmt := topS 4
theorem sc_is_integer : FnScope ["value"] ["value"] (defScope s_is_integer) := ⟨rfl, rfl, rfl, by decide +kernel, rfl, by decide +kernel, by decide +kernel⟩
abbrev s_greatest_common : Stmt := topS 5
theorem sc_greatest_common : FnScope ["a", "b"] ["a", "b"] (defScope s_greatest_common) := ⟨rfl, rfl, rfl, by decide +kernel, rfl, by decide +kernel, by decide +kernel⟩
abbrev s_trimmed : Stmt := topS 15
theorem sc_trimmed : FnScope ["items", "found"] ["items"] (defScope s_trimmed) := ⟨rfl, rfl, rfl, by decide +kernel, rfl, by decide +kernel, by decide +kernel⟩
abbrev s_item_at : Stmt := topS 30
theorem sc_item_at : FnScope ["row", "k"] ["row", "k"] (defScope s_item_at) := ⟨rfl, rfl, rfl, by decide +kernel, rfl, by decide +kernel, by decide +kernel⟩
abbrev s__law_add : Stmt := topS 45
theorem sc__law_add : FnScope ["a", "b"] ["a", "b"] (defScope s__law_add) := ⟨rfl, rfl, rfl, by decide +kernel, rfl, by decide +kernel, by decide +kernel⟩
abbrev s__law_times : Stmt := topS 47
theorem sc__law_times : FnScope ["a", "b"] ["a", "b"] (defScope s__law_times) := ⟨rfl, rfl, rfl, by decide +kernel, rfl, by decide +kernel, by decide +kernel⟩
abbrev s__law_less : Stmt := topS 49
theorem sc__law_less : FnScope ["a", "b"] ["a", "b"] (defScope s__law_less) := ⟨rfl, rfl, rfl, by decide +kernel, rfl, by decide +kernel, by decide +kernel⟩
abbrev s__law_drawn : Stmt := topS 52
theorem sc__law_drawn : FnScope ["state", "pick", "n"] ["state"] (defScope s__law_drawn) := ⟨rfl, rfl, rfl, by decide +kernel, rfl, by decide +kernel, by decide +kernel⟩
abbrev s_is_ratio : Stmt := topS 7
theorem sc_is_ratio : FnScope ["value"] ["value"] (defScope s_is_ratio) := ⟨rfl, rfl, rfl, by decide +kernel, rfl, by decide +kernel, by decide +kernel⟩
abbrev s_lowest : Stmt := topS 6
theorem sc_lowest : FnScope ["n", "d", "g"] ["n", "d"] (defScope s_lowest) := ⟨rfl, rfl, rfl, by decide +kernel, rfl, by decide +kernel, by decide +kernel⟩
abbrev s_check_count : Stmt := topS 29
theorem sc_check_count : FnScope ["n"] ["n"] (defScope s_check_count) := ⟨rfl, rfl, rfl, by decide +kernel, rfl, by decide +kernel, by decide +kernel⟩
abbrev s__law_poly_add : Stmt := topS 46
theorem sc__law_poly_add : FnScope ["f", "g", "size", "one", "two", "k"] ["f", "g"] (defScope s__law_poly_add) := ⟨rfl, rfl, rfl, by decide +kernel, rfl, by decide +kernel, by decide +kernel⟩
abbrev s__law_poly_times : Stmt := topS 50
theorem sc__law_poly_times : FnScope ["f", "g", "found", "i", "j", "k"] ["f", "g"] (defScope s__law_poly_times) := ⟨rfl, rfl, rfl, by decide +kernel, rfl, by decide +kernel, by decide +kernel⟩
abbrev s__law_poly_scaled : Stmt := topS 48
theorem sc__law_poly_scaled : FnScope ["f", "c", "a"] ["f", "c"] (defScope s__law_poly_scaled) := ⟨rfl, rfl, rfl, by decide +kernel, rfl, by decide +kernel, by decide +kernel⟩
abbrev s__law_path_moments : Stmt := topS 55
theorem sc__law_path_moments : FnScope ["a", "b", "n", "row", "found", "turn", "later", "h"] ["a", "b", "n"] (defScope s__law_path_moments) := ⟨rfl, rfl, rfl, by decide +kernel, rfl, by decide +kernel, by decide +kernel⟩
abbrev s__law_row : Stmt := topS 53
theorem sc__law_row : FnScope ["state", "n", "k"] ["state", "n"] (defScope s__law_row) := ⟨rfl, rfl, rfl, by decide +kernel, rfl, by decide +kernel, by decide +kernel⟩
abbrev s_check_row : Stmt := topS 28
theorem sc_check_row : FnScope ["row", "item"] ["row"] (defScope s_check_row) := ⟨rfl, rfl, rfl, by decide +kernel, rfl, by decide +kernel, by decide +kernel⟩
abbrev s_is_polynomial : Stmt := topS 12
theorem sc_is_polynomial : FnScope ["value", "c"] ["value"] (defScope s_is_polynomial) := ⟨rfl, rfl, rfl, by decide +kernel, rfl, by decide +kernel, by decide +kernel⟩
abbrev s_ratio_sum : Stmt := topS 8
theorem sc_ratio_sum : FnScope ["a", "b"] ["a", "b"] (defScope s_ratio_sum) := ⟨rfl, rfl, rfl, by decide +kernel, rfl, by decide +kernel, by decide +kernel⟩
abbrev s_ratio_product : Stmt := topS 9
theorem sc_ratio_product : FnScope ["a", "b"] ["a", "b"] (defScope s_ratio_product) := ⟨rfl, rfl, rfl, by decide +kernel, rfl, by decide +kernel, by decide +kernel⟩
abbrev s_check_ratio : Stmt := topS 14
theorem sc_check_ratio : FnScope ["value"] ["value"] (defScope s_check_ratio) := ⟨rfl, rfl, rfl, by decide +kernel, rfl, by decide +kernel, by decide +kernel⟩
abbrev s__law_begins : Stmt := topS 60
theorem sc__law_begins : FnScope ["p", "q", "row", "k", "rest", "down", "i", "c", "j"] ["p", "q", "row"] (defScope s__law_begins) := ⟨rfl, rfl, rfl, by decide +kernel, rfl, by decide +kernel, by decide +kernel⟩
abbrev s__law_total : Stmt := topS 51
theorem sc__law_total : FnScope ["items", "found", "c"] ["items"] (defScope s__law_total) := ⟨rfl, rfl, rfl, by decide +kernel, rfl, by decide +kernel, by decide +kernel⟩
abbrev s__law_nonzero : Stmt := topS 54
theorem sc__law_nonzero : FnScope ["state", "c"] ["state"] (defScope s__law_nonzero) := ⟨rfl, rfl, rfl, by decide +kernel, rfl, by decide +kernel, by decide +kernel⟩
abbrev s__law_product_of : Stmt := topS 56
theorem sc__law_product_of : FnScope ["items", "found", "c"] ["items"] (defScope s__law_product_of) := ⟨rfl, rfl, rfl, by decide +kernel, rfl, by decide +kernel, by decide +kernel⟩
abbrev s__law_recursion : Stmt := topS 58
theorem sc__law_recursion : FnScope ["a", "b", "x", "k", "one", "two", "step", "first", "second", "c"] ["a", "b"] (defScope s__law_recursion) := ⟨rfl, rfl, rfl, by decide +kernel, rfl, by decide +kernel, by decide +kernel⟩
abbrev s_check_polynomials : Stmt := topS 13
theorem sc_check_polynomials : FnScope ["values", "f"] ["values"] (defScope s_check_polynomials) := ⟨rfl, rfl, rfl, by decide +kernel, rfl, by decide +kernel, by decide +kernel⟩
abbrev s_added : Stmt := topS 16
theorem sc_added : FnScope ["f", "g", "size", "one", "two", "a", "b"] ["f", "g"] (defScope s_added) := ⟨rfl, rfl, rfl, by decide +kernel, rfl, by decide +kernel, by decide +kernel⟩
abbrev s_scaled : Stmt := topS 17
theorem sc_scaled : FnScope ["f", "c", "a"] ["f", "c"] (defScope s_scaled) := ⟨rfl, rfl, rfl, by decide +kernel, rfl, by decide +kernel, by decide +kernel⟩
abbrev s_times : Stmt := topS 18
theorem sc_times : FnScope ["f", "g", "found", "i", "a", "j", "b"] ["f", "g"] (defScope s_times) := ⟨rfl, rfl, rfl, by decide +kernel, rfl, by decide +kernel, by decide +kernel⟩
abbrev s_mean_of : Stmt := topS 36
theorem sc_mean_of : FnScope ["moments", "f", "told", "total", "k", "item"] ["moments", "f"] (defScope s_mean_of) := ⟨rfl, rfl, rfl, by decide +kernel, rfl, by decide +kernel, by decide +kernel⟩
abbrev s_moments_by_paths : Stmt := topS 31
theorem sc_moments_by_paths : FnScope ["a", "b", "n", "heights", "found", "_", "later", "h", "total"] ["a", "b", "n"] (defScope s_moments_by_paths) := ⟨rfl, rfl, rfl, by decide +kernel, rfl, by decide +kernel, by decide +kernel⟩
abbrev s__law_mean : Stmt := topS 59
theorem sc__law_mean : FnScope ["row", "f", "whole", "k"] ["row", "f"] (defScope s__law_mean) := ⟨rfl, rfl, rfl, by decide +kernel, rfl, by decide +kernel, by decide +kernel⟩
abbrev s_poly_less : Stmt := topS 19
theorem sc_poly_less : FnScope ["f", "g"] ["f", "g"] (defScope s_poly_less) := ⟨rfl, rfl, rfl, by decide +kernel, rfl, by decide +kernel, by decide +kernel⟩
abbrev s_poly_product : Stmt := topS 20
theorem sc_poly_product : FnScope ["f", "g"] ["f", "g"] (defScope s_poly_product) := ⟨rfl, rfl, rfl, by decide +kernel, rfl, by decide +kernel, by decide +kernel⟩
abbrev s_poly_scaled : Stmt := topS 21
theorem sc_poly_scaled : FnScope ["f", "c"] ["f", "c"] (defScope s_poly_scaled) := ⟨rfl, rfl, rfl, by decide +kernel, rfl, by decide +kernel, by decide +kernel⟩
abbrev s_polynomial_mean : Stmt := topS 37
theorem sc_polynomial_mean : FnScope ["moments", "f"] ["moments", "f"] (defScope s_polynomial_mean) := ⟨rfl, rfl, rfl, by decide +kernel, rfl, by decide +kernel, by decide +kernel⟩
abbrev s_path_moments : Stmt := topS 32
theorem sc_path_moments : FnScope ["a", "b", "n"] ["a", "b", "n"] (defScope s_path_moments) := ⟨rfl, rfl, rfl, by decide +kernel, rfl, by decide +kernel, by decide +kernel⟩
abbrev s_next_polynomial : Stmt := topS 33
theorem sc_next_polynomial : FnScope ["last", "before", "a", "b", "led"] ["last", "before", "a", "b"] (defScope s_next_polynomial) := ⟨rfl, rfl, rfl, by decide +kernel, rfl, by decide +kernel, by decide +kernel⟩
abbrev s__law_inner : Stmt := topS 39
theorem sc__law_inner : FnScope ["value", "item"] ["value"] (defScope s__law_inner) := ⟨rfl, rfl, rfl, by decide +kernel, rfl, by decide +kernel, by decide +kernel⟩
abbrev s_polynomials_of : Stmt := topS 34
theorem sc_polynomials_of : FnScope ["a", "b", "k", "P", "Q"] ["a", "b"] (defScope s_polynomials_of) := ⟨rfl, rfl, rfl, by decide +kernel, rfl, by decide +kernel, by decide +kernel⟩
abbrev s__law_plain : Stmt := topS 40
theorem sc__law_plain : FnScope ["value"] ["value"] (defScope s__law_plain) := ⟨rfl, rfl, rfl, by decide +kernel, rfl, by decide +kernel, by decide +kernel⟩
abbrev s_orthogonal_polynomials : Stmt := topS 35
theorem sc_orthogonal_polynomials : FnScope ["a", "b"] ["a", "b"] (defScope s_orthogonal_polynomials) := ⟨rfl, rfl, rfl, by decide +kernel, rfl, by decide +kernel, by decide +kernel⟩
abbrev s__law_told : Stmt := topS 57
theorem sc__law_told : FnScope ["which", "x", "y"] ["which", "x", "y"] (defScope s__law_told) := ⟨rfl, rfl, rfl, by decide +kernel, rfl, by decide +kernel, by decide +kernel⟩
abbrev s_law : Stmt := topS 61
theorem sc_law : FnScope ["script", "state", "k", "row", "i", "f", "moments", "bad", "a", "b", "one", "two", "j", "product"] ["script"] (defScope s_law) := ⟨rfl, rfl, rfl, by decide +kernel, rfl, by decide +kernel, by decide +kernel⟩
structure Facts (P : Program) (K : PySem.W.Frag) (mg : Str → Option Value) where
  d__law_state : DA K mg "_law_state" s__law_state ["script"]
  d__law_take : DA K mg "_law_take" s__law_take ["state", "m"]
  d__law_trimmed : DA K mg "_law_trimmed" s__law_trimmed ["row"]
  d__law_frac : DA K mg "_law_frac" s__law_frac ["n", "d"]
  d_is_integer : DA K mg "is_integer" s_is_integer ["value"]
  d_greatest_common : DA K mg "greatest_common" s_greatest_common ["a", "b"]
  d_trimmed : DA K mg "trimmed" s_trimmed ["items"]
  d_item_at : DA K mg "item_at" s_item_at ["row", "k"]
  d__law_add : DA K mg "_law_add" s__law_add ["a", "b"]
  d__law_times : DA K mg "_law_times" s__law_times ["a", "b"]
  d__law_less : DA K mg "_law_less" s__law_less ["a", "b"]
  d__law_drawn : DA K mg "_law_drawn" s__law_drawn ["state"]
  d_is_ratio : DA K mg "is_ratio" s_is_ratio ["value"]
  d_lowest : DA K mg "lowest" s_lowest ["n", "d"]
  d_check_count : DA K mg "check_count" s_check_count ["n"]
  d__law_poly_add : DA K mg "_law_poly_add" s__law_poly_add ["f", "g"]
  d__law_poly_times : DA K mg "_law_poly_times" s__law_poly_times ["f", "g"]
  d__law_poly_scaled : DA K mg "_law_poly_scaled" s__law_poly_scaled ["f", "c"]
  d__law_path_moments : DA K mg "_law_path_moments" s__law_path_moments ["a", "b", "n"]
  d__law_row : DA K mg "_law_row" s__law_row ["state", "n"]
  d_check_row : DA K mg "check_row" s_check_row ["row"]
  d_is_polynomial : DA K mg "is_polynomial" s_is_polynomial ["value"]
  d_ratio_sum : DA K mg "ratio_sum" s_ratio_sum ["a", "b"]
  d_ratio_product : DA K mg "ratio_product" s_ratio_product ["a", "b"]
  d_check_ratio : DA K mg "check_ratio" s_check_ratio ["value"]
  d__law_begins : DA K mg "_law_begins" s__law_begins ["p", "q", "row"]
  d__law_total : DA K mg "_law_total" s__law_total ["items"]
  d__law_nonzero : DA K mg "_law_nonzero" s__law_nonzero ["state"]
  d__law_product_of : DA K mg "_law_product_of" s__law_product_of ["items"]
  d__law_recursion : DA K mg "_law_recursion" s__law_recursion ["a", "b"]
  d_check_polynomials : DA K mg "check_polynomials" s_check_polynomials ["values"]
  d_added : DA K mg "added" s_added ["f", "g"]
  d_scaled : DA K mg "scaled" s_scaled ["f", "c"]
  d_times : DA K mg "times" s_times ["f", "g"]
  d_mean_of : DA K mg "mean_of" s_mean_of ["moments", "f"]
  d_moments_by_paths : DA K mg "moments_by_paths" s_moments_by_paths ["a", "b", "n"]
  d__law_mean : DA K mg "_law_mean" s__law_mean ["row", "f"]
  d_poly_less : DA K mg "poly_less" s_poly_less ["f", "g"]
  d_poly_product : DA K mg "poly_product" s_poly_product ["f", "g"]
  d_poly_scaled : DA K mg "poly_scaled" s_poly_scaled ["f", "c"]
  d_polynomial_mean : DA K mg "polynomial_mean" s_polynomial_mean ["moments", "f"]
  d_path_moments : DA K mg "path_moments" s_path_moments ["a", "b", "n"]
  d_next_polynomial : DA K mg "next_polynomial" s_next_polynomial ["last", "before", "a", "b"]
  d__law_inner : DA K mg "_law_inner" s__law_inner ["value"]
  d_polynomials_of : DA K mg "polynomials_of" s_polynomials_of ["a", "b"]
  d__law_plain : DA K mg "_law_plain" s__law_plain ["value"]
  d_orthogonal_polynomials : DA K mg "orthogonal_polynomials" s_orthogonal_polynomials ["a", "b"]
  d__law_told : DA K mg "_law_told" s__law_told ["which", "x", "y"]
  d_law : DA K mg "law" s_law ["script"]
  x_Malformed : XA K mg "Malformed"
  t_MOST_ITEMS : Tok
  c_MOST_ITEMS : mg "MOST_ITEMS" = some (.int 61 t_MOST_ITEMS)
  t_MOST_STEPS : Tok
  c_MOST_STEPS : mg "MOST_STEPS" = some (.int 12 t_MOST_STEPS)
  c_ONE : TA K mg "ONE" (.tup [.int 1, .int 1])
  c_POLY_ONE : TA K mg "POLY_ONE" (.tup [(.tup [.int 1, .int 1])])
  c_POLY_X : TA K mg "POLY_X" (.tup [(.tup [.int 0, .int 1]), (.tup [.int 1, .int 1])])
  c_ZERO : TA K mg "ZERO" (.tup [.int 0, .int 1])
  b_abs : mg "abs" = none
  b_all : mg "all" = none
  b_bool : mg "bool" = none
  b_enumerate : mg "enumerate" = none
  b_int : mg "int" = none
  b_isinstance : mg "isinstance" = none
  b_len : mg "len" = none
  b_list : mg "list" = none
  b_max : mg "max" = none
  b_range : mg "range" = none
  b_str : mg "str" = none
  b_tuple : mg "tuple" = none
  b_zip : mg "zip" = none
def Facts.C {P : Program} {K : PySem.W.Frag} {mg : Str → Option Value} (E : Facts P K mg) : RC := ⟨K, fun i => match i with
  | _ => none, fun i => match i with
  | 1 => some E.x_Malformed.a
  | _ => none⟩
variable {P : Program} {w : World} {K : PySem.W.Frag} {mg : Str → Option Value} {base : Heap} (E : Facts P K mg)
abbrev lb__law_state_1 : En → SR := (seqS
  (setS 1 ((op2 addD (oOfV ((vOfE (op2 mulD (nmO 1) (oOfV (kI 1000003)))))) (oOfV ((vOfE (op1 absD (nmO 3)))))))) (setS 2 ((op2 modD (oOfV ((vOfE (op1 intD (oOfV ((vOfE (op2 addD (oOfV ((vOfE (op2 mulD (nmO 2) (oOfV (kI 48271)))))) (nmO 3))))))))) (oOfV (kI 2147483647))))))
abbrev g__law_state_1 : En → SR := (setS 1 ((eOfV (kI 0))))
abbrev g__law_state_2 : En → SR := (setS 2 ((eOfV (kI 1))))
abbrev g__law_state_3 : En → SR := (forS (seqI' ((vOfE (opS (nmO 0) pNone (pSome (kI 63)))))) (nameG 3) lb__law_state_1)
abbrev g__law_state_4 : En → SR := (retS ((lstE (aCons ((nmV 1)) (aCons ((nmV 2)) aNil)))))
def g__law_state : En → SR := (seqS g__law_state_1 (seqS g__law_state_2 (seqS g__law_state_3 g__law_state_4)))
def F__law_state : Sl → List D → FR := fnF 4 false g__law_state
set_option maxRecDepth 100000 in
theorem ok__law_state : FnV P w K mg base E.C 1 E.d__law_state.f E.d__law_state.fd ["script"] false F__law_state :=
  fnV_of E.d__law_state.F sc__law_state false [] rfl (fun h => nomatch h) fun cdv A outer s H X σ₀ hr G => by
    exact (eb_cons
  (es_set (i := 1) G rfl (by first | exact .inl rfl | exact .inr rfl) (show (1 : Nat) ∉ ([] : List Nat) by decide) (EvV.toE ev_int)) (eb_cons
  (es_set (i := 2) G rfl (by first | exact .inl rfl | exact .inr rfl) (show (2 : Nat) ∉ ([] : List Nat) by decide) (EvV.toE ev_int)) (eb_cons
  (es_for G (passes_of rfl) (ei_seq G (EvE.toV (ev_slice G (ev_nameO (i := 0) rfl (by first | exact .inl rfl | exact .inr (.inl rfl) | exact .inr (.inr rfl))) ep_none (ep_some ev_int)))) (eg_name (i := 3) G rfl (by first | exact .inl rfl | exact .inr rfl) (show (3 : Nat) ∉ ([] : List Nat) by decide)) (eb_cons
  (es_set (i := 1) G rfl (by first | exact .inl rfl | exact .inr rfl) (show (1 : Nat) ∉ ([] : List Nat) by decide) (ev_add G (EvV.toO (EvE.toV (ev_mul G (ev_nameO (i := 1) rfl (by first | exact .inl rfl | exact .inr (.inl rfl) | exact .inr (.inr rfl))) (EvV.toO ev_int)))) (EvV.toO (EvE.toV (ev_abs (by rfl) E.b_abs (ev_nameO (i := 3) rfl (by first | exact .inl rfl | exact .inr (.inl rfl) | exact .inr (.inr rfl)))))))) (eb_one (es_set (i := 2) G rfl (by first | exact .inl rfl | exact .inr rfl) (show (2 : Nat) ∉ ([] : List Nat) by decide) (ev_mod (EvV.toO (EvE.toV (ev_int1 (by rfl) E.b_int (EvV.toO (EvE.toV (ev_add G (EvV.toO (EvE.toV (ev_mul G (ev_nameO (i := 2) rfl (by first | exact .inl rfl | exact .inr (.inl rfl) | exact .inr (.inr rfl))) (EvV.toO ev_int)))) (ev_nameO (i := 3) rfl (by first | exact .inl rfl | exact .inr (.inl rfl) | exact .inr (.inr rfl))))))))) (EvV.toO ev_int)))))) (eb_one (es_ret (ev_lst (ea_cons (ev_name (i := 1) rfl (by first | exact .inl rfl | exact .inr (.inl rfl) | exact .inr (.inr rfl))) (ea_cons (ev_name (i := 2) rfl (by first | exact .inl rfl | exact .inr (.inl rfl) | exact .inr (.inr rfl))) ea_nil))))))))
abbrev g__law_take_1 : En → SR := (iteS (tst (op2 (cmpD fun i j => decide (j < i)) (oOfV ((vOfE (op2 idxD (nmO 0) (oOfV (kI 0)))))) (oOfV (kI 0)))) (seqS
  (setS 2 ((op2 modD (oOfV ((vOfE (op1 intD (oOfV ((vOfE (op2 idxD (nmO 0) (oOfV (kI 0)))))))))) (nmO 1)))) (seqS
  (sItS 0 ((vOfE (op2 fdivD (oOfV ((vOfE (op2 idxD (nmO 0) (oOfV (kI 0)))))) (nmO 1)))) (kI 0)) (retM 2))) passS)
abbrev g__law_take_2 : En → SR := (sItS 0 ((vOfE (op2 modD (oOfV ((vOfE (op1 intD (oOfV ((vOfE (op2 addD (oOfV ((vOfE (op2 mulD (oOfV ((vOfE (op2 idxD (nmO 0) (oOfV (kI 1)))))) (oOfV (kI 48271)))))) (oOfV (kI 11)))))))))) (oOfV (kI 2147483647))))) (kI 1))
abbrev g__law_take_3 : En → SR := (retS ((op2 modD (oOfV ((vOfE (op1 intD (oOfV ((vOfE (op2 fdivD (oOfV ((vOfE (op2 idxD (nmO 0) (oOfV (kI 1)))))) (oOfV (kI 7)))))))))) (nmO 1))))
def g__law_take : En → SR := (seqS g__law_take_1 (seqS g__law_take_2 g__law_take_3))
def F__law_take : Sl → List D → FR := fnF 3 true g__law_take
set_option maxRecDepth 100000 in
theorem ok__law_take : FnV P w K mg base E.C 1 E.d__law_take.f E.d__law_take.fd ["state", "m"] true F__law_take :=
  fnV_of E.d__law_take.F sc__law_take true [0] rfl (fun _ => ⟨by decide, by decide⟩) fun cdv A outer s H X σ₀ hr G => by
    exact (eb_cons
  (es_if (et_cmp (cGt) (EvV.toO (EvE.toV (ev_idx G hr (ev_nameO (i := 0) rfl (by first | exact .inl rfl | exact .inr (.inl rfl) | exact .inr (.inr rfl))) (EvV.toO ev_int)))) (EvV.toO ev_int)) (eb_cons
  (es_set (i := 2) G rfl (by first | exact .inl rfl | exact .inr rfl) (show (2 : Nat) ∉ ([0] : List Nat) by decide) (ev_mod (EvV.toO (EvE.toV (ev_int1 (by rfl) E.b_int (EvV.toO (EvE.toV (ev_idx G hr (ev_nameO (i := 0) rfl (by first | exact .inl rfl | exact .inr (.inl rfl) | exact .inr (.inr rfl))) (EvV.toO ev_int))))))) (ev_nameO (i := 1) rfl (by first | exact .inl rfl | exact .inr (.inl rfl) | exact .inr (.inr rfl))))) (eb_cons
  (es_sub (i := 0) G hr rfl (by first | exact .inl rfl | exact .inr (.inl rfl) | exact .inr (.inr rfl)) (EvE.toV (ev_fdiv (EvV.toO (EvE.toV (ev_idx G hr (ev_nameO (i := 0) rfl (by first | exact .inl rfl | exact .inr (.inl rfl) | exact .inr (.inr rfl))) (EvV.toO ev_int)))) (ev_nameO (i := 1) rfl (by first | exact .inl rfl | exact .inr (.inl rfl) | exact .inr (.inr rfl))))) ev_int) (eb_one (es_retM (i := 2) rfl (by first | exact .inl rfl | exact .inr (.inl rfl) | exact .inr (.inr rfl)))))) eb_nil) (eb_cons
  (es_sub (i := 0) G hr rfl (by first | exact .inl rfl | exact .inr (.inl rfl) | exact .inr (.inr rfl)) (EvE.toV (ev_mod (EvV.toO (EvE.toV (ev_int1 (by rfl) E.b_int (EvV.toO (EvE.toV (ev_add G (EvV.toO (EvE.toV (ev_mul G (EvV.toO (EvE.toV (ev_idx G hr (ev_nameO (i := 0) rfl (by first | exact .inl rfl | exact .inr (.inl rfl) | exact .inr (.inr rfl))) (EvV.toO ev_int)))) (EvV.toO ev_int)))) (EvV.toO ev_int))))))) (EvV.toO ev_int))) ev_int) (eb_one (es_ret (ev_mod (EvV.toO (EvE.toV (ev_int1 (by rfl) E.b_int (EvV.toO (EvE.toV (ev_fdiv (EvV.toO (EvE.toV (ev_idx G hr (ev_nameO (i := 0) rfl (by first | exact .inl rfl | exact .inr (.inl rfl) | exact .inr (.inr rfl))) (EvV.toO ev_int)))) (EvV.toO ev_int))))))) (ev_nameO (i := 1) rfl (by first | exact .inl rfl | exact .inr (.inl rfl) | exact .inr (.inr rfl))))))))
abbrev lb__law_trimmed_1 : En → SR := (exprS (eOfV ((popV 1))))
abbrev g__law_trimmed_1 : En → SR := (setS 1 ((op1 lisD (nmO 0))))
abbrev g__law_trimmed_2 : En → SR := (whileS (andT (tst (op2 (cmpD fun i j => decide (j < i)) (oOfV ((vOfE (op1 lenD (nmO 1))))) (oOfV (kI 0)))) (tst (op2 eqD (oOfV ((vOfE (op2 idxD (oOfV ((vOfE (op2 idxD (nmO 1) (oOfV ((vOfE (op1 negD (oOfV (kI 1)))))))))) (oOfV (kI 0)))))) (oOfV (kI 0))))) lb__law_trimmed_1 200)
abbrev g__law_trimmed_3 : En → SR := (retS ((op1 tupD (nmO 1))))
def g__law_trimmed : En → SR := (seqS g__law_trimmed_1 (seqS g__law_trimmed_2 g__law_trimmed_3))
def F__law_trimmed : Sl → List D → FR := fnF 2 false g__law_trimmed
set_option maxRecDepth 100000 in
theorem ok__law_trimmed : FnV P w K mg base E.C 1 E.d__law_trimmed.f E.d__law_trimmed.fd ["row"] false F__law_trimmed :=
  fnV_of E.d__law_trimmed.F sc__law_trimmed false [] rfl (fun h => nomatch h) fun cdv A outer s H X σ₀ hr G => by
    exact (eb_cons
  (es_set (i := 1) G rfl (by first | exact .inl rfl | exact .inr rfl) (show (1 : Nat) ∉ ([] : List Nat) by decide) (ev_list G (by rfl) E.b_list (ev_nameO (i := 0) rfl (by first | exact .inl rfl | exact .inr (.inl rfl) | exact .inr (.inr rfl))))) (eb_cons
  (es_while 200 (passes_of rfl) (EvW.t (ew_and (et_cmp (cGt) (EvV.toO (EvE.toV (ev_len G (by rfl) E.b_len (ev_nameO (i := 1) rfl (by first | exact .inl rfl | exact .inr (.inl rfl) | exact .inr (.inr rfl)))))) (EvV.toO ev_int)) (ew_and1 (et_cmp (cEq G hr) (EvV.toO (EvE.toV (ev_idx G hr (EvV.toO (EvE.toV (ev_idx G hr (ev_nameO (i := 1) rfl (by first | exact .inl rfl | exact .inr (.inl rfl) | exact .inr (.inr rfl))) (EvV.toO (EvE.toV (ev_neg (EvV.toO ev_int))))))) (EvV.toO ev_int)))) (EvV.toO ev_int))))) (eb_one (es_expr (EvV.toE (ev_pop (i := 1) rfl (by first | exact .inl rfl | exact .inr (.inl rfl) | exact .inr (.inr rfl))))))) (eb_one (es_ret (ev_tuple G (by rfl) E.b_tuple (ev_nameO (i := 1) rfl (by first | exact .inl rfl | exact .inr (.inl rfl) | exact .inr (.inr rfl))))))))
abbrev lb__law_frac_1 : En → SR := (parS 2 3 (lCons ((eOfV ((nmV 3)))) (lCons ((op2 modD (oOfV ((vOfE (op1 intD (nmO 2))))) (nmO 3))) lNil)))
abbrev g__law_frac_1 : En → SR := (parS 2 3 (lCons ((op1 absD (nmO 0))) (lCons ((op1 absD (nmO 1))) lNil)))
abbrev g__law_frac_2 : En → SR := (whileS (tst (op2 neD (nmO 3) (oOfV (kI 0)))) lb__law_frac_1 20000)
abbrev g__law_frac_3 : En → SR := (iteS (tst (op2 (cmpD fun i j => decide (i < j)) (nmO 1) (oOfV (kI 0)))) (setS 2 ((op1 negD (nmO 2)))) passS)
abbrev g__law_frac_4 : En → SR := (retS ((eOfV ((tupE (aCons ((vOfE (op2 fdivD (nmO 0) (nmO 2)))) (aCons ((vOfE (op2 fdivD (nmO 1) (nmO 2)))) aNil)))))))
def g__law_frac : En → SR := (seqS g__law_frac_1 (seqS g__law_frac_2 (seqS g__law_frac_3 g__law_frac_4)))
def F__law_frac : Sl → List D → FR := fnF 4 false g__law_frac
set_option maxRecDepth 100000 in
theorem ok__law_frac : FnV P w K mg base E.C 1 E.d__law_frac.f E.d__law_frac.fd ["n", "d"] false F__law_frac :=
  fnV_of E.d__law_frac.F sc__law_frac false [] rfl (fun h => nomatch h) fun cdv A outer s H X σ₀ hr G => by
    exact (eb_cons
  (es_par (i := 2) (j := 3) G rfl rfl (by decide) (show (2 : Nat) ∉ ([] : List Nat) by decide) (show (3 : Nat) ∉ ([] : List Nat) by decide) rfl rfl (el_cons (ev_abs (by rfl) E.b_abs (ev_nameO (i := 0) rfl (by first | exact .inl rfl | exact .inr (.inl rfl) | exact .inr (.inr rfl)))) (el_cons (ev_abs (by rfl) E.b_abs (ev_nameO (i := 1) rfl (by first | exact .inl rfl | exact .inr (.inl rfl) | exact .inr (.inr rfl)))) el_nil))) (eb_cons
  (es_while 20000 (passes_of rfl) (et_cmp (cNe G hr) (ev_nameO (i := 3) rfl (by first | exact .inl rfl | exact .inr (.inl rfl) | exact .inr (.inr rfl))) (EvV.toO ev_int)) (eb_one (es_par (i := 2) (j := 3) G rfl rfl (by decide) (show (2 : Nat) ∉ ([] : List Nat) by decide) (show (3 : Nat) ∉ ([] : List Nat) by decide) rfl rfl (el_cons (EvV.toE (ev_name (i := 3) rfl (by first | exact .inl rfl | exact .inr (.inl rfl) | exact .inr (.inr rfl)))) (el_cons (ev_mod (EvV.toO (EvE.toV (ev_int1 (by rfl) E.b_int (ev_nameO (i := 2) rfl (by first | exact .inl rfl | exact .inr (.inl rfl) | exact .inr (.inr rfl)))))) (ev_nameO (i := 3) rfl (by first | exact .inl rfl | exact .inr (.inl rfl) | exact .inr (.inr rfl)))) el_nil))))) (eb_cons
  (es_if (et_cmp (cLt) (ev_nameO (i := 1) rfl (by first | exact .inl rfl | exact .inr (.inl rfl) | exact .inr (.inr rfl))) (EvV.toO ev_int)) (eb_one (es_set (i := 2) G rfl (by first | exact .inl rfl | exact .inr rfl) (show (2 : Nat) ∉ ([] : List Nat) by decide) (ev_neg (ev_nameO (i := 2) rfl (by first | exact .inl rfl | exact .inr (.inl rfl) | exact .inr (.inr rfl)))))) eb_nil) (eb_one (es_ret (EvV.toE (ev_tup (ea_cons (EvE.toV (ev_fdiv (ev_nameO (i := 0) rfl (by first | exact .inl rfl | exact .inr (.inl rfl) | exact .inr (.inr rfl))) (ev_nameO (i := 2) rfl (by first | exact .inl rfl | exact .inr (.inl rfl) | exact .inr (.inr rfl))))) (ea_cons (EvE.toV (ev_fdiv (ev_nameO (i := 1) rfl (by first | exact .inl rfl | exact .inr (.inl rfl) | exact .inr (.inr rfl))) (ev_nameO (i := 2) rfl (by first | exact .inl rfl | exact .inr (.inl rfl) | exact .inr (.inr rfl))))) ea_nil)))))))))
def g_is_integer : En → SR := (retS ((eOfV ((andV ((vOfE (op1 (isiD "int") (nmO 0)))) ((notV ((vOfE (op1 (isiD "bool") (nmO 0)))))))))))
def F_is_integer : Sl → List D → FR := fnF 1 false g_is_integer
set_option maxRecDepth 100000 in
theorem ok_is_integer : FnV P w K mg base E.C 1 E.d_is_integer.f E.d_is_integer.fd ["value"] false F_is_integer :=
  fnV_of E.d_is_integer.F sc_is_integer false [] rfl (fun h => nomatch h) fun cdv A outer s H X σ₀ hr G => by
    exact (eb_one (es_ret (EvV.toE (ev_and (EvE.toV (ev_isi G (T := "int") (by decide) (by decide +kernel) (by rfl) E.b_isinstance (by rfl) E.b_int (ev_nameO (i := 0) rfl (by first | exact .inl rfl | exact .inr (.inl rfl) | exact .inr (.inr rfl))))) (ev_one (ev_not (EvE.toV (ev_isi G (T := "bool") (by decide) (by decide +kernel) (by rfl) E.b_isinstance (by rfl) E.b_bool (ev_nameO (i := 0) rfl (by first | exact .inl rfl | exact .inr (.inl rfl) | exact .inr (.inr rfl)))))))))))
abbrev lb_greatest_common_1 : En → SR := (parS 0 1 (lCons ((eOfV ((nmV 1)))) (lCons ((op2 modD (nmO 0) (nmO 1))) lNil)))
abbrev g_greatest_common_1 : En → SR := (parS 0 1 (lCons ((op1 absD (nmO 0))) (lCons ((op1 absD (nmO 1))) lNil)))
abbrev g_greatest_common_2 : En → SR := (whileS (tst (op2 neD (nmO 1) (oOfV (kI 0)))) lb_greatest_common_1 20000)
abbrev g_greatest_common_3 : En → SR := (retM 0)
def g_greatest_common : En → SR := (seqS g_greatest_common_1 (seqS g_greatest_common_2 g_greatest_common_3))
def F_greatest_common : Sl → List D → FR := fnF 2 false g_greatest_common
set_option maxRecDepth 100000 in
theorem ok_greatest_common : FnV P w K mg base E.C 1 E.d_greatest_common.f E.d_greatest_common.fd ["a", "b"] false F_greatest_common :=
  fnV_of E.d_greatest_common.F sc_greatest_common false [] rfl (fun h => nomatch h) fun cdv A outer s H X σ₀ hr G => by
    exact (eb_cons
  (es_par (i := 0) (j := 1) G rfl rfl (by decide) (show (0 : Nat) ∉ ([] : List Nat) by decide) (show (1 : Nat) ∉ ([] : List Nat) by decide) rfl rfl (el_cons (ev_abs (by rfl) E.b_abs (ev_nameO (i := 0) rfl (by first | exact .inl rfl | exact .inr (.inl rfl) | exact .inr (.inr rfl)))) (el_cons (ev_abs (by rfl) E.b_abs (ev_nameO (i := 1) rfl (by first | exact .inl rfl | exact .inr (.inl rfl) | exact .inr (.inr rfl)))) el_nil))) (eb_cons
  (es_while 20000 (passes_of rfl) (et_cmp (cNe G hr) (ev_nameO (i := 1) rfl (by first | exact .inl rfl | exact .inr (.inl rfl) | exact .inr (.inr rfl))) (EvV.toO ev_int)) (eb_one (es_par (i := 0) (j := 1) G rfl rfl (by decide) (show (0 : Nat) ∉ ([] : List Nat) by decide) (show (1 : Nat) ∉ ([] : List Nat) by decide) rfl rfl (el_cons (EvV.toE (ev_name (i := 1) rfl (by first | exact .inl rfl | exact .inr (.inl rfl) | exact .inr (.inr rfl)))) (el_cons (ev_mod (ev_nameO (i := 0) rfl (by first | exact .inl rfl | exact .inr (.inl rfl) | exact .inr (.inr rfl))) (ev_nameO (i := 1) rfl (by first | exact .inl rfl | exact .inr (.inl rfl) | exact .inr (.inr rfl)))) el_nil))))) (eb_one (es_retM (i := 0) rfl (by first | exact .inl rfl | exact .inr (.inl rfl) | exact .inr (.inr rfl))))))
abbrev lb_trimmed_1 : En → SR := (exprS (eOfV ((popV 1))))
abbrev g_trimmed_1 : En → SR := (setS 1 ((op1 lisD (nmO 0))))
abbrev g_trimmed_2 : En → SR := (whileS (andT (tst (op2 (cmpD fun i j => decide (j < i)) (oOfV ((vOfE (op1 lenD (nmO 1))))) (oOfV (kI 0)))) (tst (op2 eqD (oOfV ((vOfE (op2 idxD (oOfV ((vOfE (op2 idxD (nmO 1) (oOfV ((vOfE (op1 negD (oOfV (kI 1)))))))))) (oOfV (kI 0)))))) (oOfV (kI 0))))) lb_trimmed_1 200)
abbrev g_trimmed_3 : En → SR := (retS ((op1 tupD (nmO 1))))
def g_trimmed : En → SR := (seqS g_trimmed_1 (seqS g_trimmed_2 g_trimmed_3))
def F_trimmed : Sl → List D → FR := fnF 2 false g_trimmed
set_option maxRecDepth 100000 in
theorem ok_trimmed : FnV P w K mg base E.C 1 E.d_trimmed.f E.d_trimmed.fd ["items"] false F_trimmed :=
  fnV_of E.d_trimmed.F sc_trimmed false [] rfl (fun h => nomatch h) fun cdv A outer s H X σ₀ hr G => by
    exact (eb_cons
  (es_set (i := 1) G rfl (by first | exact .inl rfl | exact .inr rfl) (show (1 : Nat) ∉ ([] : List Nat) by decide) (ev_list G (by rfl) E.b_list (ev_nameO (i := 0) rfl (by first | exact .inl rfl | exact .inr (.inl rfl) | exact .inr (.inr rfl))))) (eb_cons
  (es_while 200 (passes_of rfl) (EvW.t (ew_and (et_cmp (cGt) (EvV.toO (EvE.toV (ev_len G (by rfl) E.b_len (ev_nameO (i := 1) rfl (by first | exact .inl rfl | exact .inr (.inl rfl) | exact .inr (.inr rfl)))))) (EvV.toO ev_int)) (ew_and1 (et_cmp (cEq G hr) (EvV.toO (EvE.toV (ev_idx G hr (EvV.toO (EvE.toV (ev_idx G hr (ev_nameO (i := 1) rfl (by first | exact .inl rfl | exact .inr (.inl rfl) | exact .inr (.inr rfl))) (EvV.toO (EvE.toV (ev_neg (EvV.toO ev_int))))))) (EvV.toO ev_int)))) (EvV.toO ev_int))))) (eb_one (es_expr (EvV.toE (ev_pop (i := 1) rfl (by first | exact .inl rfl | exact .inr (.inl rfl) | exact .inr (.inr rfl))))))) (eb_one (es_ret (ev_tuple G (by rfl) E.b_tuple (ev_nameO (i := 1) rfl (by first | exact .inl rfl | exact .inr (.inl rfl) | exact .inr (.inr rfl))))))))
def g_item_at : En → SR := (retS ((iteE ((tst (op2 (cmpD fun i j => decide (i < j)) (nmO 1) (oOfV ((vOfE (op1 lenD (nmO 0)))))))) ((op2 idxD (nmO 0) (nmO 1))) ((eOfV ((fun env => .ok (.tup [.int 0, .int 1]) env)))))))
def F_item_at : Sl → List D → FR := fnF 2 false g_item_at
set_option maxRecDepth 100000 in
theorem ok_item_at : FnV P w K mg base E.C 1 E.d_item_at.f E.d_item_at.fd ["row", "k"] false F_item_at :=
  fnV_of E.d_item_at.F sc_item_at false [] rfl (fun h => nomatch h) fun cdv A outer s H X σ₀ hr G => by
    exact (eb_one (es_ret (ev_ite (et_cmp (cLt) (ev_nameO (i := 1) rfl (by first | exact .inl rfl | exact .inr (.inl rfl) | exact .inr (.inr rfl))) (EvV.toO (EvE.toV (ev_len G (by rfl) E.b_len (ev_nameO (i := 0) rfl (by first | exact .inl rfl | exact .inr (.inl rfl) | exact .inr (.inr rfl))))))) (ev_idx G hr (ev_nameO (i := 0) rfl (by first | exact .inl rfl | exact .inr (.inl rfl) | exact .inr (.inr rfl))) (ev_nameO (i := 1) rfl (by first | exact .inl rfl | exact .inr (.inl rfl) | exact .inr (.inr rfl)))) (EvV.toE (ev_gtup E.c_ZERO G (by rfl))))))
def g__law_add : En → SR := (retS ((callF 2 (F__law_frac) (aCons ((vOfE (op2 addD (oOfV ((vOfE (op2 mulD (oOfV ((vOfE (op2 idxD (nmO 0) (oOfV (kI 0)))))) (oOfV ((vOfE (op2 idxD (nmO 1) (oOfV (kI 1)))))))))) (oOfV ((vOfE (op2 mulD (oOfV ((vOfE (op2 idxD (nmO 1) (oOfV (kI 0)))))) (oOfV ((vOfE (op2 idxD (nmO 0) (oOfV (kI 1))))))))))))) (aCons ((vOfE (op2 mulD (oOfV ((vOfE (op2 idxD (nmO 0) (oOfV (kI 1)))))) (oOfV ((vOfE (op2 idxD (nmO 1) (oOfV (kI 1))))))))) aNil)))))
def F__law_add : Sl → List D → FR := fnF 2 false g__law_add
set_option maxRecDepth 100000 in
theorem ok__law_add : FnV P w K mg base E.C 2 E.d__law_add.f E.d__law_add.fd ["a", "b"] false F__law_add :=
  fnV_of E.d__law_add.F sc__law_add false [] rfl (fun h => nomatch h) fun cdv A outer s H X σ₀ hr G => by
    exact (eb_one (es_ret (ev_call G (ok__law_frac E) (hr.mono (by decide)) (by rfl) E.d__law_frac.m E.d__law_frac.F.kp E.d__law_frac.b (ea_cons (EvE.toV (ev_add G (EvV.toO (EvE.toV (ev_mul G (EvV.toO (EvE.toV (ev_idx G hr (ev_nameO (i := 0) rfl (by first | exact .inl rfl | exact .inr (.inl rfl) | exact .inr (.inr rfl))) (EvV.toO ev_int)))) (EvV.toO (EvE.toV (ev_idx G hr (ev_nameO (i := 1) rfl (by first | exact .inl rfl | exact .inr (.inl rfl) | exact .inr (.inr rfl))) (EvV.toO ev_int))))))) (EvV.toO (EvE.toV (ev_mul G (EvV.toO (EvE.toV (ev_idx G hr (ev_nameO (i := 1) rfl (by first | exact .inl rfl | exact .inr (.inl rfl) | exact .inr (.inr rfl))) (EvV.toO ev_int)))) (EvV.toO (EvE.toV (ev_idx G hr (ev_nameO (i := 0) rfl (by first | exact .inl rfl | exact .inr (.inl rfl) | exact .inr (.inr rfl))) (EvV.toO ev_int))))))))) (ea_cons (EvE.toV (ev_mul G (EvV.toO (EvE.toV (ev_idx G hr (ev_nameO (i := 0) rfl (by first | exact .inl rfl | exact .inr (.inl rfl) | exact .inr (.inr rfl))) (EvV.toO ev_int)))) (EvV.toO (EvE.toV (ev_idx G hr (ev_nameO (i := 1) rfl (by first | exact .inl rfl | exact .inr (.inl rfl) | exact .inr (.inr rfl))) (EvV.toO ev_int)))))) ea_nil)))))
def g__law_times : En → SR := (retS ((callF 2 (F__law_frac) (aCons ((vOfE (op2 mulD (oOfV ((vOfE (op2 idxD (nmO 0) (oOfV (kI 0)))))) (oOfV ((vOfE (op2 idxD (nmO 1) (oOfV (kI 0))))))))) (aCons ((vOfE (op2 mulD (oOfV ((vOfE (op2 idxD (nmO 0) (oOfV (kI 1)))))) (oOfV ((vOfE (op2 idxD (nmO 1) (oOfV (kI 1))))))))) aNil)))))
def F__law_times : Sl → List D → FR := fnF 2 false g__law_times
set_option maxRecDepth 100000 in
theorem ok__law_times : FnV P w K mg base E.C 2 E.d__law_times.f E.d__law_times.fd ["a", "b"] false F__law_times :=
  fnV_of E.d__law_times.F sc__law_times false [] rfl (fun h => nomatch h) fun cdv A outer s H X σ₀ hr G => by
    exact (eb_one (es_ret (ev_call G (ok__law_frac E) (hr.mono (by decide)) (by rfl) E.d__law_frac.m E.d__law_frac.F.kp E.d__law_frac.b (ea_cons (EvE.toV (ev_mul G (EvV.toO (EvE.toV (ev_idx G hr (ev_nameO (i := 0) rfl (by first | exact .inl rfl | exact .inr (.inl rfl) | exact .inr (.inr rfl))) (EvV.toO ev_int)))) (EvV.toO (EvE.toV (ev_idx G hr (ev_nameO (i := 1) rfl (by first | exact .inl rfl | exact .inr (.inl rfl) | exact .inr (.inr rfl))) (EvV.toO ev_int)))))) (ea_cons (EvE.toV (ev_mul G (EvV.toO (EvE.toV (ev_idx G hr (ev_nameO (i := 0) rfl (by first | exact .inl rfl | exact .inr (.inl rfl) | exact .inr (.inr rfl))) (EvV.toO ev_int)))) (EvV.toO (EvE.toV (ev_idx G hr (ev_nameO (i := 1) rfl (by first | exact .inl rfl | exact .inr (.inl rfl) | exact .inr (.inr rfl))) (EvV.toO ev_int)))))) ea_nil)))))
def g__law_less : En → SR := (retS ((callF 2 (F__law_frac) (aCons ((vOfE (op2 subD (oOfV ((vOfE (op2 mulD (oOfV ((vOfE (op2 idxD (nmO 0) (oOfV (kI 0)))))) (oOfV ((vOfE (op2 idxD (nmO 1) (oOfV (kI 1)))))))))) (oOfV ((vOfE (op2 mulD (oOfV ((vOfE (op2 idxD (nmO 1) (oOfV (kI 0)))))) (oOfV ((vOfE (op2 idxD (nmO 0) (oOfV (kI 1))))))))))))) (aCons ((vOfE (op2 mulD (oOfV ((vOfE (op2 idxD (nmO 0) (oOfV (kI 1)))))) (oOfV ((vOfE (op2 idxD (nmO 1) (oOfV (kI 1))))))))) aNil)))))
def F__law_less : Sl → List D → FR := fnF 2 false g__law_less
set_option maxRecDepth 100000 in
theorem ok__law_less : FnV P w K mg base E.C 2 E.d__law_less.f E.d__law_less.fd ["a", "b"] false F__law_less :=
  fnV_of E.d__law_less.F sc__law_less false [] rfl (fun h => nomatch h) fun cdv A outer s H X σ₀ hr G => by
    exact (eb_one (es_ret (ev_call G (ok__law_frac E) (hr.mono (by decide)) (by rfl) E.d__law_frac.m E.d__law_frac.F.kp E.d__law_frac.b (ea_cons (EvE.toV (ev_sub (EvV.toO (EvE.toV (ev_mul G (EvV.toO (EvE.toV (ev_idx G hr (ev_nameO (i := 0) rfl (by first | exact .inl rfl | exact .inr (.inl rfl) | exact .inr (.inr rfl))) (EvV.toO ev_int)))) (EvV.toO (EvE.toV (ev_idx G hr (ev_nameO (i := 1) rfl (by first | exact .inl rfl | exact .inr (.inl rfl) | exact .inr (.inr rfl))) (EvV.toO ev_int))))))) (EvV.toO (EvE.toV (ev_mul G (EvV.toO (EvE.toV (ev_idx G hr (ev_nameO (i := 1) rfl (by first | exact .inl rfl | exact .inr (.inl rfl) | exact .inr (.inr rfl))) (EvV.toO ev_int)))) (EvV.toO (EvE.toV (ev_idx G hr (ev_nameO (i := 0) rfl (by first | exact .inl rfl | exact .inr (.inl rfl) | exact .inr (.inr rfl))) (EvV.toO ev_int))))))))) (ea_cons (EvE.toV (ev_mul G (EvV.toO (EvE.toV (ev_idx G hr (ev_nameO (i := 0) rfl (by first | exact .inl rfl | exact .inr (.inl rfl) | exact .inr (.inr rfl))) (EvV.toO ev_int)))) (EvV.toO (EvE.toV (ev_idx G hr (ev_nameO (i := 1) rfl (by first | exact .inl rfl | exact .inr (.inl rfl) | exact .inr (.inr rfl))) (EvV.toO ev_int)))))) ea_nil)))))
abbrev g__law_drawn_1 : En → SR := (setS 1 ((callI 2 (F__law_take) 0 (aCons (kI 4) aNil))))
abbrev g__law_drawn_2 : En → SR := (setS 2 ((op2 subD (oOfV ((vOfE (callI 2 (F__law_take) 0 (aCons (kI 9) aNil))))) (oOfV (kI 4)))))
abbrev g__law_drawn_3 : En → SR := (retS ((iteE ((tst (op2 (cmpD fun i j => decide (i < j)) (nmO 1) (oOfV (kI 2))))) ((eOfV ((tupE (aCons ((nmV 2)) (aCons (kI 1) aNil)))))) ((iteE ((tst (op2 eqD (nmO 1) (oOfV (kI 2))))) ((callF 2 (F__law_frac) (aCons ((nmV 2)) (aCons ((vOfE (op2 addD (oOfV (kI 1)) (oOfV ((vOfE (callI 2 (F__law_take) 0 (aCons (kI 5) aNil)))))))) aNil)))) ((eOfV ((tupE (aCons ((vOfE (op2 subD (oOfV ((vOfE (callI 2 (F__law_take) 0 (aCons (kI 3) aNil))))) (oOfV (kI 1))))) (aCons (kI 1) aNil)))))))))))
def g__law_drawn : En → SR := (seqS g__law_drawn_1 (seqS g__law_drawn_2 g__law_drawn_3))
def F__law_drawn : Sl → List D → FR := fnF 3 true g__law_drawn
set_option maxRecDepth 100000 in
theorem ok__law_drawn : FnV P w K mg base E.C 2 E.d__law_drawn.f E.d__law_drawn.fd ["state"] true F__law_drawn :=
  fnV_of E.d__law_drawn.F sc__law_drawn true [0] rfl (fun _ => ⟨by decide, by decide⟩) fun cdv A outer s H X σ₀ hr G => by
    exact (eb_cons
  (es_set (i := 1) G rfl (by first | exact .inl rfl | exact .inr rfl) (show (1 : Nat) ∉ ([0] : List Nat) by decide) (ev_callI G (ok__law_take E) (hr.mono (by decide)) (by rfl) E.d__law_take.m E.d__law_take.F.kp E.d__law_take.b (i := 0) rfl (by first | exact .inl rfl | exact .inr (.inl rfl) | exact .inr (.inr rfl)) (ea_cons ev_int ea_nil))) (eb_cons
  (es_set (i := 2) G rfl (by first | exact .inl rfl | exact .inr rfl) (show (2 : Nat) ∉ ([0] : List Nat) by decide) (ev_sub (EvV.toO (EvE.toV (ev_callI G (ok__law_take E) (hr.mono (by decide)) (by rfl) E.d__law_take.m E.d__law_take.F.kp E.d__law_take.b (i := 0) rfl (by first | exact .inl rfl | exact .inr (.inl rfl) | exact .inr (.inr rfl)) (ea_cons ev_int ea_nil)))) (EvV.toO ev_int))) (eb_one (es_ret (ev_ite (et_cmp (cLt) (ev_nameO (i := 1) rfl (by first | exact .inl rfl | exact .inr (.inl rfl) | exact .inr (.inr rfl))) (EvV.toO ev_int)) (EvV.toE (ev_tup (ea_cons (ev_name (i := 2) rfl (by first | exact .inl rfl | exact .inr (.inl rfl) | exact .inr (.inr rfl))) (ea_cons ev_int ea_nil)))) (ev_ite (et_cmp (cEq G hr) (ev_nameO (i := 1) rfl (by first | exact .inl rfl | exact .inr (.inl rfl) | exact .inr (.inr rfl))) (EvV.toO ev_int)) (ev_call G (ok__law_frac E) (hr.mono (by decide)) (by rfl) E.d__law_frac.m E.d__law_frac.F.kp E.d__law_frac.b (ea_cons (ev_name (i := 2) rfl (by first | exact .inl rfl | exact .inr (.inl rfl) | exact .inr (.inr rfl))) (ea_cons (EvE.toV (ev_add G (EvV.toO ev_int) (EvV.toO (EvE.toV (ev_callI G (ok__law_take E) (hr.mono (by decide)) (by rfl) E.d__law_take.m E.d__law_take.F.kp E.d__law_take.b (i := 0) rfl (by first | exact .inl rfl | exact .inr (.inl rfl) | exact .inr (.inr rfl)) (ea_cons ev_int ea_nil)))))) ea_nil))) (EvV.toE (ev_tup (ea_cons (EvE.toV (ev_sub (EvV.toO (EvE.toV (ev_callI G (ok__law_take E) (hr.mono (by decide)) (by rfl) E.d__law_take.m E.d__law_take.F.kp E.d__law_take.b (i := 0) rfl (by first | exact .inl rfl | exact .inr (.inl rfl) | exact .inr (.inr rfl)) (ea_cons ev_int ea_nil)))) (EvV.toO ev_int))) (ea_cons ev_int ea_nil))))))))))
abbrev g_is_ratio_1 : En → SR := (iteS (orT (notT (tru (oOfV ((vOfE (op1 (isiD "tuple") (nmO 0))))))) (orT (tst (op2 neD (oOfV ((vOfE (op1 lenD (nmO 0))))) (oOfV (kI 2)))) (orT (notT (tru (oOfV ((vOfE (callF 1 (F_is_integer) (aCons ((vOfE (op2 idxD (nmO 0) (oOfV (kI 0))))) aNil))))))) (notT (tru (oOfV ((vOfE (callF 1 (F_is_integer) (aCons ((vOfE (op2 idxD (nmO 0) (oOfV (kI 1))))) aNil)))))))))) (retS ((eOfV (kB false)))) passS)
abbrev g_is_ratio_2 : En → SR := (retS ((eOfV ((andV ((vOfE (op2 (cmpD fun i j => decide (j < i)) (oOfV ((vOfE (op2 idxD (nmO 0) (oOfV (kI 1)))))) (oOfV (kI 0))))) ((vOfE (op2 eqD (oOfV ((vOfE (callF 2 (F_greatest_common) (aCons ((vOfE (op2 idxD (nmO 0) (oOfV (kI 0))))) (aCons ((vOfE (op2 idxD (nmO 0) (oOfV (kI 1))))) aNil)))))) (oOfV (kI 1))))))))))
def g_is_ratio : En → SR := (seqS g_is_ratio_1 g_is_ratio_2)
def F_is_ratio : Sl → List D → FR := fnF 1 false g_is_ratio
set_option maxRecDepth 100000 in
theorem ok_is_ratio : FnV P w K mg base E.C 2 E.d_is_ratio.f E.d_is_ratio.fd ["value"] false F_is_ratio :=
  fnV_of E.d_is_ratio.F sc_is_ratio false [] rfl (fun h => nomatch h) fun cdv A outer s H X σ₀ hr G => by
    exact (eb_cons
  (es_if (EvW.t (ew_or (et_not (et_tru G (EvV.toO (EvE.toV (ev_isi G (T := "tuple") (by decide) (by decide +kernel) (by rfl) E.b_isinstance (by rfl) E.b_tuple (ev_nameO (i := 0) rfl (by first | exact .inl rfl | exact .inr (.inl rfl) | exact .inr (.inr rfl)))))))) (ew_or (et_cmp (cNe G hr) (EvV.toO (EvE.toV (ev_len G (by rfl) E.b_len (ev_nameO (i := 0) rfl (by first | exact .inl rfl | exact .inr (.inl rfl) | exact .inr (.inr rfl)))))) (EvV.toO ev_int)) (ew_or (et_not (et_tru G (EvV.toO (EvE.toV (ev_call G (ok_is_integer E) (hr.mono (by decide)) (by rfl) E.d_is_integer.m E.d_is_integer.F.kp E.d_is_integer.b (ea_cons (EvE.toV (ev_idx G hr (ev_nameO (i := 0) rfl (by first | exact .inl rfl | exact .inr (.inl rfl) | exact .inr (.inr rfl))) (EvV.toO ev_int))) ea_nil)))))) (ew_or1 (et_not (et_tru G (EvV.toO (EvE.toV (ev_call G (ok_is_integer E) (hr.mono (by decide)) (by rfl) E.d_is_integer.m E.d_is_integer.F.kp E.d_is_integer.b (ea_cons (EvE.toV (ev_idx G hr (ev_nameO (i := 0) rfl (by first | exact .inl rfl | exact .inr (.inl rfl) | exact .inr (.inr rfl))) (EvV.toO ev_int))) ea_nil))))))))))) (eb_one (es_ret (EvV.toE ev_bl))) eb_nil) (eb_one (es_ret (EvV.toE (ev_and (EvE.toV (ev_cmp (cGt) (EvV.toO (EvE.toV (ev_idx G hr (ev_nameO (i := 0) rfl (by first | exact .inl rfl | exact .inr (.inl rfl) | exact .inr (.inr rfl))) (EvV.toO ev_int)))) (EvV.toO ev_int))) (ev_one (EvE.toV (ev_cmp (cEq G hr) (EvV.toO (EvE.toV (ev_call G (ok_greatest_common E) (hr.mono (by decide)) (by rfl) E.d_greatest_common.m E.d_greatest_common.F.kp E.d_greatest_common.b (ea_cons (EvE.toV (ev_idx G hr (ev_nameO (i := 0) rfl (by first | exact .inl rfl | exact .inr (.inl rfl) | exact .inr (.inr rfl))) (EvV.toO ev_int))) (ea_cons (EvE.toV (ev_idx G hr (ev_nameO (i := 0) rfl (by first | exact .inl rfl | exact .inr (.inl rfl) | exact .inr (.inr rfl))) (EvV.toO ev_int))) ea_nil))))) (EvV.toO ev_int)))))))))
abbrev g_lowest_1 : En → SR := (setS 2 ((callF 2 (F_greatest_common) (aCons ((nmV 0)) (aCons ((nmV 1)) aNil)))))
abbrev g_lowest_2 : En → SR := (iteS (tst (op2 (cmpD fun i j => decide (i < j)) (nmO 1) (oOfV (kI 0)))) (setS 2 ((op1 negD (nmO 2)))) passS)
abbrev g_lowest_3 : En → SR := (retS ((eOfV ((tupE (aCons ((vOfE (op2 fdivD (nmO 0) (nmO 2)))) (aCons ((vOfE (op2 fdivD (nmO 1) (nmO 2)))) aNil)))))))
def g_lowest : En → SR := (seqS g_lowest_1 (seqS g_lowest_2 g_lowest_3))
def F_lowest : Sl → List D → FR := fnF 3 false g_lowest
set_option maxRecDepth 100000 in
theorem ok_lowest : FnV P w K mg base E.C 2 E.d_lowest.f E.d_lowest.fd ["n", "d"] false F_lowest :=
  fnV_of E.d_lowest.F sc_lowest false [] rfl (fun h => nomatch h) fun cdv A outer s H X σ₀ hr G => by
    exact (eb_cons
  (es_set (i := 2) G rfl (by first | exact .inl rfl | exact .inr rfl) (show (2 : Nat) ∉ ([] : List Nat) by decide) (ev_call G (ok_greatest_common E) (hr.mono (by decide)) (by rfl) E.d_greatest_common.m E.d_greatest_common.F.kp E.d_greatest_common.b (ea_cons (ev_name (i := 0) rfl (by first | exact .inl rfl | exact .inr (.inl rfl) | exact .inr (.inr rfl))) (ea_cons (ev_name (i := 1) rfl (by first | exact .inl rfl | exact .inr (.inl rfl) | exact .inr (.inr rfl))) ea_nil)))) (eb_cons
  (es_if (et_cmp (cLt) (ev_nameO (i := 1) rfl (by first | exact .inl rfl | exact .inr (.inl rfl) | exact .inr (.inr rfl))) (EvV.toO ev_int)) (eb_one (es_set (i := 2) G rfl (by first | exact .inl rfl | exact .inr rfl) (show (2 : Nat) ∉ ([] : List Nat) by decide) (ev_neg (ev_nameO (i := 2) rfl (by first | exact .inl rfl | exact .inr (.inl rfl) | exact .inr (.inr rfl)))))) eb_nil) (eb_one (es_ret (EvV.toE (ev_tup (ea_cons (EvE.toV (ev_fdiv (ev_nameO (i := 0) rfl (by first | exact .inl rfl | exact .inr (.inl rfl) | exact .inr (.inr rfl))) (ev_nameO (i := 2) rfl (by first | exact .inl rfl | exact .inr (.inl rfl) | exact .inr (.inr rfl))))) (ea_cons (EvE.toV (ev_fdiv (ev_nameO (i := 1) rfl (by first | exact .inl rfl | exact .inr (.inl rfl) | exact .inr (.inr rfl))) (ev_nameO (i := 2) rfl (by first | exact .inl rfl | exact .inr (.inl rfl) | exact .inr (.inr rfl))))) ea_nil))))))))
def g_check_count : En → SR := (iteS (orT (notT (tru (oOfV ((vOfE (callF 1 (F_is_integer) (aCons ((nmV 0)) aNil))))))) (notT (tst (opC (cmpD fun i j => decide (i ≤ j)) (cmpD fun i j => decide (i ≤ j)) (oOfV (kI 0)) (nmO 0) (oOfV (kI 12)))))) (raiseS 1) passS)
def F_check_count : Sl → List D → FR := fnF 1 false g_check_count
set_option maxRecDepth 100000 in
theorem ok_check_count : FnV P w K mg base E.C 2 E.d_check_count.f E.d_check_count.fd ["n"] false F_check_count :=
  fnV_of E.d_check_count.F sc_check_count false [] rfl (fun h => nomatch h) fun cdv A outer s H X σ₀ hr G => by
    exact (eb_one (es_if (EvW.t (ew_or (et_not (et_tru G (EvV.toO (EvE.toV (ev_call G (ok_is_integer E) (hr.mono (by decide)) (by rfl) E.d_is_integer.m E.d_is_integer.F.kp E.d_is_integer.b (ea_cons (ev_name (i := 0) rfl (by first | exact .inl rfl | exact .inr (.inl rfl) | exact .inr (.inr rfl))) ea_nil)))))) (ew_or1 (et_not (et_chain (bLe) (cLe) (EvV.toO ev_int) (ev_nameO (i := 0) rfl (by first | exact .inl rfl | exact .inr (.inl rfl) | exact .inr (.inr rfl))) (EvV.toO (ev_gint (by rfl) E.c_MOST_STEPS))))))) (eb_one (es_raise (c := 1) G (E.x_Malformed.excC rfl) (by rfl))) eb_nil))
abbrev cp__law_poly_add_1 : En → R (D × Nat) := (comp (rg1 (aCons ((nmV 2)) aNil)) (nameG 5) (yesT) ((eOfV ((vOfE (callF 2 (F__law_add) (aCons ((vOfE (op2 idxD (nmO 3) (nmO 5)))) (aCons ((vOfE (op2 idxD (nmO 4) (nmO 5)))) aNil))))))) 0 [5])
abbrev g__law_poly_add_1 : En → SR := (setS 2 ((op2 max2D (oOfV ((vOfE (op1 lenD (nmO 0))))) (oOfV ((vOfE (op1 lenD (nmO 1))))))))
abbrev g__law_poly_add_2 : En → SR := (parS 3 4 (lCons ((op2 addD (oOfV ((vOfE (op1 lisD (nmO 0))))) (oOfV ((vOfE (op2 mulD (oOfV ((vOfE (lstE (aCons ((tupE (aCons (kI 0) (aCons (kI 1) aNil)))) aNil))))) (oOfV ((vOfE (op2 subD (nmO 2) (oOfV ((vOfE (op1 lenD (nmO 0))))))))))))))) (lCons ((op2 addD (oOfV ((vOfE (op1 lisD (nmO 1))))) (oOfV ((vOfE (op2 mulD (oOfV ((vOfE (lstE (aCons ((tupE (aCons (kI 0) (aCons (kI 1) aNil)))) aNil))))) (oOfV ((vOfE (op2 subD (nmO 2) (oOfV ((vOfE (op1 lenD (nmO 1))))))))))))))) lNil)))
abbrev g__law_poly_add_3 : En → SR := (retS ((callF 1 (F__law_trimmed) (aCons ((vOfE cp__law_poly_add_1)) aNil))))
def g__law_poly_add : En → SR := (seqS g__law_poly_add_1 (seqS g__law_poly_add_2 g__law_poly_add_3))
def F__law_poly_add : Sl → List D → FR := fnF 6 false g__law_poly_add
set_option maxRecDepth 100000 in
theorem ok__law_poly_add : FnV P w K mg base E.C 3 E.d__law_poly_add.f E.d__law_poly_add.fd ["f", "g"] false F__law_poly_add :=
  fnV_of E.d__law_poly_add.F sc__law_poly_add false [] rfl (fun h => nomatch h) fun cdv A outer s H X σ₀ hr G => by
    exact (eb_cons
  (es_set (i := 2) G rfl (by first | exact .inl rfl | exact .inr rfl) (show (2 : Nat) ∉ ([] : List Nat) by decide) (ev_max2 G (by rfl) E.b_max (EvV.toO (EvE.toV (ev_len G (by rfl) E.b_len (ev_nameO (i := 0) rfl (by first | exact .inl rfl | exact .inr (.inl rfl) | exact .inr (.inr rfl)))))) (EvV.toO (EvE.toV (ev_len G (by rfl) E.b_len (ev_nameO (i := 1) rfl (by first | exact .inl rfl | exact .inr (.inl rfl) | exact .inr (.inr rfl)))))))) (eb_cons
  (es_parC (i := 3) (j := 4) G rfl rfl (by decide) (show (3 : Nat) ∉ ([] : List Nat) by decide) (show (4 : Nat) ∉ ([] : List Nat) by decide) (by first | exact .inl rfl | exact .inr rfl) (by first | exact .inl rfl | exact .inr rfl) (el_cons (ev_add G (EvV.toO (EvE.toV (ev_list G (by rfl) E.b_list (ev_nameO (i := 0) rfl (by first | exact .inl rfl | exact .inr (.inl rfl) | exact .inr (.inr rfl)))))) (EvV.toO (EvE.toV (ev_mul G (EvV.toO (EvE.toV (ev_lst (ea_cons (ev_tup (ea_cons ev_int (ea_cons ev_int ea_nil))) ea_nil)))) (EvV.toO (EvE.toV (ev_sub (ev_nameO (i := 2) rfl (by first | exact .inl rfl | exact .inr (.inl rfl) | exact .inr (.inr rfl))) (EvV.toO (EvE.toV (ev_len G (by rfl) E.b_len (ev_nameO (i := 0) rfl (by first | exact .inl rfl | exact .inr (.inl rfl) | exact .inr (.inr rfl))))))))))))) (el_cons (ev_add G (EvV.toO (EvE.toV (ev_list G (by rfl) E.b_list (ev_nameO (i := 1) rfl (by first | exact .inl rfl | exact .inr (.inl rfl) | exact .inr (.inr rfl)))))) (EvV.toO (EvE.toV (ev_mul G (EvV.toO (EvE.toV (ev_lst (ea_cons (ev_tup (ea_cons ev_int (ea_cons ev_int ea_nil))) ea_nil)))) (EvV.toO (EvE.toV (ev_sub (ev_nameO (i := 2) rfl (by first | exact .inl rfl | exact .inr (.inl rfl) | exact .inr (.inr rfl))) (EvV.toO (EvE.toV (ev_len G (by rfl) E.b_len (ev_nameO (i := 1) rfl (by first | exact .inl rfl | exact .inr (.inl rfl) | exact .inr (.inr rfl))))))))))))) el_nil))) (eb_one (es_ret (ev_call G (ok__law_trimmed E) (hr.mono (by decide)) (by rfl) E.d__law_trimmed.m E.d__law_trimmed.F.kp E.d__law_trimmed.b (ea_cons (EvE.toV (ev_lc (own := [((PySem.Str.ofString "k"), 5)]) (vs := [5]) (ws := [5]) 0 G (ei_rg1 (by rfl) E.b_range (ea_cons (ev_name (i := 2) rfl (by first | exact .inl rfl | exact .inr (.inl rfl) | exact .inr (.inr rfl))) ea_nil)) (blkOk_by (by kernel_rfl)) rfl (by decide) (fun _ _ _ _ _ => blkG G fun G => (eg_name (i := 5) G rfl (by first | exact .inl rfl | exact .inr rfl) (show (5 : Nat) ∉ ([] : List Nat) by decide))) (fun _ _ _ _ _ => blkT G fun G => ept_nil) (fun _ _ _ _ _ => blkE G fun G => (EvV.toE (EvE.toV (ev_call G (ok__law_add E) (hr.mono (by decide)) (by rfl) E.d__law_add.m E.d__law_add.F.kp E.d__law_add.b (ea_cons (EvE.toV (ev_idx G hr (ev_nameO (i := 3) rfl (by first | exact .inl rfl | exact .inr (.inl rfl) | exact .inr (.inr rfl))) (ev_nameO (i := 5) rfl (by first | exact .inl rfl | exact .inr (.inl rfl) | exact .inr (.inr rfl))))) (ea_cons (EvE.toV (ev_idx G hr (ev_nameO (i := 4) rfl (by first | exact .inl rfl | exact .inr (.inl rfl) | exact .inr (.inr rfl))) (ev_nameO (i := 5) rfl (by first | exact .inl rfl | exact .inr (.inl rfl) | exact .inr (.inr rfl))))) ea_nil)))))))) ea_nil))))))
abbrev cp__law_poly_times_1 : En → R (D × Nat) := (comp (rg1 (aCons ((vOfE (op2 addD (oOfV ((vOfE (op1 lenD (nmO 0))))) (oOfV ((vOfE (op1 lenD (nmO 1)))))))) aNil)) (nameG 5) (yesT) ((eOfV ((tupE (aCons (kI 0) (aCons (kI 1) aNil)))))) 0 [5])
abbrev lb__law_poly_times_1 : En → SR := (sItS 2 ((vOfE (callF 2 (F__law_add) (aCons ((vOfE (op2 idxD (nmO 2) (oOfV ((vOfE (op2 addD (nmO 3) (nmO 4)))))))) (aCons ((vOfE (callF 2 (F__law_times) (aCons ((vOfE (op2 idxD (nmO 0) (nmO 3)))) (aCons ((vOfE (op2 idxD (nmO 1) (nmO 4)))) aNil))))) aNil))))) ((vOfE (op2 addD (nmO 3) (nmO 4)))))
abbrev lb__law_poly_times_2 : En → SR := (forS (rg1 (aCons ((vOfE (op1 lenD (nmO 1)))) aNil)) (nameG 4) lb__law_poly_times_1)
abbrev g__law_poly_times_1 : En → SR := (setS 2 cp__law_poly_times_1)
abbrev g__law_poly_times_2 : En → SR := (forS (rg1 (aCons ((vOfE (op1 lenD (nmO 0)))) aNil)) (nameG 3) lb__law_poly_times_2)
abbrev g__law_poly_times_3 : En → SR := (retS ((callF 1 (F__law_trimmed) (aCons ((nmV 2)) aNil))))
def g__law_poly_times : En → SR := (seqS g__law_poly_times_1 (seqS g__law_poly_times_2 g__law_poly_times_3))
def F__law_poly_times : Sl → List D → FR := fnF 6 false g__law_poly_times
set_option maxRecDepth 100000 in
theorem ok__law_poly_times : FnV P w K mg base E.C 3 E.d__law_poly_times.f E.d__law_poly_times.fd ["f", "g"] false F__law_poly_times :=
  fnV_of E.d__law_poly_times.F sc__law_poly_times false [] rfl (fun h => nomatch h) fun cdv A outer s H X σ₀ hr G => by
    exact (eb_cons
  (es_setLc (i := 2) (own := [((PySem.Str.ofString "k"), 5)]) (vs := [5]) (ws := [5]) 0 G rfl rfl (show (2 : Nat) ∉ ([] : List Nat) by decide) (sw_true rfl rfl rfl rfl) (ei_rg1 (by rfl) E.b_range (ea_cons (EvE.toV (ev_add G (EvV.toO (EvE.toV (ev_len G (by rfl) E.b_len (ev_nameO (i := 0) rfl (by first | exact .inl rfl | exact .inr (.inl rfl) | exact .inr (.inr rfl)))))) (EvV.toO (EvE.toV (ev_len G (by rfl) E.b_len (ev_nameO (i := 1) rfl (by first | exact .inl rfl | exact .inr (.inl rfl) | exact .inr (.inr rfl)))))))) ea_nil)) (blkOk_by (by kernel_rfl)) rfl (by decide) (fun _ _ _ _ _ => blkG G fun G => (eg_name (i := 5) G rfl (by first | exact .inl rfl | exact .inr rfl) (show (5 : Nat) ∉ ([] : List Nat) by decide))) (fun _ _ _ _ _ => blkT G fun G => ept_nil) (fun _ _ _ _ _ => blkE G fun G => (EvV.toE (ev_tup (ea_cons ev_int (ea_cons ev_int ea_nil)))))) (eb_cons
  (es_for G (passes_of rfl) (ei_rg1 (by rfl) E.b_range (ea_cons (EvE.toV (ev_len G (by rfl) E.b_len (ev_nameO (i := 0) rfl (by first | exact .inl rfl | exact .inr (.inl rfl) | exact .inr (.inr rfl))))) ea_nil)) (eg_name (i := 3) G rfl (by first | exact .inl rfl | exact .inr rfl) (show (3 : Nat) ∉ ([] : List Nat) by decide)) (eb_one (es_for G (passes_of rfl) (ei_rg1 (by rfl) E.b_range (ea_cons (EvE.toV (ev_len G (by rfl) E.b_len (ev_nameO (i := 1) rfl (by first | exact .inl rfl | exact .inr (.inl rfl) | exact .inr (.inr rfl))))) ea_nil)) (eg_name (i := 4) G rfl (by first | exact .inl rfl | exact .inr rfl) (show (4 : Nat) ∉ ([] : List Nat) by decide)) (eb_one (es_sub (i := 2) G hr rfl (by first | exact .inl rfl | exact .inr (.inl rfl) | exact .inr (.inr rfl)) (EvE.toV (ev_call G (ok__law_add E) (hr.mono (by decide)) (by rfl) E.d__law_add.m E.d__law_add.F.kp E.d__law_add.b (ea_cons (EvE.toV (ev_idx G hr (ev_nameO (i := 2) rfl (by first | exact .inl rfl | exact .inr (.inl rfl) | exact .inr (.inr rfl))) (EvV.toO (EvE.toV (ev_add G (ev_nameO (i := 3) rfl (by first | exact .inl rfl | exact .inr (.inl rfl) | exact .inr (.inr rfl))) (ev_nameO (i := 4) rfl (by first | exact .inl rfl | exact .inr (.inl rfl) | exact .inr (.inr rfl)))))))) (ea_cons (EvE.toV (ev_call G (ok__law_times E) (hr.mono (by decide)) (by rfl) E.d__law_times.m E.d__law_times.F.kp E.d__law_times.b (ea_cons (EvE.toV (ev_idx G hr (ev_nameO (i := 0) rfl (by first | exact .inl rfl | exact .inr (.inl rfl) | exact .inr (.inr rfl))) (ev_nameO (i := 3) rfl (by first | exact .inl rfl | exact .inr (.inl rfl) | exact .inr (.inr rfl))))) (ea_cons (EvE.toV (ev_idx G hr (ev_nameO (i := 1) rfl (by first | exact .inl rfl | exact .inr (.inl rfl) | exact .inr (.inr rfl))) (ev_nameO (i := 4) rfl (by first | exact .inl rfl | exact .inr (.inl rfl) | exact .inr (.inr rfl))))) ea_nil)))) ea_nil)))) (EvE.toV (ev_add G (ev_nameO (i := 3) rfl (by first | exact .inl rfl | exact .inr (.inl rfl) | exact .inr (.inr rfl))) (ev_nameO (i := 4) rfl (by first | exact .inl rfl | exact .inr (.inl rfl) | exact .inr (.inr rfl)))))))))) (eb_one (es_ret (ev_call G (ok__law_trimmed E) (hr.mono (by decide)) (by rfl) E.d__law_trimmed.m E.d__law_trimmed.F.kp E.d__law_trimmed.b (ea_cons (ev_name (i := 2) rfl (by first | exact .inl rfl | exact .inr (.inl rfl) | exact .inr (.inr rfl))) ea_nil))))))
abbrev cp__law_poly_scaled_1 : En → R (D × Nat) := (comp (seqI' ((nmV 0))) (nameG 2) (yesT) ((eOfV ((vOfE (callF 2 (F__law_times) (aCons ((nmV 2)) (aCons ((nmV 1)) aNil))))))) 0 [2])
def g__law_poly_scaled : En → SR := (retS ((callF 1 (F__law_trimmed) (aCons ((vOfE cp__law_poly_scaled_1)) aNil))))
def F__law_poly_scaled : Sl → List D → FR := fnF 3 false g__law_poly_scaled
set_option maxRecDepth 100000 in
theorem ok__law_poly_scaled : FnV P w K mg base E.C 3 E.d__law_poly_scaled.f E.d__law_poly_scaled.fd ["f", "c"] false F__law_poly_scaled :=
  fnV_of E.d__law_poly_scaled.F sc__law_poly_scaled false [] rfl (fun h => nomatch h) fun cdv A outer s H X σ₀ hr G => by
    exact (eb_one (es_ret (ev_call G (ok__law_trimmed E) (hr.mono (by decide)) (by rfl) E.d__law_trimmed.m E.d__law_trimmed.F.kp E.d__law_trimmed.b (ea_cons (EvE.toV (ev_lc (own := [((PySem.Str.ofString "a"), 2)]) (vs := [2]) (ws := [2]) 0 G (ei_seq G (ev_name (i := 0) rfl (by first | exact .inl rfl | exact .inr (.inl rfl) | exact .inr (.inr rfl)))) (blkOk_by (by kernel_rfl)) rfl (by decide) (fun _ _ _ _ _ => blkG G fun G => (eg_name (i := 2) G rfl (by first | exact .inl rfl | exact .inr rfl) (show (2 : Nat) ∉ ([] : List Nat) by decide))) (fun _ _ _ _ _ => blkT G fun G => ept_nil) (fun _ _ _ _ _ => blkE G fun G => (EvV.toE (EvE.toV (ev_call G (ok__law_times E) (hr.mono (by decide)) (by rfl) E.d__law_times.m E.d__law_times.F.kp E.d__law_times.b (ea_cons (ev_name (i := 2) rfl (by first | exact .inl rfl | exact .inr (.inl rfl) | exact .inr (.inr rfl))) (ea_cons (ev_name (i := 1) rfl (by first | exact .inl rfl | exact .inr (.inl rfl) | exact .inr (.inr rfl))) ea_nil)))))))) ea_nil))))
abbrev cp__law_path_moments_1 : En → R (D × Nat) := (comp (rg1 (aCons ((vOfE (op2 addD (oOfV ((vOfE (op1 lenD (nmO 3))))) (oOfV (kI 1))))) aNil)) (nameG 7) (yesT) ((eOfV ((tupE (aCons (kI 0) (aCons (kI 1) aNil)))))) 0 [7])
abbrev lb__law_path_moments_1 : En → SR := (seqS
  (sItS 6 ((vOfE (callF 2 (F__law_add) (aCons ((vOfE (op2 idxD (nmO 6) (oOfV ((vOfE (op2 addD (nmO 7) (oOfV (kI 1))))))))) (aCons ((vOfE (op2 idxD (nmO 3) (nmO 7)))) aNil))))) ((vOfE (op2 addD (nmO 7) (oOfV (kI 1)))))) (seqS
  (iteS (tst (op2 (cmpD fun i j => decide (i < j)) (nmO 7) (oOfV ((vOfE (op1 lenD (nmO 0))))))) (sItS 6 ((vOfE (callF 2 (F__law_add) (aCons ((vOfE (op2 idxD (nmO 6) (nmO 7)))) (aCons ((vOfE (callF 2 (F__law_times) (aCons ((vOfE (op2 idxD (nmO 3) (nmO 7)))) (aCons ((vOfE (op2 idxD (nmO 0) (nmO 7)))) aNil))))) aNil))))) ((nmV 7))) passS) (iteS (andT (tst (op2 (cmpD fun i j => decide (j < i)) (nmO 7) (oOfV (kI 0)))) (tst (op2 (cmpD fun i j => decide (i < j)) (oOfV ((vOfE (op2 subD (nmO 7) (oOfV (kI 1)))))) (oOfV ((vOfE (op1 lenD (nmO 1)))))))) (sItS 6 ((vOfE (callF 2 (F__law_add) (aCons ((vOfE (op2 idxD (nmO 6) (oOfV ((vOfE (op2 subD (nmO 7) (oOfV (kI 1))))))))) (aCons ((vOfE (callF 2 (F__law_times) (aCons ((vOfE (op2 idxD (nmO 3) (nmO 7)))) (aCons ((vOfE (op2 idxD (nmO 1) (oOfV ((vOfE (op2 subD (nmO 7) (oOfV (kI 1))))))))) aNil))))) aNil))))) ((vOfE (op2 subD (nmO 7) (oOfV (kI 1)))))) passS)))
abbrev lb__law_path_moments_2 : En → SR := (seqS
  (setS 6 cp__law_path_moments_1) (seqS
  (forS (rg1 (aCons ((vOfE (op1 lenD (nmO 3)))) aNil)) (nameG 7) lb__law_path_moments_1) (seqS
  (setS 3 ((op1 lisD (nmO 6)))) (appS 4 ((vOfE (op2 idxD (nmO 3) (oOfV (kI 0)))))))))
abbrev g__law_path_moments_1 : En → SR := (setS 3 ((lstE (aCons ((tupE (aCons (kI 1) (aCons (kI 1) aNil)))) aNil))))
abbrev g__law_path_moments_2 : En → SR := (setS 4 ((lstE aNil)))
abbrev g__law_path_moments_3 : En → SR := (forS (rg1 (aCons ((nmV 2)) aNil)) (nameG 5) lb__law_path_moments_2)
abbrev g__law_path_moments_4 : En → SR := (retS ((op1 tupD (nmO 4))))
def g__law_path_moments : En → SR := (seqS g__law_path_moments_1 (seqS g__law_path_moments_2 (seqS g__law_path_moments_3 g__law_path_moments_4)))
def F__law_path_moments : Sl → List D → FR := fnF 8 false g__law_path_moments
set_option maxRecDepth 100000 in
theorem ok__law_path_moments : FnV P w K mg base E.C 3 E.d__law_path_moments.f E.d__law_path_moments.fd ["a", "b", "n"] false F__law_path_moments :=
  fnV_of E.d__law_path_moments.F sc__law_path_moments false [] rfl (fun h => nomatch h) fun cdv A outer s H X σ₀ hr G => by
    exact (eb_cons
  (es_set (i := 3) G rfl (by first | exact .inl rfl | exact .inr rfl) (show (3 : Nat) ∉ ([] : List Nat) by decide) (ev_lst (ea_cons (ev_tup (ea_cons ev_int (ea_cons ev_int ea_nil))) ea_nil))) (eb_cons
  (es_set (i := 4) G rfl (by first | exact .inl rfl | exact .inr rfl) (show (4 : Nat) ∉ ([] : List Nat) by decide) (ev_lst ea_nil)) (eb_cons
  (es_for G (passes_of rfl) (ei_rg1 (by rfl) E.b_range (ea_cons (ev_name (i := 2) rfl (by first | exact .inl rfl | exact .inr (.inl rfl) | exact .inr (.inr rfl))) ea_nil)) (eg_name (i := 5) G rfl (by first | exact .inl rfl | exact .inr rfl) (show (5 : Nat) ∉ ([] : List Nat) by decide)) (eb_cons
  (es_setLc (i := 6) (own := [((PySem.Str.ofString "h"), 7)]) (vs := [7]) (ws := [7]) 0 G rfl rfl (show (6 : Nat) ∉ ([] : List Nat) by decide) (sw_true rfl rfl rfl rfl) (ei_rg1 (by rfl) E.b_range (ea_cons (EvE.toV (ev_add G (EvV.toO (EvE.toV (ev_len G (by rfl) E.b_len (ev_nameO (i := 3) rfl (by first | exact .inl rfl | exact .inr (.inl rfl) | exact .inr (.inr rfl)))))) (EvV.toO ev_int))) ea_nil)) (blkOk_by (by kernel_rfl)) rfl (by decide) (fun _ _ _ _ _ => blkG G fun G => (eg_name (i := 7) G rfl (by first | exact .inl rfl | exact .inr rfl) (show (7 : Nat) ∉ ([] : List Nat) by decide))) (fun _ _ _ _ _ => blkT G fun G => ept_nil) (fun _ _ _ _ _ => blkE G fun G => (EvV.toE (ev_tup (ea_cons ev_int (ea_cons ev_int ea_nil)))))) (eb_cons
  (es_for G (passes_of rfl) (ei_rg1 (by rfl) E.b_range (ea_cons (EvE.toV (ev_len G (by rfl) E.b_len (ev_nameO (i := 3) rfl (by first | exact .inl rfl | exact .inr (.inl rfl) | exact .inr (.inr rfl))))) ea_nil)) (eg_name (i := 7) G rfl (by first | exact .inl rfl | exact .inr rfl) (show (7 : Nat) ∉ ([] : List Nat) by decide)) (eb_cons
  (es_sub (i := 6) G hr rfl (by first | exact .inl rfl | exact .inr (.inl rfl) | exact .inr (.inr rfl)) (EvE.toV (ev_call G (ok__law_add E) (hr.mono (by decide)) (by rfl) E.d__law_add.m E.d__law_add.F.kp E.d__law_add.b (ea_cons (EvE.toV (ev_idx G hr (ev_nameO (i := 6) rfl (by first | exact .inl rfl | exact .inr (.inl rfl) | exact .inr (.inr rfl))) (EvV.toO (EvE.toV (ev_add G (ev_nameO (i := 7) rfl (by first | exact .inl rfl | exact .inr (.inl rfl) | exact .inr (.inr rfl))) (EvV.toO ev_int)))))) (ea_cons (EvE.toV (ev_idx G hr (ev_nameO (i := 3) rfl (by first | exact .inl rfl | exact .inr (.inl rfl) | exact .inr (.inr rfl))) (ev_nameO (i := 7) rfl (by first | exact .inl rfl | exact .inr (.inl rfl) | exact .inr (.inr rfl))))) ea_nil)))) (EvE.toV (ev_add G (ev_nameO (i := 7) rfl (by first | exact .inl rfl | exact .inr (.inl rfl) | exact .inr (.inr rfl))) (EvV.toO ev_int)))) (eb_cons
  (es_if (et_cmp (cLt) (ev_nameO (i := 7) rfl (by first | exact .inl rfl | exact .inr (.inl rfl) | exact .inr (.inr rfl))) (EvV.toO (EvE.toV (ev_len G (by rfl) E.b_len (ev_nameO (i := 0) rfl (by first | exact .inl rfl | exact .inr (.inl rfl) | exact .inr (.inr rfl))))))) (eb_one (es_sub (i := 6) G hr rfl (by first | exact .inl rfl | exact .inr (.inl rfl) | exact .inr (.inr rfl)) (EvE.toV (ev_call G (ok__law_add E) (hr.mono (by decide)) (by rfl) E.d__law_add.m E.d__law_add.F.kp E.d__law_add.b (ea_cons (EvE.toV (ev_idx G hr (ev_nameO (i := 6) rfl (by first | exact .inl rfl | exact .inr (.inl rfl) | exact .inr (.inr rfl))) (ev_nameO (i := 7) rfl (by first | exact .inl rfl | exact .inr (.inl rfl) | exact .inr (.inr rfl))))) (ea_cons (EvE.toV (ev_call G (ok__law_times E) (hr.mono (by decide)) (by rfl) E.d__law_times.m E.d__law_times.F.kp E.d__law_times.b (ea_cons (EvE.toV (ev_idx G hr (ev_nameO (i := 3) rfl (by first | exact .inl rfl | exact .inr (.inl rfl) | exact .inr (.inr rfl))) (ev_nameO (i := 7) rfl (by first | exact .inl rfl | exact .inr (.inl rfl) | exact .inr (.inr rfl))))) (ea_cons (EvE.toV (ev_idx G hr (ev_nameO (i := 0) rfl (by first | exact .inl rfl | exact .inr (.inl rfl) | exact .inr (.inr rfl))) (ev_nameO (i := 7) rfl (by first | exact .inl rfl | exact .inr (.inl rfl) | exact .inr (.inr rfl))))) ea_nil)))) ea_nil)))) (ev_name (i := 7) rfl (by first | exact .inl rfl | exact .inr (.inl rfl) | exact .inr (.inr rfl))))) eb_nil) (eb_one (es_if (EvW.t (ew_and (et_cmp (cGt) (ev_nameO (i := 7) rfl (by first | exact .inl rfl | exact .inr (.inl rfl) | exact .inr (.inr rfl))) (EvV.toO ev_int)) (ew_and1 (et_cmp (cLt) (EvV.toO (EvE.toV (ev_sub (ev_nameO (i := 7) rfl (by first | exact .inl rfl | exact .inr (.inl rfl) | exact .inr (.inr rfl))) (EvV.toO ev_int)))) (EvV.toO (EvE.toV (ev_len G (by rfl) E.b_len (ev_nameO (i := 1) rfl (by first | exact .inl rfl | exact .inr (.inl rfl) | exact .inr (.inr rfl)))))))))) (eb_one (es_sub (i := 6) G hr rfl (by first | exact .inl rfl | exact .inr (.inl rfl) | exact .inr (.inr rfl)) (EvE.toV (ev_call G (ok__law_add E) (hr.mono (by decide)) (by rfl) E.d__law_add.m E.d__law_add.F.kp E.d__law_add.b (ea_cons (EvE.toV (ev_idx G hr (ev_nameO (i := 6) rfl (by first | exact .inl rfl | exact .inr (.inl rfl) | exact .inr (.inr rfl))) (EvV.toO (EvE.toV (ev_sub (ev_nameO (i := 7) rfl (by first | exact .inl rfl | exact .inr (.inl rfl) | exact .inr (.inr rfl))) (EvV.toO ev_int)))))) (ea_cons (EvE.toV (ev_call G (ok__law_times E) (hr.mono (by decide)) (by rfl) E.d__law_times.m E.d__law_times.F.kp E.d__law_times.b (ea_cons (EvE.toV (ev_idx G hr (ev_nameO (i := 3) rfl (by first | exact .inl rfl | exact .inr (.inl rfl) | exact .inr (.inr rfl))) (ev_nameO (i := 7) rfl (by first | exact .inl rfl | exact .inr (.inl rfl) | exact .inr (.inr rfl))))) (ea_cons (EvE.toV (ev_idx G hr (ev_nameO (i := 1) rfl (by first | exact .inl rfl | exact .inr (.inl rfl) | exact .inr (.inr rfl))) (EvV.toO (EvE.toV (ev_sub (ev_nameO (i := 7) rfl (by first | exact .inl rfl | exact .inr (.inl rfl) | exact .inr (.inr rfl))) (EvV.toO ev_int)))))) ea_nil)))) ea_nil)))) (EvE.toV (ev_sub (ev_nameO (i := 7) rfl (by first | exact .inl rfl | exact .inr (.inl rfl) | exact .inr (.inr rfl))) (EvV.toO ev_int))))) eb_nil))))) (eb_cons
  (es_set (i := 3) G rfl (by first | exact .inl rfl | exact .inr rfl) (show (3 : Nat) ∉ ([] : List Nat) by decide) (ev_list G (by rfl) E.b_list (ev_nameO (i := 6) rfl (by first | exact .inl rfl | exact .inr (.inl rfl) | exact .inr (.inr rfl))))) (eb_one (es_app (i := 4) G rfl (by first | exact .inl rfl | exact .inr (.inl rfl) | exact .inr (.inr rfl)) (EvE.toV (ev_idx G hr (ev_nameO (i := 3) rfl (by first | exact .inl rfl | exact .inr (.inl rfl) | exact .inr (.inr rfl))) (EvV.toO ev_int))))))))) (eb_one (es_ret (ev_tuple G (by rfl) E.b_tuple (ev_nameO (i := 4) rfl (by first | exact .inl rfl | exact .inr (.inl rfl) | exact .inr (.inr rfl)))))))))
abbrev cp__law_row_1 : En → R (D × Nat) := (comp (rg1 (aCons ((nmV 1)) aNil)) (nameG 2) (yesT) ((eOfV ((vOfE (callI 1 (F__law_drawn) 0 aNil))))) 0 [2])
def g__law_row : En → SR := (retS ((op1 tupD (oOfV ((vOfE cp__law_row_1))))))
def F__law_row : Sl → List D → FR := fnF 3 true g__law_row
set_option maxRecDepth 100000 in
theorem ok__law_row : FnV P w K mg base E.C 3 E.d__law_row.f E.d__law_row.fd ["state", "n"] true F__law_row :=
  fnV_of E.d__law_row.F sc__law_row true [0] rfl (fun _ => ⟨by decide, by decide⟩) fun cdv A outer s H X σ₀ hr G => by
    exact (eb_one (es_ret (ev_tuple G (by rfl) E.b_tuple (EvV.toO (EvE.toV (ev_lc (own := [((PySem.Str.ofString "k"), 2)]) (vs := [2]) (ws := [2]) 0 G (ei_rg1 (by rfl) E.b_range (ea_cons (ev_name (i := 1) rfl (by first | exact .inl rfl | exact .inr (.inl rfl) | exact .inr (.inr rfl))) ea_nil)) (blkOk_by (by kernel_rfl)) rfl (by decide) (fun _ _ _ _ _ => blkG G fun G => (eg_name (i := 2) G rfl (by first | exact .inl rfl | exact .inr rfl) (show (2 : Nat) ∉ ([] : List Nat) by decide))) (fun _ _ _ _ _ => blkT G fun G => ept_nil) (fun _ _ _ _ _ => blkE G fun G => (EvV.toE (EvE.toV (ev_callI G (ok__law_drawn E) (hr.mono (by decide)) (by rfl) E.d__law_drawn.m E.d__law_drawn.F.kp E.d__law_drawn.b (i := 0) rfl (by first | exact .inl rfl | exact .inr (.inl rfl) | exact .inr (.inr rfl)) ea_nil))))))))))
abbrev cp_check_row_1 : En → R (D × Nat) := (comp (seqI' ((nmV 0))) (nameG 1) (yesT) ((eOfV ((vOfE (callF 1 (F_is_ratio) (aCons ((nmV 1)) aNil)))))) 0 [1])
def g_check_row : En → SR := (iteS (orT (notT (tru (oOfV ((vOfE (op1 (isiD "tuple") (nmO 0))))))) (orT (tst (op2 (cmpD fun i j => decide (j < i)) (oOfV ((vOfE (op1 lenD (nmO 0))))) (oOfV (kI 12)))) (notT (tru (oOfV ((vOfE (op1 allD (oOfV ((vOfE cp_check_row_1))))))))))) (raiseS 1) passS)
def F_check_row : Sl → List D → FR := fnF 2 false g_check_row
set_option maxRecDepth 100000 in
theorem ok_check_row : FnV P w K mg base E.C 3 E.d_check_row.f E.d_check_row.fd ["row"] false F_check_row :=
  fnV_of E.d_check_row.F sc_check_row false [] rfl (fun h => nomatch h) fun cdv A outer s H X σ₀ hr G => by
    exact (eb_one (es_if (EvW.t (ew_or (et_not (et_tru G (EvV.toO (EvE.toV (ev_isi G (T := "tuple") (by decide) (by decide +kernel) (by rfl) E.b_isinstance (by rfl) E.b_tuple (ev_nameO (i := 0) rfl (by first | exact .inl rfl | exact .inr (.inl rfl) | exact .inr (.inr rfl)))))))) (ew_or (et_cmp (cGt) (EvV.toO (EvE.toV (ev_len G (by rfl) E.b_len (ev_nameO (i := 0) rfl (by first | exact .inl rfl | exact .inr (.inl rfl) | exact .inr (.inr rfl)))))) (EvV.toO (ev_gint (by rfl) E.c_MOST_STEPS))) (ew_or1 (et_not (et_tru G (EvV.toO (EvE.toV (ev_all G (by rfl) E.b_all (EvV.toO (EvE.toV (ev_lc (own := [((PySem.Str.ofString "item"), 1)]) (vs := [1]) (ws := [1]) 0 G (ei_seq G (ev_name (i := 0) rfl (by first | exact .inl rfl | exact .inr (.inl rfl) | exact .inr (.inr rfl)))) (blkOk_by (by kernel_rfl)) rfl (by decide) (fun _ _ _ _ _ => blkG G fun G => (eg_name (i := 1) G rfl (by first | exact .inl rfl | exact .inr rfl) (show (1 : Nat) ∉ ([] : List Nat) by decide))) (fun _ _ _ _ _ => blkT G fun G => ept_nil) (fun _ _ _ _ _ => blkE G fun G => (EvV.toE (EvE.toV (ev_call G (ok_is_ratio E) (hr.mono (by decide)) (by rfl) E.d_is_ratio.m E.d_is_ratio.F.kp E.d_is_ratio.b (ea_cons (ev_name (i := 1) rfl (by first | exact .inl rfl | exact .inr (.inl rfl) | exact .inr (.inr rfl))) ea_nil))))))))))))))))) (eb_one (es_raise (c := 1) G (E.x_Malformed.excC rfl) (by rfl))) eb_nil))
abbrev cp_is_polynomial_1 : En → R (D × Nat) := (comp (seqI' ((nmV 0))) (nameG 1) (yesT) ((eOfV ((vOfE (callF 1 (F_is_ratio) (aCons ((nmV 1)) aNil)))))) 0 [1])
abbrev g_is_polynomial_1 : En → SR := (iteS (orT (notT (tru (oOfV ((vOfE (op1 (isiD "tuple") (nmO 0))))))) (orT (tst (op2 (cmpD fun i j => decide (j < i)) (oOfV ((vOfE (op1 lenD (nmO 0))))) (oOfV (kI 61)))) (notT (tru (oOfV ((vOfE (op1 allD (oOfV ((vOfE cp_is_polynomial_1))))))))))) (retS ((eOfV (kB false)))) passS)
abbrev g_is_polynomial_2 : En → SR := (retS ((eOfV ((orV ((vOfE (op2 eqD (oOfV ((vOfE (op1 lenD (nmO 0))))) (oOfV (kI 0))))) ((vOfE (op2 neD (oOfV ((vOfE (op2 idxD (oOfV ((vOfE (op2 idxD (nmO 0) (oOfV ((vOfE (op1 negD (oOfV (kI 1)))))))))) (oOfV (kI 0)))))) (oOfV (kI 0))))))))))
def g_is_polynomial : En → SR := (seqS g_is_polynomial_1 g_is_polynomial_2)
def F_is_polynomial : Sl → List D → FR := fnF 2 false g_is_polynomial
set_option maxRecDepth 100000 in
theorem ok_is_polynomial : FnV P w K mg base E.C 3 E.d_is_polynomial.f E.d_is_polynomial.fd ["value"] false F_is_polynomial :=
  fnV_of E.d_is_polynomial.F sc_is_polynomial false [] rfl (fun h => nomatch h) fun cdv A outer s H X σ₀ hr G => by
    exact (eb_cons
  (es_if (EvW.t (ew_or (et_not (et_tru G (EvV.toO (EvE.toV (ev_isi G (T := "tuple") (by decide) (by decide +kernel) (by rfl) E.b_isinstance (by rfl) E.b_tuple (ev_nameO (i := 0) rfl (by first | exact .inl rfl | exact .inr (.inl rfl) | exact .inr (.inr rfl)))))))) (ew_or (et_cmp (cGt) (EvV.toO (EvE.toV (ev_len G (by rfl) E.b_len (ev_nameO (i := 0) rfl (by first | exact .inl rfl | exact .inr (.inl rfl) | exact .inr (.inr rfl)))))) (EvV.toO (ev_gint (by rfl) E.c_MOST_ITEMS))) (ew_or1 (et_not (et_tru G (EvV.toO (EvE.toV (ev_all G (by rfl) E.b_all (EvV.toO (EvE.toV (ev_lc (own := [((PySem.Str.ofString "c"), 1)]) (vs := [1]) (ws := [1]) 0 G (ei_seq G (ev_name (i := 0) rfl (by first | exact .inl rfl | exact .inr (.inl rfl) | exact .inr (.inr rfl)))) (blkOk_by (by kernel_rfl)) rfl (by decide) (fun _ _ _ _ _ => blkG G fun G => (eg_name (i := 1) G rfl (by first | exact .inl rfl | exact .inr rfl) (show (1 : Nat) ∉ ([] : List Nat) by decide))) (fun _ _ _ _ _ => blkT G fun G => ept_nil) (fun _ _ _ _ _ => blkE G fun G => (EvV.toE (EvE.toV (ev_call G (ok_is_ratio E) (hr.mono (by decide)) (by rfl) E.d_is_ratio.m E.d_is_ratio.F.kp E.d_is_ratio.b (ea_cons (ev_name (i := 1) rfl (by first | exact .inl rfl | exact .inr (.inl rfl) | exact .inr (.inr rfl))) ea_nil))))))))))))))))) (eb_one (es_ret (EvV.toE ev_bl))) eb_nil) (eb_one (es_ret (EvV.toE (ev_or (EvE.toV (ev_cmp (cEq G hr) (EvV.toO (EvE.toV (ev_len G (by rfl) E.b_len (ev_nameO (i := 0) rfl (by first | exact .inl rfl | exact .inr (.inl rfl) | exact .inr (.inr rfl)))))) (EvV.toO ev_int))) (ev_one (EvE.toV (ev_cmp (cNe G hr) (EvV.toO (EvE.toV (ev_idx G hr (EvV.toO (EvE.toV (ev_idx G hr (ev_nameO (i := 0) rfl (by first | exact .inl rfl | exact .inr (.inl rfl) | exact .inr (.inr rfl))) (EvV.toO (EvE.toV (ev_neg (EvV.toO ev_int))))))) (EvV.toO ev_int)))) (EvV.toO ev_int)))))))))
def g_ratio_sum : En → SR := (retS ((callF 2 (F_lowest) (aCons ((vOfE (op2 addD (oOfV ((vOfE (op2 mulD (oOfV ((vOfE (op2 idxD (nmO 0) (oOfV (kI 0)))))) (oOfV ((vOfE (op2 idxD (nmO 1) (oOfV (kI 1)))))))))) (oOfV ((vOfE (op2 mulD (oOfV ((vOfE (op2 idxD (nmO 1) (oOfV (kI 0)))))) (oOfV ((vOfE (op2 idxD (nmO 0) (oOfV (kI 1))))))))))))) (aCons ((vOfE (op2 mulD (oOfV ((vOfE (op2 idxD (nmO 0) (oOfV (kI 1)))))) (oOfV ((vOfE (op2 idxD (nmO 1) (oOfV (kI 1))))))))) aNil)))))
def F_ratio_sum : Sl → List D → FR := fnF 2 false g_ratio_sum
set_option maxRecDepth 100000 in
theorem ok_ratio_sum : FnV P w K mg base E.C 3 E.d_ratio_sum.f E.d_ratio_sum.fd ["a", "b"] false F_ratio_sum :=
  fnV_of E.d_ratio_sum.F sc_ratio_sum false [] rfl (fun h => nomatch h) fun cdv A outer s H X σ₀ hr G => by
    exact (eb_one (es_ret (ev_call G (ok_lowest E) (hr.mono (by decide)) (by rfl) E.d_lowest.m E.d_lowest.F.kp E.d_lowest.b (ea_cons (EvE.toV (ev_add G (EvV.toO (EvE.toV (ev_mul G (EvV.toO (EvE.toV (ev_idx G hr (ev_nameO (i := 0) rfl (by first | exact .inl rfl | exact .inr (.inl rfl) | exact .inr (.inr rfl))) (EvV.toO ev_int)))) (EvV.toO (EvE.toV (ev_idx G hr (ev_nameO (i := 1) rfl (by first | exact .inl rfl | exact .inr (.inl rfl) | exact .inr (.inr rfl))) (EvV.toO ev_int))))))) (EvV.toO (EvE.toV (ev_mul G (EvV.toO (EvE.toV (ev_idx G hr (ev_nameO (i := 1) rfl (by first | exact .inl rfl | exact .inr (.inl rfl) | exact .inr (.inr rfl))) (EvV.toO ev_int)))) (EvV.toO (EvE.toV (ev_idx G hr (ev_nameO (i := 0) rfl (by first | exact .inl rfl | exact .inr (.inl rfl) | exact .inr (.inr rfl))) (EvV.toO ev_int))))))))) (ea_cons (EvE.toV (ev_mul G (EvV.toO (EvE.toV (ev_idx G hr (ev_nameO (i := 0) rfl (by first | exact .inl rfl | exact .inr (.inl rfl) | exact .inr (.inr rfl))) (EvV.toO ev_int)))) (EvV.toO (EvE.toV (ev_idx G hr (ev_nameO (i := 1) rfl (by first | exact .inl rfl | exact .inr (.inl rfl) | exact .inr (.inr rfl))) (EvV.toO ev_int)))))) ea_nil)))))
def g_ratio_product : En → SR := (retS ((callF 2 (F_lowest) (aCons ((vOfE (op2 mulD (oOfV ((vOfE (op2 idxD (nmO 0) (oOfV (kI 0)))))) (oOfV ((vOfE (op2 idxD (nmO 1) (oOfV (kI 0))))))))) (aCons ((vOfE (op2 mulD (oOfV ((vOfE (op2 idxD (nmO 0) (oOfV (kI 1)))))) (oOfV ((vOfE (op2 idxD (nmO 1) (oOfV (kI 1))))))))) aNil)))))
def F_ratio_product : Sl → List D → FR := fnF 2 false g_ratio_product
set_option maxRecDepth 100000 in
theorem ok_ratio_product : FnV P w K mg base E.C 3 E.d_ratio_product.f E.d_ratio_product.fd ["a", "b"] false F_ratio_product :=
  fnV_of E.d_ratio_product.F sc_ratio_product false [] rfl (fun h => nomatch h) fun cdv A outer s H X σ₀ hr G => by
    exact (eb_one (es_ret (ev_call G (ok_lowest E) (hr.mono (by decide)) (by rfl) E.d_lowest.m E.d_lowest.F.kp E.d_lowest.b (ea_cons (EvE.toV (ev_mul G (EvV.toO (EvE.toV (ev_idx G hr (ev_nameO (i := 0) rfl (by first | exact .inl rfl | exact .inr (.inl rfl) | exact .inr (.inr rfl))) (EvV.toO ev_int)))) (EvV.toO (EvE.toV (ev_idx G hr (ev_nameO (i := 1) rfl (by first | exact .inl rfl | exact .inr (.inl rfl) | exact .inr (.inr rfl))) (EvV.toO ev_int)))))) (ea_cons (EvE.toV (ev_mul G (EvV.toO (EvE.toV (ev_idx G hr (ev_nameO (i := 0) rfl (by first | exact .inl rfl | exact .inr (.inl rfl) | exact .inr (.inr rfl))) (EvV.toO ev_int)))) (EvV.toO (EvE.toV (ev_idx G hr (ev_nameO (i := 1) rfl (by first | exact .inl rfl | exact .inr (.inl rfl) | exact .inr (.inr rfl))) (EvV.toO ev_int)))))) ea_nil)))))
def g_check_ratio : En → SR := (iteS (notT (tru (oOfV ((vOfE (callF 1 (F_is_ratio) (aCons ((nmV 0)) aNil))))))) (raiseS 1) passS)
def F_check_ratio : Sl → List D → FR := fnF 1 false g_check_ratio
set_option maxRecDepth 100000 in
theorem ok_check_ratio : FnV P w K mg base E.C 3 E.d_check_ratio.f E.d_check_ratio.fd ["value"] false F_check_ratio :=
  fnV_of E.d_check_ratio.F sc_check_ratio false [] rfl (fun h => nomatch h) fun cdv A outer s H X σ₀ hr G => by
    exact (eb_one (es_if (et_not (et_tru G (EvV.toO (EvE.toV (ev_call G (ok_is_ratio E) (hr.mono (by decide)) (by rfl) E.d_is_ratio.m E.d_is_ratio.F.kp E.d_is_ratio.b (ea_cons (ev_name (i := 0) rfl (by first | exact .inl rfl | exact .inr (.inl rfl) | exact .inr (.inr rfl))) ea_nil)))))) (eb_one (es_raise (c := 1) G (E.x_Malformed.excC rfl) (by rfl))) eb_nil))
abbrev cp__law_begins_1 : En → R (D × Nat) := (comp (rg1 (aCons ((vOfE (op2 subD (nmO 3) (oOfV ((vOfE (op1 lenD (nmO 1)))))))) aNil)) (nameG 6) (yesT) ((eOfV ((tupE (aCons (kI 0) (aCons (kI 1) aNil)))))) 0 [6])
abbrev cp__law_begins_2 : En → R (D × Nat) := (comp (rg2 (aCons (kI 1) (aCons ((vOfE (op2 addD (nmO 3) (oOfV (kI 1))))) aNil))) (nameG 8) (yesT) ((eOfV ((vOfE (callF 2 (F__law_less) (aCons ((vOfE (op2 idxD (nmO 4) (nmO 8)))) (aCons ((vOfE (callF 2 (F__law_times) (aCons ((nmV 7)) (aCons ((vOfE (op2 idxD (nmO 5) (nmO 8)))) aNil))))) aNil))))))) 0 [8])
abbrev lb__law_begins_1 : En → SR := (seqS
  (setS 7 ((iteE ((tst (op2 (cmpD fun i j => decide (j < i)) (oOfV ((vOfE (op1 lenD (nmO 4))))) (oOfV (kI 0))))) ((op2 idxD (nmO 4) (oOfV (kI 0)))) ((eOfV ((tupE (aCons (kI 0) (aCons (kI 1) aNil))))))))) (seqS
  (iteS (tst (op2 neD (nmO 7) (oOfV ((vOfE (iteE ((tst (op2 eqD (nmO 6) (oOfV (kI 0))))) ((eOfV ((tupE (aCons (kI 1) (aCons (kI 1) aNil)))))) ((op2 idxD (nmO 2) (oOfV ((vOfE (op2 subD (nmO 6) (oOfV (kI 1)))))))))))))) (retS ((eOfV (kB false)))) passS) (seqS
  (setS 4 ((op2 addD (nmO 4) (oOfV ((vOfE (op2 mulD (oOfV ((vOfE (lstE (aCons ((tupE (aCons (kI 0) (aCons (kI 1) aNil)))) aNil))))) (oOfV ((vOfE (op2 subD (oOfV ((vOfE (op2 addD (nmO 3) (oOfV (kI 1)))))) (oOfV ((vOfE (op1 lenD (nmO 4)))))))))))))))) (setS 4 (cp__law_begins_2)))))
abbrev g__law_begins_1 : En → SR := (setS 3 ((op2 subD (oOfV ((vOfE (op1 lenD (nmO 0))))) (oOfV (kI 1)))))
abbrev g__law_begins_2 : En → SR := (setS 4 ((op2 addD (oOfV ((vOfE cp__law_begins_1))) (oOfV ((vOfE (op1 revD (oOfV ((vOfE (op1 lisD (nmO 1))))))))))))
abbrev g__law_begins_3 : En → SR := (setS 5 ((op1 revD (oOfV ((vOfE (op1 lisD (nmO 0))))))))
abbrev g__law_begins_4 : En → SR := (forS (rg1 (aCons ((vOfE (op2 mulD (oOfV (kI 2)) (nmO 3)))) aNil)) (nameG 6) lb__law_begins_1)
abbrev g__law_begins_5 : En → SR := (retS ((eOfV (kB true))))
def g__law_begins : En → SR := (seqS g__law_begins_1 (seqS g__law_begins_2 (seqS g__law_begins_3 (seqS g__law_begins_4 g__law_begins_5))))
def F__law_begins : Sl → List D → FR := fnF 9 false g__law_begins
set_option maxRecDepth 100000 in
theorem ok__law_begins : FnV P w K mg base E.C 3 E.d__law_begins.f E.d__law_begins.fd ["p", "q", "row"] false F__law_begins :=
  fnV_of E.d__law_begins.F sc__law_begins false [] rfl (fun h => nomatch h) fun cdv A outer s H X σ₀ hr G => by
    exact (eb_cons
  (es_set (i := 3) G rfl (by first | exact .inl rfl | exact .inr rfl) (show (3 : Nat) ∉ ([] : List Nat) by decide) (ev_sub (EvV.toO (EvE.toV (ev_len G (by rfl) E.b_len (ev_nameO (i := 0) rfl (by first | exact .inl rfl | exact .inr (.inl rfl) | exact .inr (.inr rfl)))))) (EvV.toO ev_int))) (eb_cons
  (es_set (i := 4) G rfl (by first | exact .inl rfl | exact .inr rfl) (show (4 : Nat) ∉ ([] : List Nat) by decide) (ev_add G (EvV.toO (EvE.toV (ev_lc (own := [((PySem.Str.ofString "i"), 6)]) (vs := [6]) (ws := [6]) 0 G (ei_rg1 (by rfl) E.b_range (ea_cons (EvE.toV (ev_sub (ev_nameO (i := 3) rfl (by first | exact .inl rfl | exact .inr (.inl rfl) | exact .inr (.inr rfl))) (EvV.toO (EvE.toV (ev_len G (by rfl) E.b_len (ev_nameO (i := 1) rfl (by first | exact .inl rfl | exact .inr (.inl rfl) | exact .inr (.inr rfl)))))))) ea_nil)) (blkOk_by (by kernel_rfl)) rfl (by decide) (fun _ _ _ _ _ => blkG G fun G => (eg_name (i := 6) G rfl (by first | exact .inl rfl | exact .inr rfl) (show (6 : Nat) ∉ ([] : List Nat) by decide))) (fun _ _ _ _ _ => blkT G fun G => ept_nil) (fun _ _ _ _ _ => blkE G fun G => (EvV.toE (ev_tup (ea_cons ev_int (ea_cons ev_int ea_nil)))))))) (EvV.toO (EvE.toV (ev_rev (k := 0) G (EvV.toO (EvE.toV (ev_list G (by rfl) E.b_list (ev_nameO (i := 1) rfl (by first | exact .inl rfl | exact .inr (.inl rfl) | exact .inr (.inr rfl))))))))))) (eb_cons
  (es_set (i := 5) G rfl (by first | exact .inl rfl | exact .inr rfl) (show (5 : Nat) ∉ ([] : List Nat) by decide) (ev_rev (k := 0) G (EvV.toO (EvE.toV (ev_list G (by rfl) E.b_list (ev_nameO (i := 0) rfl (by first | exact .inl rfl | exact .inr (.inl rfl) | exact .inr (.inr rfl)))))))) (eb_cons
  (es_for G (passes_of rfl) (ei_rg1 (by rfl) E.b_range (ea_cons (EvE.toV (ev_mul G (EvV.toO ev_int) (ev_nameO (i := 3) rfl (by first | exact .inl rfl | exact .inr (.inl rfl) | exact .inr (.inr rfl))))) ea_nil)) (eg_name (i := 6) G rfl (by first | exact .inl rfl | exact .inr rfl) (show (6 : Nat) ∉ ([] : List Nat) by decide)) (eb_cons
  (es_set (i := 7) G rfl (by first | exact .inl rfl | exact .inr rfl) (show (7 : Nat) ∉ ([] : List Nat) by decide) (ev_ite (et_cmp (cGt) (EvV.toO (EvE.toV (ev_len G (by rfl) E.b_len (ev_nameO (i := 4) rfl (by first | exact .inl rfl | exact .inr (.inl rfl) | exact .inr (.inr rfl)))))) (EvV.toO ev_int)) (ev_idx G hr (ev_nameO (i := 4) rfl (by first | exact .inl rfl | exact .inr (.inl rfl) | exact .inr (.inr rfl))) (EvV.toO ev_int)) (EvV.toE (ev_tup (ea_cons ev_int (ea_cons ev_int ea_nil)))))) (eb_cons
  (es_if (et_cmp (cNe G hr) (ev_nameO (i := 7) rfl (by first | exact .inl rfl | exact .inr (.inl rfl) | exact .inr (.inr rfl))) (EvV.toO (EvE.toV (ev_ite (et_cmp (cEq G hr) (ev_nameO (i := 6) rfl (by first | exact .inl rfl | exact .inr (.inl rfl) | exact .inr (.inr rfl))) (EvV.toO ev_int)) (EvV.toE (ev_tup (ea_cons ev_int (ea_cons ev_int ea_nil)))) (ev_idx G hr (ev_nameO (i := 2) rfl (by first | exact .inl rfl | exact .inr (.inl rfl) | exact .inr (.inr rfl))) (EvV.toO (EvE.toV (ev_sub (ev_nameO (i := 6) rfl (by first | exact .inl rfl | exact .inr (.inl rfl) | exact .inr (.inr rfl))) (EvV.toO ev_int))))))))) (eb_one (es_ret (EvV.toE ev_bl))) eb_nil) (eb_cons
  (es_set (i := 4) G rfl (by first | exact .inl rfl | exact .inr rfl) (show (4 : Nat) ∉ ([] : List Nat) by decide) (ev_add G (ev_nameO (i := 4) rfl (by first | exact .inl rfl | exact .inr (.inl rfl) | exact .inr (.inr rfl))) (EvV.toO (EvE.toV (ev_mul G (EvV.toO (EvE.toV (ev_lst (ea_cons (ev_tup (ea_cons ev_int (ea_cons ev_int ea_nil))) ea_nil)))) (EvV.toO (EvE.toV (ev_sub (EvV.toO (EvE.toV (ev_add G (ev_nameO (i := 3) rfl (by first | exact .inl rfl | exact .inr (.inl rfl) | exact .inr (.inr rfl))) (EvV.toO ev_int)))) (EvV.toO (EvE.toV (ev_len G (by rfl) E.b_len (ev_nameO (i := 4) rfl (by first | exact .inl rfl | exact .inr (.inl rfl) | exact .inr (.inr rfl)))))))))))))) (eb_one (es_set (i := 4) G rfl (by first | exact .inl rfl | exact .inr rfl) (show (4 : Nat) ∉ ([] : List Nat) by decide) (ev_lc (own := [((PySem.Str.ofString "j"), 8)]) (vs := [8]) (ws := [8]) 0 G (ei_rg2 (by rfl) E.b_range (ea_cons ev_int (ea_cons (EvE.toV (ev_add G (ev_nameO (i := 3) rfl (by first | exact .inl rfl | exact .inr (.inl rfl) | exact .inr (.inr rfl))) (EvV.toO ev_int))) ea_nil))) (blkOk_by (by kernel_rfl)) rfl (by decide) (fun _ _ _ _ _ => blkG G fun G => (eg_name (i := 8) G rfl (by first | exact .inl rfl | exact .inr rfl) (show (8 : Nat) ∉ ([] : List Nat) by decide))) (fun _ _ _ _ _ => blkT G fun G => ept_nil) (fun _ _ _ _ _ => blkE G fun G => (EvV.toE (EvE.toV (ev_call G (ok__law_less E) (hr.mono (by decide)) (by rfl) E.d__law_less.m E.d__law_less.F.kp E.d__law_less.b (ea_cons (EvE.toV (ev_idx G hr (ev_nameO (i := 4) rfl (by first | exact .inl rfl | exact .inr (.inl rfl) | exact .inr (.inr rfl))) (ev_nameO (i := 8) rfl (by first | exact .inl rfl | exact .inr (.inl rfl) | exact .inr (.inr rfl))))) (ea_cons (EvE.toV (ev_call G (ok__law_times E) (hr.mono (by decide)) (by rfl) E.d__law_times.m E.d__law_times.F.kp E.d__law_times.b (ea_cons (ev_name (i := 7) rfl (by first | exact .inl rfl | exact .inr (.inl rfl) | exact .inr (.inr rfl))) (ea_cons (EvE.toV (ev_idx G hr (ev_nameO (i := 5) rfl (by first | exact .inl rfl | exact .inr (.inl rfl) | exact .inr (.inr rfl))) (ev_nameO (i := 8) rfl (by first | exact .inl rfl | exact .inr (.inl rfl) | exact .inr (.inr rfl))))) ea_nil)))) ea_nil))))))))))))) (eb_one (es_ret (EvV.toE ev_bl)))))))
abbrev lb__law_total_1 : En → SR := (setS 1 ((callF 2 (F__law_add) (aCons ((nmV 1)) (aCons ((nmV 2)) aNil)))))
abbrev g__law_total_1 : En → SR := (setS 1 ((eOfV ((tupE (aCons (kI 0) (aCons (kI 1) aNil)))))))
abbrev g__law_total_2 : En → SR := (forS (seqI' ((nmV 0))) (nameG 2) lb__law_total_1)
abbrev g__law_total_3 : En → SR := (retM 1)
def g__law_total : En → SR := (seqS g__law_total_1 (seqS g__law_total_2 g__law_total_3))
def F__law_total : Sl → List D → FR := fnF 3 false g__law_total
set_option maxRecDepth 100000 in
theorem ok__law_total : FnV P w K mg base E.C 3 E.d__law_total.f E.d__law_total.fd ["items"] false F__law_total :=
  fnV_of E.d__law_total.F sc__law_total false [] rfl (fun h => nomatch h) fun cdv A outer s H X σ₀ hr G => by
    exact (eb_cons
  (es_set (i := 1) G rfl (by first | exact .inl rfl | exact .inr rfl) (show (1 : Nat) ∉ ([] : List Nat) by decide) (EvV.toE (ev_tup (ea_cons ev_int (ea_cons ev_int ea_nil))))) (eb_cons
  (es_for G (passes_of rfl) (ei_seq G (ev_name (i := 0) rfl (by first | exact .inl rfl | exact .inr (.inl rfl) | exact .inr (.inr rfl)))) (eg_name (i := 2) G rfl (by first | exact .inl rfl | exact .inr rfl) (show (2 : Nat) ∉ ([] : List Nat) by decide)) (eb_one (es_set (i := 1) G rfl (by first | exact .inl rfl | exact .inr rfl) (show (1 : Nat) ∉ ([] : List Nat) by decide) (ev_call G (ok__law_add E) (hr.mono (by decide)) (by rfl) E.d__law_add.m E.d__law_add.F.kp E.d__law_add.b (ea_cons (ev_name (i := 1) rfl (by first | exact .inl rfl | exact .inr (.inl rfl) | exact .inr (.inr rfl))) (ea_cons (ev_name (i := 2) rfl (by first | exact .inl rfl | exact .inr (.inl rfl) | exact .inr (.inr rfl))) ea_nil)))))) (eb_one (es_retM (i := 1) rfl (by first | exact .inl rfl | exact .inr (.inl rfl) | exact .inr (.inr rfl))))))
abbrev g__law_nonzero_1 : En → SR := (setS 1 ((callI 1 (F__law_drawn) 0 aNil)))
abbrev g__law_nonzero_2 : En → SR := (retS ((iteE ((tst (op2 neD (oOfV ((vOfE (op2 idxD (nmO 1) (oOfV (kI 0)))))) (oOfV (kI 0))))) ((eOfV ((nmV 1)))) ((eOfV ((tupE (aCons ((vOfE (op2 addD (oOfV (kI 1)) (oOfV ((vOfE (callI 2 (F__law_take) 0 (aCons (kI 3) aNil)))))))) (aCons (kI 1) aNil)))))))))
def g__law_nonzero : En → SR := (seqS g__law_nonzero_1 g__law_nonzero_2)
def F__law_nonzero : Sl → List D → FR := fnF 2 true g__law_nonzero
set_option maxRecDepth 100000 in
theorem ok__law_nonzero : FnV P w K mg base E.C 3 E.d__law_nonzero.f E.d__law_nonzero.fd ["state"] true F__law_nonzero :=
  fnV_of E.d__law_nonzero.F sc__law_nonzero true [0] rfl (fun _ => ⟨by decide, by decide⟩) fun cdv A outer s H X σ₀ hr G => by
    exact (eb_cons
  (es_set (i := 1) G rfl (by first | exact .inl rfl | exact .inr rfl) (show (1 : Nat) ∉ ([0] : List Nat) by decide) (ev_callI G (ok__law_drawn E) (hr.mono (by decide)) (by rfl) E.d__law_drawn.m E.d__law_drawn.F.kp E.d__law_drawn.b (i := 0) rfl (by first | exact .inl rfl | exact .inr (.inl rfl) | exact .inr (.inr rfl)) ea_nil)) (eb_one (es_ret (ev_ite (et_cmp (cNe G hr) (EvV.toO (EvE.toV (ev_idx G hr (ev_nameO (i := 1) rfl (by first | exact .inl rfl | exact .inr (.inl rfl) | exact .inr (.inr rfl))) (EvV.toO ev_int)))) (EvV.toO ev_int)) (EvV.toE (ev_name (i := 1) rfl (by first | exact .inl rfl | exact .inr (.inl rfl) | exact .inr (.inr rfl)))) (EvV.toE (ev_tup (ea_cons (EvE.toV (ev_add G (EvV.toO ev_int) (EvV.toO (EvE.toV (ev_callI G (ok__law_take E) (hr.mono (by decide)) (by rfl) E.d__law_take.m E.d__law_take.F.kp E.d__law_take.b (i := 0) rfl (by first | exact .inl rfl | exact .inr (.inl rfl) | exact .inr (.inr rfl)) (ea_cons ev_int ea_nil)))))) (ea_cons ev_int ea_nil))))))))
abbrev lb__law_product_of_1 : En → SR := (setS 1 ((callF 2 (F__law_times) (aCons ((nmV 1)) (aCons ((nmV 2)) aNil)))))
abbrev g__law_product_of_1 : En → SR := (setS 1 ((eOfV ((tupE (aCons (kI 1) (aCons (kI 1) aNil)))))))
abbrev g__law_product_of_2 : En → SR := (forS (seqI' ((nmV 0))) (nameG 2) lb__law_product_of_1)
abbrev g__law_product_of_3 : En → SR := (retM 1)
def g__law_product_of : En → SR := (seqS g__law_product_of_1 (seqS g__law_product_of_2 g__law_product_of_3))
def F__law_product_of : Sl → List D → FR := fnF 3 false g__law_product_of
set_option maxRecDepth 100000 in
theorem ok__law_product_of : FnV P w K mg base E.C 3 E.d__law_product_of.f E.d__law_product_of.fd ["items"] false F__law_product_of :=
  fnV_of E.d__law_product_of.F sc__law_product_of false [] rfl (fun h => nomatch h) fun cdv A outer s H X σ₀ hr G => by
    exact (eb_cons
  (es_set (i := 1) G rfl (by first | exact .inl rfl | exact .inr rfl) (show (1 : Nat) ∉ ([] : List Nat) by decide) (EvV.toE (ev_tup (ea_cons ev_int (ea_cons ev_int ea_nil))))) (eb_cons
  (es_for G (passes_of rfl) (ei_seq G (ev_name (i := 0) rfl (by first | exact .inl rfl | exact .inr (.inl rfl) | exact .inr (.inr rfl)))) (eg_name (i := 2) G rfl (by first | exact .inl rfl | exact .inr rfl) (show (2 : Nat) ∉ ([] : List Nat) by decide)) (eb_one (es_set (i := 1) G rfl (by first | exact .inl rfl | exact .inr rfl) (show (1 : Nat) ∉ ([] : List Nat) by decide) (ev_call G (ok__law_times E) (hr.mono (by decide)) (by rfl) E.d__law_times.m E.d__law_times.F.kp E.d__law_times.b (ea_cons (ev_name (i := 1) rfl (by first | exact .inl rfl | exact .inr (.inl rfl) | exact .inr (.inr rfl))) (ea_cons (ev_name (i := 2) rfl (by first | exact .inl rfl | exact .inr (.inl rfl) | exact .inr (.inr rfl))) ea_nil)))))) (eb_one (es_retM (i := 1) rfl (by first | exact .inl rfl | exact .inr (.inl rfl) | exact .inr (.inr rfl))))))
abbrev lb__law_recursion_1 : En → SR := (seqS
  (setS 6 ((callF 2 (F__law_poly_add) (aCons ((nmV 2)) (aCons ((vOfE (callF 2 (F__law_poly_scaled) (aCons ((tupE (aCons ((tupE (aCons (kI 1) (aCons (kI 1) aNil)))) aNil))) (aCons ((vOfE (callF 2 (F__law_less) (aCons ((tupE (aCons (kI 0) (aCons (kI 1) aNil)))) (aCons ((vOfE (op2 idxD (nmO 0) (nmO 3)))) aNil))))) aNil))))) aNil))))) (seqS
  (setS 7 ((callF 2 (F__law_poly_times) (aCons ((nmV 6)) (aCons ((vOfE (op2 idxD (nmO 4) (nmO 3)))) aNil))))) (seqS
  (setS 8 ((iteE ((tst (op2 eqD (nmO 3) (oOfV (kI 0))))) ((eOfV ((tupE (aCons ((tupE (aCons (kI 1) (aCons (kI 1) aNil)))) aNil))))) ((callF 2 (F__law_poly_times) (aCons ((nmV 6)) (aCons ((vOfE (op2 idxD (nmO 5) (nmO 3)))) aNil))))))) (seqS
  (iteS (tst (op2 (cmpD fun i j => decide (j < i)) (nmO 3) (oOfV (kI 0)))) (seqS
  (setS 9 ((callF 2 (F__law_less) (aCons ((tupE (aCons (kI 0) (aCons (kI 1) aNil)))) (aCons ((vOfE (op2 idxD (nmO 1) (oOfV ((vOfE (op2 subD (nmO 3) (oOfV (kI 1))))))))) aNil))))) (parS 7 8 (lCons ((callF 2 (F__law_poly_add) (aCons ((nmV 7)) (aCons ((vOfE (callF 2 (F__law_poly_scaled) (aCons ((vOfE (op2 idxD (nmO 4) (oOfV ((vOfE (op2 subD (nmO 3) (oOfV (kI 1))))))))) (aCons ((nmV 9)) aNil))))) aNil)))) (lCons ((callF 2 (F__law_poly_add) (aCons ((nmV 8)) (aCons ((vOfE (callF 2 (F__law_poly_scaled) (aCons ((vOfE (op2 idxD (nmO 5) (oOfV ((vOfE (op2 subD (nmO 3) (oOfV (kI 1))))))))) (aCons ((nmV 9)) aNil))))) aNil)))) lNil)))) passS) (seqS
  (appS 4 ((nmV 7))) (appS 5 ((nmV 8))))))))
abbrev g__law_recursion_1 : En → SR := (setS 2 ((eOfV ((tupE (aCons ((tupE (aCons (kI 0) (aCons (kI 1) aNil)))) (aCons ((tupE (aCons (kI 1) (aCons (kI 1) aNil)))) aNil)))))))
abbrev g__law_recursion_2 : En → SR := (parS 4 5 (lCons ((lstE (aCons ((tupE (aCons ((tupE (aCons (kI 1) (aCons (kI 1) aNil)))) aNil))) aNil))) (lCons ((lstE (aCons ((tupE aNil)) aNil))) lNil)))
abbrev g__law_recursion_3 : En → SR := (forS (rg1 (aCons ((vOfE (op1 lenD (nmO 0)))) aNil)) (nameG 3) lb__law_recursion_1)
abbrev g__law_recursion_4 : En → SR := (retS ((eOfV ((tupE (aCons ((vOfE (op1 tupD (nmO 4)))) (aCons ((vOfE (op1 tupD (nmO 5)))) aNil)))))))
def g__law_recursion : En → SR := (seqS g__law_recursion_1 (seqS g__law_recursion_2 (seqS g__law_recursion_3 g__law_recursion_4)))
def F__law_recursion : Sl → List D → FR := fnF 10 false g__law_recursion
set_option maxRecDepth 100000 in
theorem ok__law_recursion : FnV P w K mg base E.C 4 E.d__law_recursion.f E.d__law_recursion.fd ["a", "b"] false F__law_recursion :=
  fnV_of E.d__law_recursion.F sc__law_recursion false [] rfl (fun h => nomatch h) fun cdv A outer s H X σ₀ hr G => by
    exact (eb_cons
  (es_set (i := 2) G rfl (by first | exact .inl rfl | exact .inr rfl) (show (2 : Nat) ∉ ([] : List Nat) by decide) (EvV.toE (ev_tup (ea_cons (ev_tup (ea_cons ev_int (ea_cons ev_int ea_nil))) (ea_cons (ev_tup (ea_cons ev_int (ea_cons ev_int ea_nil))) ea_nil))))) (eb_cons
  (es_par (i := 4) (j := 5) G rfl rfl (by decide) (show (4 : Nat) ∉ ([] : List Nat) by decide) (show (5 : Nat) ∉ ([] : List Nat) by decide) rfl rfl (el_cons (ev_lst (ea_cons (ev_tup (ea_cons (ev_tup (ea_cons ev_int (ea_cons ev_int ea_nil))) ea_nil)) ea_nil)) (el_cons (ev_lst (ea_cons (ev_tup ea_nil) ea_nil)) el_nil))) (eb_cons
  (es_for G (passes_of rfl) (ei_rg1 (by rfl) E.b_range (ea_cons (EvE.toV (ev_len G (by rfl) E.b_len (ev_nameO (i := 0) rfl (by first | exact .inl rfl | exact .inr (.inl rfl) | exact .inr (.inr rfl))))) ea_nil)) (eg_name (i := 3) G rfl (by first | exact .inl rfl | exact .inr rfl) (show (3 : Nat) ∉ ([] : List Nat) by decide)) (eb_cons
  (es_set (i := 6) G rfl (by first | exact .inl rfl | exact .inr rfl) (show (6 : Nat) ∉ ([] : List Nat) by decide) (ev_call G (ok__law_poly_add E) (hr.mono (by decide)) (by rfl) E.d__law_poly_add.m E.d__law_poly_add.F.kp E.d__law_poly_add.b (ea_cons (ev_name (i := 2) rfl (by first | exact .inl rfl | exact .inr (.inl rfl) | exact .inr (.inr rfl))) (ea_cons (EvE.toV (ev_call G (ok__law_poly_scaled E) (hr.mono (by decide)) (by rfl) E.d__law_poly_scaled.m E.d__law_poly_scaled.F.kp E.d__law_poly_scaled.b (ea_cons (ev_tup (ea_cons (ev_tup (ea_cons ev_int (ea_cons ev_int ea_nil))) ea_nil)) (ea_cons (EvE.toV (ev_call G (ok__law_less E) (hr.mono (by decide)) (by rfl) E.d__law_less.m E.d__law_less.F.kp E.d__law_less.b (ea_cons (ev_tup (ea_cons ev_int (ea_cons ev_int ea_nil))) (ea_cons (EvE.toV (ev_idx G hr (ev_nameO (i := 0) rfl (by first | exact .inl rfl | exact .inr (.inl rfl) | exact .inr (.inr rfl))) (ev_nameO (i := 3) rfl (by first | exact .inl rfl | exact .inr (.inl rfl) | exact .inr (.inr rfl))))) ea_nil)))) ea_nil)))) ea_nil)))) (eb_cons
  (es_set (i := 7) G rfl (by first | exact .inl rfl | exact .inr rfl) (show (7 : Nat) ∉ ([] : List Nat) by decide) (ev_call G (ok__law_poly_times E) (hr.mono (by decide)) (by rfl) E.d__law_poly_times.m E.d__law_poly_times.F.kp E.d__law_poly_times.b (ea_cons (ev_name (i := 6) rfl (by first | exact .inl rfl | exact .inr (.inl rfl) | exact .inr (.inr rfl))) (ea_cons (EvE.toV (ev_idx G hr (ev_nameO (i := 4) rfl (by first | exact .inl rfl | exact .inr (.inl rfl) | exact .inr (.inr rfl))) (ev_nameO (i := 3) rfl (by first | exact .inl rfl | exact .inr (.inl rfl) | exact .inr (.inr rfl))))) ea_nil)))) (eb_cons
  (es_set (i := 8) G rfl (by first | exact .inl rfl | exact .inr rfl) (show (8 : Nat) ∉ ([] : List Nat) by decide) (ev_ite (et_cmp (cEq G hr) (ev_nameO (i := 3) rfl (by first | exact .inl rfl | exact .inr (.inl rfl) | exact .inr (.inr rfl))) (EvV.toO ev_int)) (EvV.toE (ev_tup (ea_cons (ev_tup (ea_cons ev_int (ea_cons ev_int ea_nil))) ea_nil))) (ev_call G (ok__law_poly_times E) (hr.mono (by decide)) (by rfl) E.d__law_poly_times.m E.d__law_poly_times.F.kp E.d__law_poly_times.b (ea_cons (ev_name (i := 6) rfl (by first | exact .inl rfl | exact .inr (.inl rfl) | exact .inr (.inr rfl))) (ea_cons (EvE.toV (ev_idx G hr (ev_nameO (i := 5) rfl (by first | exact .inl rfl | exact .inr (.inl rfl) | exact .inr (.inr rfl))) (ev_nameO (i := 3) rfl (by first | exact .inl rfl | exact .inr (.inl rfl) | exact .inr (.inr rfl))))) ea_nil))))) (eb_cons
  (es_if (et_cmp (cGt) (ev_nameO (i := 3) rfl (by first | exact .inl rfl | exact .inr (.inl rfl) | exact .inr (.inr rfl))) (EvV.toO ev_int)) (eb_cons
  (es_set (i := 9) G rfl (by first | exact .inl rfl | exact .inr rfl) (show (9 : Nat) ∉ ([] : List Nat) by decide) (ev_call G (ok__law_less E) (hr.mono (by decide)) (by rfl) E.d__law_less.m E.d__law_less.F.kp E.d__law_less.b (ea_cons (ev_tup (ea_cons ev_int (ea_cons ev_int ea_nil))) (ea_cons (EvE.toV (ev_idx G hr (ev_nameO (i := 1) rfl (by first | exact .inl rfl | exact .inr (.inl rfl) | exact .inr (.inr rfl))) (EvV.toO (EvE.toV (ev_sub (ev_nameO (i := 3) rfl (by first | exact .inl rfl | exact .inr (.inl rfl) | exact .inr (.inr rfl))) (EvV.toO ev_int)))))) ea_nil)))) (eb_one (es_par (i := 7) (j := 8) G rfl rfl (by decide) (show (7 : Nat) ∉ ([] : List Nat) by decide) (show (8 : Nat) ∉ ([] : List Nat) by decide) rfl rfl (el_cons (ev_call G (ok__law_poly_add E) (hr.mono (by decide)) (by rfl) E.d__law_poly_add.m E.d__law_poly_add.F.kp E.d__law_poly_add.b (ea_cons (ev_name (i := 7) rfl (by first | exact .inl rfl | exact .inr (.inl rfl) | exact .inr (.inr rfl))) (ea_cons (EvE.toV (ev_call G (ok__law_poly_scaled E) (hr.mono (by decide)) (by rfl) E.d__law_poly_scaled.m E.d__law_poly_scaled.F.kp E.d__law_poly_scaled.b (ea_cons (EvE.toV (ev_idx G hr (ev_nameO (i := 4) rfl (by first | exact .inl rfl | exact .inr (.inl rfl) | exact .inr (.inr rfl))) (EvV.toO (EvE.toV (ev_sub (ev_nameO (i := 3) rfl (by first | exact .inl rfl | exact .inr (.inl rfl) | exact .inr (.inr rfl))) (EvV.toO ev_int)))))) (ea_cons (ev_name (i := 9) rfl (by first | exact .inl rfl | exact .inr (.inl rfl) | exact .inr (.inr rfl))) ea_nil)))) ea_nil))) (el_cons (ev_call G (ok__law_poly_add E) (hr.mono (by decide)) (by rfl) E.d__law_poly_add.m E.d__law_poly_add.F.kp E.d__law_poly_add.b (ea_cons (ev_name (i := 8) rfl (by first | exact .inl rfl | exact .inr (.inl rfl) | exact .inr (.inr rfl))) (ea_cons (EvE.toV (ev_call G (ok__law_poly_scaled E) (hr.mono (by decide)) (by rfl) E.d__law_poly_scaled.m E.d__law_poly_scaled.F.kp E.d__law_poly_scaled.b (ea_cons (EvE.toV (ev_idx G hr (ev_nameO (i := 5) rfl (by first | exact .inl rfl | exact .inr (.inl rfl) | exact .inr (.inr rfl))) (EvV.toO (EvE.toV (ev_sub (ev_nameO (i := 3) rfl (by first | exact .inl rfl | exact .inr (.inl rfl) | exact .inr (.inr rfl))) (EvV.toO ev_int)))))) (ea_cons (ev_name (i := 9) rfl (by first | exact .inl rfl | exact .inr (.inl rfl) | exact .inr (.inr rfl))) ea_nil)))) ea_nil))) el_nil))))) eb_nil) (eb_cons
  (es_app (i := 4) G rfl (by first | exact .inl rfl | exact .inr (.inl rfl) | exact .inr (.inr rfl)) (ev_name (i := 7) rfl (by first | exact .inl rfl | exact .inr (.inl rfl) | exact .inr (.inr rfl)))) (eb_one (es_app (i := 5) G rfl (by first | exact .inl rfl | exact .inr (.inl rfl) | exact .inr (.inr rfl)) (ev_name (i := 8) rfl (by first | exact .inl rfl | exact .inr (.inl rfl) | exact .inr (.inr rfl))))))))))) (eb_one (es_ret (EvV.toE (ev_tup (ea_cons (EvE.toV (ev_tuple G (by rfl) E.b_tuple (ev_nameO (i := 4) rfl (by first | exact .inl rfl | exact .inr (.inl rfl) | exact .inr (.inr rfl))))) (ea_cons (EvE.toV (ev_tuple G (by rfl) E.b_tuple (ev_nameO (i := 5) rfl (by first | exact .inl rfl | exact .inr (.inl rfl) | exact .inr (.inr rfl))))) ea_nil)))))))))
abbrev cp_check_polynomials_1 : En → R (D × Nat) := (comp (seqI' ((nmV 0))) (nameG 1) (yesT) ((eOfV ((vOfE (callF 1 (F_is_polynomial) (aCons ((nmV 1)) aNil)))))) 0 [1])
def g_check_polynomials : En → SR := (iteS (notT (tru (oOfV ((vOfE (op1 allD (oOfV ((vOfE cp_check_polynomials_1))))))))) (raiseS 1) passS)
def F_check_polynomials : Sl → List D → FR := fnF 2 false g_check_polynomials
set_option maxRecDepth 100000 in
theorem ok_check_polynomials : FnV P w K mg base E.C 4 E.d_check_polynomials.f E.d_check_polynomials.fd ["values"] false F_check_polynomials :=
  fnV_of E.d_check_polynomials.F sc_check_polynomials false [] rfl (fun h => nomatch h) fun cdv A outer s H X σ₀ hr G => by
    exact (eb_one (es_if (et_not (et_tru G (EvV.toO (EvE.toV (ev_all G (by rfl) E.b_all (EvV.toO (EvE.toV (ev_lc (own := [((PySem.Str.ofString "f"), 1)]) (vs := [1]) (ws := [1]) 0 G (ei_seq G (ev_name (i := 0) rfl (by first | exact .inl rfl | exact .inr (.inl rfl) | exact .inr (.inr rfl)))) (blkOk_by (by kernel_rfl)) rfl (by decide) (fun _ _ _ _ _ => blkG G fun G => (eg_name (i := 1) G rfl (by first | exact .inl rfl | exact .inr rfl) (show (1 : Nat) ∉ ([] : List Nat) by decide))) (fun _ _ _ _ _ => blkT G fun G => ept_nil) (fun _ _ _ _ _ => blkE G fun G => (EvV.toE (EvE.toV (ev_call G (ok_is_polynomial E) (hr.mono (by decide)) (by rfl) E.d_is_polynomial.m E.d_is_polynomial.F.kp E.d_is_polynomial.b (ea_cons (ev_name (i := 1) rfl (by first | exact .inl rfl | exact .inr (.inl rfl) | exact .inr (.inr rfl))) ea_nil))))))))))))) (eb_one (es_raise (c := 1) G (E.x_Malformed.excC rfl) (by rfl))) eb_nil))
abbrev cp_added_1 : En → R (D × Nat) := (comp (zipI (aCons ((nmV 3)) (aCons ((nmV 4)) aNil))) (tupG 2 (consG (nameG 5) (consG (nameG 6) nilG))) (yesT) ((eOfV ((vOfE (callF 2 (F_ratio_sum) (aCons ((nmV 5)) (aCons ((nmV 6)) aNil))))))) 0 [5, 6])
abbrev g_added_1 : En → SR := (setS 2 ((op2 max2D (oOfV ((vOfE (op1 lenD (nmO 0))))) (oOfV ((vOfE (op1 lenD (nmO 1))))))))
abbrev g_added_2 : En → SR := (setS 3 ((op2 addD (oOfV ((vOfE (op1 lisD (nmO 0))))) (oOfV ((vOfE (op2 mulD (oOfV ((vOfE (lstE (aCons ((tupE (aCons (kI 0) (aCons (kI 1) aNil)))) aNil))))) (oOfV ((vOfE (op2 subD (nmO 2) (oOfV ((vOfE (op1 lenD (nmO 0))))))))))))))))
abbrev g_added_3 : En → SR := (setS 4 ((op2 addD (oOfV ((vOfE (op1 lisD (nmO 1))))) (oOfV ((vOfE (op2 mulD (oOfV ((vOfE (lstE (aCons ((tupE (aCons (kI 0) (aCons (kI 1) aNil)))) aNil))))) (oOfV ((vOfE (op2 subD (nmO 2) (oOfV ((vOfE (op1 lenD (nmO 1))))))))))))))))
abbrev g_added_4 : En → SR := (retS ((callF 1 (F_trimmed) (aCons ((vOfE cp_added_1)) aNil))))
def g_added : En → SR := (seqS g_added_1 (seqS g_added_2 (seqS g_added_3 g_added_4)))
def F_added : Sl → List D → FR := fnF 7 false g_added
set_option maxRecDepth 100000 in
theorem ok_added : FnV P w K mg base E.C 4 E.d_added.f E.d_added.fd ["f", "g"] false F_added :=
  fnV_of E.d_added.F sc_added false [] rfl (fun h => nomatch h) fun cdv A outer s H X σ₀ hr G => by
    exact (eb_cons
  (es_set (i := 2) G rfl (by first | exact .inl rfl | exact .inr rfl) (show (2 : Nat) ∉ ([] : List Nat) by decide) (ev_max2 G (by rfl) E.b_max (EvV.toO (EvE.toV (ev_len G (by rfl) E.b_len (ev_nameO (i := 0) rfl (by first | exact .inl rfl | exact .inr (.inl rfl) | exact .inr (.inr rfl)))))) (EvV.toO (EvE.toV (ev_len G (by rfl) E.b_len (ev_nameO (i := 1) rfl (by first | exact .inl rfl | exact .inr (.inl rfl) | exact .inr (.inr rfl)))))))) (eb_cons
  (es_set (i := 3) G rfl (by first | exact .inl rfl | exact .inr rfl) (show (3 : Nat) ∉ ([] : List Nat) by decide) (ev_add G (EvV.toO (EvE.toV (ev_list G (by rfl) E.b_list (ev_nameO (i := 0) rfl (by first | exact .inl rfl | exact .inr (.inl rfl) | exact .inr (.inr rfl)))))) (EvV.toO (EvE.toV (ev_mul G (EvV.toO (EvE.toV (ev_lst (ea_cons (ev_tup (ea_cons ev_int (ea_cons ev_int ea_nil))) ea_nil)))) (EvV.toO (EvE.toV (ev_sub (ev_nameO (i := 2) rfl (by first | exact .inl rfl | exact .inr (.inl rfl) | exact .inr (.inr rfl))) (EvV.toO (EvE.toV (ev_len G (by rfl) E.b_len (ev_nameO (i := 0) rfl (by first | exact .inl rfl | exact .inr (.inl rfl) | exact .inr (.inr rfl)))))))))))))) (eb_cons
  (es_set (i := 4) G rfl (by first | exact .inl rfl | exact .inr rfl) (show (4 : Nat) ∉ ([] : List Nat) by decide) (ev_add G (EvV.toO (EvE.toV (ev_list G (by rfl) E.b_list (ev_nameO (i := 1) rfl (by first | exact .inl rfl | exact .inr (.inl rfl) | exact .inr (.inr rfl)))))) (EvV.toO (EvE.toV (ev_mul G (EvV.toO (EvE.toV (ev_lst (ea_cons (ev_tup (ea_cons ev_int (ea_cons ev_int ea_nil))) ea_nil)))) (EvV.toO (EvE.toV (ev_sub (ev_nameO (i := 2) rfl (by first | exact .inl rfl | exact .inr (.inl rfl) | exact .inr (.inr rfl))) (EvV.toO (EvE.toV (ev_len G (by rfl) E.b_len (ev_nameO (i := 1) rfl (by first | exact .inl rfl | exact .inr (.inl rfl) | exact .inr (.inr rfl)))))))))))))) (eb_one (es_ret (ev_call G (ok_trimmed E) (hr.mono (by decide)) (by rfl) E.d_trimmed.m E.d_trimmed.F.kp E.d_trimmed.b (ea_cons (EvE.toV (ev_lc (own := [((PySem.Str.ofString "a"), 5), ((PySem.Str.ofString "b"), 6)]) (vs := [5, 6]) (ws := ([5] ++ ([6] ++ []))) 0 G (ei_zip G (by rfl) E.b_zip (ea_cons (ev_name (i := 3) rfl (by first | exact .inl rfl | exact .inr (.inl rfl) | exact .inr (.inr rfl))) (ea_cons (ev_name (i := 4) rfl (by first | exact .inl rfl | exact .inr (.inl rfl) | exact .inr (.inr rfl))) ea_nil))) (blkOk_by (by kernel_rfl)) rfl (by decide) (fun _ _ _ _ _ => blkG G fun G => (eg_tup G (egs_cons (eg_name (i := 5) G rfl (by first | exact .inl rfl | exact .inr rfl) (show (5 : Nat) ∉ ([] : List Nat) by decide)) (egs_cons (eg_name (i := 6) G rfl (by first | exact .inl rfl | exact .inr rfl) (show (6 : Nat) ∉ ([] : List Nat) by decide)) egs_nil)))) (fun _ _ _ _ _ => blkT G fun G => ept_nil) (fun _ _ _ _ _ => blkE G fun G => (EvV.toE (EvE.toV (ev_call G (ok_ratio_sum E) (hr.mono (by decide)) (by rfl) E.d_ratio_sum.m E.d_ratio_sum.F.kp E.d_ratio_sum.b (ea_cons (ev_name (i := 5) rfl (by first | exact .inl rfl | exact .inr (.inl rfl) | exact .inr (.inr rfl))) (ea_cons (ev_name (i := 6) rfl (by first | exact .inl rfl | exact .inr (.inl rfl) | exact .inr (.inr rfl))) ea_nil)))))))) ea_nil)))))))
abbrev cp_scaled_1 : En → R (D × Nat) := (comp (seqI' ((nmV 0))) (nameG 2) (yesT) ((eOfV ((vOfE (callF 2 (F_ratio_product) (aCons ((nmV 2)) (aCons ((nmV 1)) aNil))))))) 0 [2])
def g_scaled : En → SR := (retS ((callF 1 (F_trimmed) (aCons ((vOfE cp_scaled_1)) aNil))))
def F_scaled : Sl → List D → FR := fnF 3 false g_scaled
set_option maxRecDepth 100000 in
theorem ok_scaled : FnV P w K mg base E.C 4 E.d_scaled.f E.d_scaled.fd ["f", "c"] false F_scaled :=
  fnV_of E.d_scaled.F sc_scaled false [] rfl (fun h => nomatch h) fun cdv A outer s H X σ₀ hr G => by
    exact (eb_one (es_ret (ev_call G (ok_trimmed E) (hr.mono (by decide)) (by rfl) E.d_trimmed.m E.d_trimmed.F.kp E.d_trimmed.b (ea_cons (EvE.toV (ev_lc (own := [((PySem.Str.ofString "a"), 2)]) (vs := [2]) (ws := [2]) 0 G (ei_seq G (ev_name (i := 0) rfl (by first | exact .inl rfl | exact .inr (.inl rfl) | exact .inr (.inr rfl)))) (blkOk_by (by kernel_rfl)) rfl (by decide) (fun _ _ _ _ _ => blkG G fun G => (eg_name (i := 2) G rfl (by first | exact .inl rfl | exact .inr rfl) (show (2 : Nat) ∉ ([] : List Nat) by decide))) (fun _ _ _ _ _ => blkT G fun G => ept_nil) (fun _ _ _ _ _ => blkE G fun G => (EvV.toE (EvE.toV (ev_call G (ok_ratio_product E) (hr.mono (by decide)) (by rfl) E.d_ratio_product.m E.d_ratio_product.F.kp E.d_ratio_product.b (ea_cons (ev_name (i := 2) rfl (by first | exact .inl rfl | exact .inr (.inl rfl) | exact .inr (.inr rfl))) (ea_cons (ev_name (i := 1) rfl (by first | exact .inl rfl | exact .inr (.inl rfl) | exact .inr (.inr rfl))) ea_nil)))))))) ea_nil))))
abbrev lb_times_1 : En → SR := (sItS 2 ((vOfE (callF 2 (F_ratio_sum) (aCons ((vOfE (op2 idxD (nmO 2) (oOfV ((vOfE (op2 addD (nmO 3) (nmO 5)))))))) (aCons ((vOfE (callF 2 (F_ratio_product) (aCons ((nmV 4)) (aCons ((nmV 6)) aNil))))) aNil))))) ((vOfE (op2 addD (nmO 3) (nmO 5)))))
abbrev lb_times_2 : En → SR := (forS (enumI (aCons ((nmV 1)) aNil)) (tupG 2 (consG (nameG 5) (consG (nameG 6) nilG))) lb_times_1)
abbrev g_times_1 : En → SR := (iteS (orT (tst (op2 eqD (oOfV ((vOfE (op1 lenD (nmO 0))))) (oOfV (kI 0)))) (tst (op2 eqD (oOfV ((vOfE (op1 lenD (nmO 1))))) (oOfV (kI 0))))) (retS ((eOfV ((tupE aNil))))) passS)
abbrev g_times_2 : En → SR := (setS 2 ((op2 mulD (oOfV ((vOfE (lstE (aCons ((tupE (aCons (kI 0) (aCons (kI 1) aNil)))) aNil))))) (oOfV ((vOfE (op2 subD (oOfV ((vOfE (op2 addD (oOfV ((vOfE (op1 lenD (nmO 0))))) (oOfV ((vOfE (op1 lenD (nmO 1))))))))) (oOfV (kI 1)))))))))
abbrev g_times_3 : En → SR := (forS (enumI (aCons ((nmV 0)) aNil)) (tupG 2 (consG (nameG 3) (consG (nameG 4) nilG))) lb_times_2)
abbrev g_times_4 : En → SR := (retS ((callF 1 (F_trimmed) (aCons ((nmV 2)) aNil))))
def g_times : En → SR := (seqS g_times_1 (seqS g_times_2 (seqS g_times_3 g_times_4)))
def F_times : Sl → List D → FR := fnF 7 false g_times
set_option maxRecDepth 100000 in
theorem ok_times : FnV P w K mg base E.C 4 E.d_times.f E.d_times.fd ["f", "g"] false F_times :=
  fnV_of E.d_times.F sc_times false [] rfl (fun h => nomatch h) fun cdv A outer s H X σ₀ hr G => by
    exact (eb_cons
  (es_if (EvW.t (ew_or (et_cmp (cEq G hr) (EvV.toO (EvE.toV (ev_len G (by rfl) E.b_len (ev_nameO (i := 0) rfl (by first | exact .inl rfl | exact .inr (.inl rfl) | exact .inr (.inr rfl)))))) (EvV.toO ev_int)) (ew_or1 (et_cmp (cEq G hr) (EvV.toO (EvE.toV (ev_len G (by rfl) E.b_len (ev_nameO (i := 1) rfl (by first | exact .inl rfl | exact .inr (.inl rfl) | exact .inr (.inr rfl)))))) (EvV.toO ev_int))))) (eb_one (es_ret (EvV.toE (ev_tup ea_nil)))) eb_nil) (eb_cons
  (es_set (i := 2) G rfl (by first | exact .inl rfl | exact .inr rfl) (show (2 : Nat) ∉ ([] : List Nat) by decide) (ev_mul G (EvV.toO (EvE.toV (ev_lst (ea_cons (ev_tup (ea_cons ev_int (ea_cons ev_int ea_nil))) ea_nil)))) (EvV.toO (EvE.toV (ev_sub (EvV.toO (EvE.toV (ev_add G (EvV.toO (EvE.toV (ev_len G (by rfl) E.b_len (ev_nameO (i := 0) rfl (by first | exact .inl rfl | exact .inr (.inl rfl) | exact .inr (.inr rfl)))))) (EvV.toO (EvE.toV (ev_len G (by rfl) E.b_len (ev_nameO (i := 1) rfl (by first | exact .inl rfl | exact .inr (.inl rfl) | exact .inr (.inr rfl))))))))) (EvV.toO ev_int)))))) (eb_cons
  (es_for G (passes_of rfl) (ei_enum G (by rfl) E.b_enumerate (ea_cons (ev_name (i := 0) rfl (by first | exact .inl rfl | exact .inr (.inl rfl) | exact .inr (.inr rfl))) ea_nil)) (eg_tup G (egs_cons (eg_name (i := 3) G rfl (by first | exact .inl rfl | exact .inr rfl) (show (3 : Nat) ∉ ([] : List Nat) by decide)) (egs_cons (eg_name (i := 4) G rfl (by first | exact .inl rfl | exact .inr rfl) (show (4 : Nat) ∉ ([] : List Nat) by decide)) egs_nil))) (eb_one (es_for G (passes_of rfl) (ei_enum G (by rfl) E.b_enumerate (ea_cons (ev_name (i := 1) rfl (by first | exact .inl rfl | exact .inr (.inl rfl) | exact .inr (.inr rfl))) ea_nil)) (eg_tup G (egs_cons (eg_name (i := 5) G rfl (by first | exact .inl rfl | exact .inr rfl) (show (5 : Nat) ∉ ([] : List Nat) by decide)) (egs_cons (eg_name (i := 6) G rfl (by first | exact .inl rfl | exact .inr rfl) (show (6 : Nat) ∉ ([] : List Nat) by decide)) egs_nil))) (eb_one (es_sub (i := 2) G hr rfl (by first | exact .inl rfl | exact .inr (.inl rfl) | exact .inr (.inr rfl)) (EvE.toV (ev_call G (ok_ratio_sum E) (hr.mono (by decide)) (by rfl) E.d_ratio_sum.m E.d_ratio_sum.F.kp E.d_ratio_sum.b (ea_cons (EvE.toV (ev_idx G hr (ev_nameO (i := 2) rfl (by first | exact .inl rfl | exact .inr (.inl rfl) | exact .inr (.inr rfl))) (EvV.toO (EvE.toV (ev_add G (ev_nameO (i := 3) rfl (by first | exact .inl rfl | exact .inr (.inl rfl) | exact .inr (.inr rfl))) (ev_nameO (i := 5) rfl (by first | exact .inl rfl | exact .inr (.inl rfl) | exact .inr (.inr rfl)))))))) (ea_cons (EvE.toV (ev_call G (ok_ratio_product E) (hr.mono (by decide)) (by rfl) E.d_ratio_product.m E.d_ratio_product.F.kp E.d_ratio_product.b (ea_cons (ev_name (i := 4) rfl (by first | exact .inl rfl | exact .inr (.inl rfl) | exact .inr (.inr rfl))) (ea_cons (ev_name (i := 6) rfl (by first | exact .inl rfl | exact .inr (.inl rfl) | exact .inr (.inr rfl))) ea_nil)))) ea_nil)))) (EvE.toV (ev_add G (ev_nameO (i := 3) rfl (by first | exact .inl rfl | exact .inr (.inl rfl) | exact .inr (.inr rfl))) (ev_nameO (i := 5) rfl (by first | exact .inl rfl | exact .inr (.inl rfl) | exact .inr (.inr rfl)))))))))) (eb_one (es_ret (ev_call G (ok_trimmed E) (hr.mono (by decide)) (by rfl) E.d_trimmed.m E.d_trimmed.F.kp E.d_trimmed.b (ea_cons (ev_name (i := 2) rfl (by first | exact .inl rfl | exact .inr (.inl rfl) | exact .inr (.inr rfl))) ea_nil)))))))
abbrev lb_mean_of_1 : En → SR := (setS 3 ((callF 2 (F_ratio_sum) (aCons ((nmV 3)) (aCons ((vOfE (callF 2 (F_ratio_product) (aCons ((nmV 5)) (aCons ((vOfE (op2 idxD (nmO 2) (nmO 4)))) aNil))))) aNil)))))
abbrev g_mean_of_1 : En → SR := (setS 2 ((op2 addD (oOfV ((tupE (aCons ((fun env => .ok (.tup [.int 1, .int 1]) env)) aNil)))) (nmO 0))))
abbrev g_mean_of_2 : En → SR := (setS 3 ((eOfV ((fun env => .ok (.tup [.int 0, .int 1]) env)))))
abbrev g_mean_of_3 : En → SR := (forS (enumI (aCons ((nmV 1)) aNil)) (tupG 2 (consG (nameG 4) (consG (nameG 5) nilG))) lb_mean_of_1)
abbrev g_mean_of_4 : En → SR := (retM 3)
def g_mean_of : En → SR := (seqS g_mean_of_1 (seqS g_mean_of_2 (seqS g_mean_of_3 g_mean_of_4)))
def F_mean_of : Sl → List D → FR := fnF 6 false g_mean_of
set_option maxRecDepth 100000 in
theorem ok_mean_of : FnV P w K mg base E.C 4 E.d_mean_of.f E.d_mean_of.fd ["moments", "f"] false F_mean_of :=
  fnV_of E.d_mean_of.F sc_mean_of false [] rfl (fun h => nomatch h) fun cdv A outer s H X σ₀ hr G => by
    exact (eb_cons
  (es_set (i := 2) G rfl (by first | exact .inl rfl | exact .inr rfl) (show (2 : Nat) ∉ ([] : List Nat) by decide) (ev_add G (EvV.toO (ev_tup (ea_cons (ev_gtup E.c_ONE G (by rfl)) ea_nil))) (ev_nameO (i := 0) rfl (by first | exact .inl rfl | exact .inr (.inl rfl) | exact .inr (.inr rfl))))) (eb_cons
  (es_set (i := 3) G rfl (by first | exact .inl rfl | exact .inr rfl) (show (3 : Nat) ∉ ([] : List Nat) by decide) (EvV.toE (ev_gtup E.c_ZERO G (by rfl)))) (eb_cons
  (es_for G (passes_of rfl) (ei_enum G (by rfl) E.b_enumerate (ea_cons (ev_name (i := 1) rfl (by first | exact .inl rfl | exact .inr (.inl rfl) | exact .inr (.inr rfl))) ea_nil)) (eg_tup G (egs_cons (eg_name (i := 4) G rfl (by first | exact .inl rfl | exact .inr rfl) (show (4 : Nat) ∉ ([] : List Nat) by decide)) (egs_cons (eg_name (i := 5) G rfl (by first | exact .inl rfl | exact .inr rfl) (show (5 : Nat) ∉ ([] : List Nat) by decide)) egs_nil))) (eb_one (es_set (i := 3) G rfl (by first | exact .inl rfl | exact .inr rfl) (show (3 : Nat) ∉ ([] : List Nat) by decide) (ev_call G (ok_ratio_sum E) (hr.mono (by decide)) (by rfl) E.d_ratio_sum.m E.d_ratio_sum.F.kp E.d_ratio_sum.b (ea_cons (ev_name (i := 3) rfl (by first | exact .inl rfl | exact .inr (.inl rfl) | exact .inr (.inr rfl))) (ea_cons (EvE.toV (ev_call G (ok_ratio_product E) (hr.mono (by decide)) (by rfl) E.d_ratio_product.m E.d_ratio_product.F.kp E.d_ratio_product.b (ea_cons (ev_name (i := 5) rfl (by first | exact .inl rfl | exact .inr (.inl rfl) | exact .inr (.inr rfl))) (ea_cons (EvE.toV (ev_idx G hr (ev_nameO (i := 2) rfl (by first | exact .inl rfl | exact .inr (.inl rfl) | exact .inr (.inr rfl))) (ev_nameO (i := 4) rfl (by first | exact .inl rfl | exact .inr (.inl rfl) | exact .inr (.inr rfl))))) ea_nil)))) ea_nil)))))) (eb_one (es_retM (i := 3) rfl (by first | exact .inl rfl | exact .inr (.inl rfl) | exact .inr (.inr rfl)))))))
abbrev lb_moments_by_paths_1 : En → SR := (seqS
  (setS 8 ((callF 2 (F_ratio_product) (aCons ((vOfE (op2 idxD (nmO 3) (nmO 7)))) (aCons ((vOfE (callF 2 (F_item_at) (aCons ((nmV 0)) (aCons ((nmV 7)) aNil))))) aNil))))) (seqS
  (iteS (tst (op2 (cmpD fun i j => decide (j < i)) (nmO 7) (oOfV (kI 0)))) (setS 8 ((callF 2 (F_ratio_sum) (aCons ((nmV 8)) (aCons ((vOfE (op2 idxD (nmO 3) (oOfV ((vOfE (op2 subD (nmO 7) (oOfV (kI 1))))))))) aNil))))) passS) (seqS
  (iteS (tst (op2 (cmpD fun i j => decide (i < j)) (nmO 7) (nmO 2))) (setS 8 ((callF 2 (F_ratio_sum) (aCons ((nmV 8)) (aCons ((vOfE (callF 2 (F_ratio_product) (aCons ((vOfE (op2 idxD (nmO 3) (oOfV ((vOfE (op2 addD (nmO 7) (oOfV (kI 1))))))))) (aCons ((vOfE (callF 2 (F_item_at) (aCons ((nmV 1)) (aCons ((nmV 7)) aNil))))) aNil))))) aNil))))) passS) (appS 6 ((nmV 8))))))
abbrev lb_moments_by_paths_2 : En → SR := (seqS
  (setS 6 ((lstE aNil))) (seqS
  (forS (rg1 (aCons ((vOfE (op2 addD (nmO 2) (oOfV (kI 1))))) aNil)) (nameG 7) lb_moments_by_paths_1) (seqS
  (setS 3 ((eOfV ((nmV 6))))) (appS 4 ((vOfE (op2 idxD (nmO 3) (oOfV (kI 0)))))))))
abbrev g_moments_by_paths_1 : En → SR := (setS 3 ((op2 addD (oOfV ((vOfE (lstE (aCons ((fun env => .ok (.tup [.int 1, .int 1]) env)) aNil))))) (oOfV ((vOfE (op2 mulD (oOfV ((vOfE (lstE (aCons ((fun env => .ok (.tup [.int 0, .int 1]) env)) aNil))))) (nmO 2))))))))
abbrev g_moments_by_paths_2 : En → SR := (setS 4 ((lstE aNil)))
abbrev g_moments_by_paths_3 : En → SR := (forS (rg1 (aCons ((nmV 2)) aNil)) (nameG 5) lb_moments_by_paths_2)
abbrev g_moments_by_paths_4 : En → SR := (retS ((op1 tupD (nmO 4))))
def g_moments_by_paths : En → SR := (seqS g_moments_by_paths_1 (seqS g_moments_by_paths_2 (seqS g_moments_by_paths_3 g_moments_by_paths_4)))
def F_moments_by_paths : Sl → List D → FR := fnF 9 false g_moments_by_paths
set_option maxRecDepth 100000 in
theorem ok_moments_by_paths : FnV P w K mg base E.C 4 E.d_moments_by_paths.f E.d_moments_by_paths.fd ["a", "b", "n"] false F_moments_by_paths :=
  fnV_of E.d_moments_by_paths.F sc_moments_by_paths false [] rfl (fun h => nomatch h) fun cdv A outer s H X σ₀ hr G => by
    exact (eb_cons
  (es_set (i := 3) G rfl (by first | exact .inl rfl | exact .inr rfl) (show (3 : Nat) ∉ ([] : List Nat) by decide) (ev_add G (EvV.toO (EvE.toV (ev_lst (ea_cons (ev_gtup E.c_ONE G (by rfl)) ea_nil)))) (EvV.toO (EvE.toV (ev_mul G (EvV.toO (EvE.toV (ev_lst (ea_cons (ev_gtup E.c_ZERO G (by rfl)) ea_nil)))) (ev_nameO (i := 2) rfl (by first | exact .inl rfl | exact .inr (.inl rfl) | exact .inr (.inr rfl)))))))) (eb_cons
  (es_set (i := 4) G rfl (by first | exact .inl rfl | exact .inr rfl) (show (4 : Nat) ∉ ([] : List Nat) by decide) (ev_lst ea_nil)) (eb_cons
  (es_for G (passes_of rfl) (ei_rg1 (by rfl) E.b_range (ea_cons (ev_name (i := 2) rfl (by first | exact .inl rfl | exact .inr (.inl rfl) | exact .inr (.inr rfl))) ea_nil)) (eg_name (i := 5) G rfl (by first | exact .inl rfl | exact .inr rfl) (show (5 : Nat) ∉ ([] : List Nat) by decide)) (eb_cons
  (es_set (i := 6) G rfl (by first | exact .inl rfl | exact .inr rfl) (show (6 : Nat) ∉ ([] : List Nat) by decide) (ev_lst ea_nil)) (eb_cons
  (es_for G (passes_of rfl) (ei_rg1 (by rfl) E.b_range (ea_cons (EvE.toV (ev_add G (ev_nameO (i := 2) rfl (by first | exact .inl rfl | exact .inr (.inl rfl) | exact .inr (.inr rfl))) (EvV.toO ev_int))) ea_nil)) (eg_name (i := 7) G rfl (by first | exact .inl rfl | exact .inr rfl) (show (7 : Nat) ∉ ([] : List Nat) by decide)) (eb_cons
  (es_set (i := 8) G rfl (by first | exact .inl rfl | exact .inr rfl) (show (8 : Nat) ∉ ([] : List Nat) by decide) (ev_call G (ok_ratio_product E) (hr.mono (by decide)) (by rfl) E.d_ratio_product.m E.d_ratio_product.F.kp E.d_ratio_product.b (ea_cons (EvE.toV (ev_idx G hr (ev_nameO (i := 3) rfl (by first | exact .inl rfl | exact .inr (.inl rfl) | exact .inr (.inr rfl))) (ev_nameO (i := 7) rfl (by first | exact .inl rfl | exact .inr (.inl rfl) | exact .inr (.inr rfl))))) (ea_cons (EvE.toV (ev_call G (ok_item_at E) (hr.mono (by decide)) (by rfl) E.d_item_at.m E.d_item_at.F.kp E.d_item_at.b (ea_cons (ev_name (i := 0) rfl (by first | exact .inl rfl | exact .inr (.inl rfl) | exact .inr (.inr rfl))) (ea_cons (ev_name (i := 7) rfl (by first | exact .inl rfl | exact .inr (.inl rfl) | exact .inr (.inr rfl))) ea_nil)))) ea_nil)))) (eb_cons
  (es_if (et_cmp (cGt) (ev_nameO (i := 7) rfl (by first | exact .inl rfl | exact .inr (.inl rfl) | exact .inr (.inr rfl))) (EvV.toO ev_int)) (eb_one (es_set (i := 8) G rfl (by first | exact .inl rfl | exact .inr rfl) (show (8 : Nat) ∉ ([] : List Nat) by decide) (ev_call G (ok_ratio_sum E) (hr.mono (by decide)) (by rfl) E.d_ratio_sum.m E.d_ratio_sum.F.kp E.d_ratio_sum.b (ea_cons (ev_name (i := 8) rfl (by first | exact .inl rfl | exact .inr (.inl rfl) | exact .inr (.inr rfl))) (ea_cons (EvE.toV (ev_idx G hr (ev_nameO (i := 3) rfl (by first | exact .inl rfl | exact .inr (.inl rfl) | exact .inr (.inr rfl))) (EvV.toO (EvE.toV (ev_sub (ev_nameO (i := 7) rfl (by first | exact .inl rfl | exact .inr (.inl rfl) | exact .inr (.inr rfl))) (EvV.toO ev_int)))))) ea_nil))))) eb_nil) (eb_cons
  (es_if (et_cmp (cLt) (ev_nameO (i := 7) rfl (by first | exact .inl rfl | exact .inr (.inl rfl) | exact .inr (.inr rfl))) (ev_nameO (i := 2) rfl (by first | exact .inl rfl | exact .inr (.inl rfl) | exact .inr (.inr rfl)))) (eb_one (es_set (i := 8) G rfl (by first | exact .inl rfl | exact .inr rfl) (show (8 : Nat) ∉ ([] : List Nat) by decide) (ev_call G (ok_ratio_sum E) (hr.mono (by decide)) (by rfl) E.d_ratio_sum.m E.d_ratio_sum.F.kp E.d_ratio_sum.b (ea_cons (ev_name (i := 8) rfl (by first | exact .inl rfl | exact .inr (.inl rfl) | exact .inr (.inr rfl))) (ea_cons (EvE.toV (ev_call G (ok_ratio_product E) (hr.mono (by decide)) (by rfl) E.d_ratio_product.m E.d_ratio_product.F.kp E.d_ratio_product.b (ea_cons (EvE.toV (ev_idx G hr (ev_nameO (i := 3) rfl (by first | exact .inl rfl | exact .inr (.inl rfl) | exact .inr (.inr rfl))) (EvV.toO (EvE.toV (ev_add G (ev_nameO (i := 7) rfl (by first | exact .inl rfl | exact .inr (.inl rfl) | exact .inr (.inr rfl))) (EvV.toO ev_int)))))) (ea_cons (EvE.toV (ev_call G (ok_item_at E) (hr.mono (by decide)) (by rfl) E.d_item_at.m E.d_item_at.F.kp E.d_item_at.b (ea_cons (ev_name (i := 1) rfl (by first | exact .inl rfl | exact .inr (.inl rfl) | exact .inr (.inr rfl))) (ea_cons (ev_name (i := 7) rfl (by first | exact .inl rfl | exact .inr (.inl rfl) | exact .inr (.inr rfl))) ea_nil)))) ea_nil)))) ea_nil))))) eb_nil) (eb_one (es_app (i := 6) G rfl (by first | exact .inl rfl | exact .inr (.inl rfl) | exact .inr (.inr rfl)) (ev_name (i := 8) rfl (by first | exact .inl rfl | exact .inr (.inl rfl) | exact .inr (.inr rfl))))))))) (eb_cons
  (es_set (i := 3) G rfl (by first | exact .inl rfl | exact .inr rfl) (show (3 : Nat) ∉ ([] : List Nat) by decide) (EvV.toE (ev_name (i := 6) rfl (by first | exact .inl rfl | exact .inr (.inl rfl) | exact .inr (.inr rfl))))) (eb_one (es_app (i := 4) G rfl (by first | exact .inl rfl | exact .inr (.inl rfl) | exact .inr (.inr rfl)) (EvE.toV (ev_idx G hr (ev_nameO (i := 3) rfl (by first | exact .inl rfl | exact .inr (.inl rfl) | exact .inr (.inr rfl))) (EvV.toO ev_int))))))))) (eb_one (es_ret (ev_tuple G (by rfl) E.b_tuple (ev_nameO (i := 4) rfl (by first | exact .inl rfl | exact .inr (.inl rfl) | exact .inr (.inr rfl)))))))))
abbrev cp__law_mean_1 : En → R (D × Nat) := (comp (rg1 (aCons ((vOfE (op1 lenD (nmO 1)))) aNil)) (nameG 3) (yesT) ((eOfV ((vOfE (callF 2 (F__law_times) (aCons ((vOfE (op2 idxD (nmO 1) (nmO 3)))) (aCons ((vOfE (op2 idxD (nmO 2) (nmO 3)))) aNil))))))) 0 [3])
abbrev g__law_mean_1 : En → SR := (setS 2 ((op2 addD (oOfV ((tupE (aCons ((tupE (aCons (kI 1) (aCons (kI 1) aNil)))) aNil)))) (nmO 0))))
abbrev g__law_mean_2 : En → SR := (retS ((callF 1 (F__law_total) (aCons ((vOfE cp__law_mean_1)) aNil))))
def g__law_mean : En → SR := (seqS g__law_mean_1 g__law_mean_2)
def F__law_mean : Sl → List D → FR := fnF 4 false g__law_mean
set_option maxRecDepth 100000 in
theorem ok__law_mean : FnV P w K mg base E.C 4 E.d__law_mean.f E.d__law_mean.fd ["row", "f"] false F__law_mean :=
  fnV_of E.d__law_mean.F sc__law_mean false [] rfl (fun h => nomatch h) fun cdv A outer s H X σ₀ hr G => by
    exact (eb_cons
  (es_set (i := 2) G rfl (by first | exact .inl rfl | exact .inr rfl) (show (2 : Nat) ∉ ([] : List Nat) by decide) (ev_add G (EvV.toO (ev_tup (ea_cons (ev_tup (ea_cons ev_int (ea_cons ev_int ea_nil))) ea_nil))) (ev_nameO (i := 0) rfl (by first | exact .inl rfl | exact .inr (.inl rfl) | exact .inr (.inr rfl))))) (eb_one (es_ret (ev_call G (ok__law_total E) (hr.mono (by decide)) (by rfl) E.d__law_total.m E.d__law_total.F.kp E.d__law_total.b (ea_cons (EvE.toV (ev_lc (own := [((PySem.Str.ofString "k"), 3)]) (vs := [3]) (ws := [3]) 0 G (ei_rg1 (by rfl) E.b_range (ea_cons (EvE.toV (ev_len G (by rfl) E.b_len (ev_nameO (i := 1) rfl (by first | exact .inl rfl | exact .inr (.inl rfl) | exact .inr (.inr rfl))))) ea_nil)) (blkOk_by (by kernel_rfl)) rfl (by decide) (fun _ _ _ _ _ => blkG G fun G => (eg_name (i := 3) G rfl (by first | exact .inl rfl | exact .inr rfl) (show (3 : Nat) ∉ ([] : List Nat) by decide))) (fun _ _ _ _ _ => blkT G fun G => ept_nil) (fun _ _ _ _ _ => blkE G fun G => (EvV.toE (EvE.toV (ev_call G (ok__law_times E) (hr.mono (by decide)) (by rfl) E.d__law_times.m E.d__law_times.F.kp E.d__law_times.b (ea_cons (EvE.toV (ev_idx G hr (ev_nameO (i := 1) rfl (by first | exact .inl rfl | exact .inr (.inl rfl) | exact .inr (.inr rfl))) (ev_nameO (i := 3) rfl (by first | exact .inl rfl | exact .inr (.inl rfl) | exact .inr (.inr rfl))))) (ea_cons (EvE.toV (ev_idx G hr (ev_nameO (i := 2) rfl (by first | exact .inl rfl | exact .inr (.inl rfl) | exact .inr (.inr rfl))) (ev_nameO (i := 3) rfl (by first | exact .inl rfl | exact .inr (.inl rfl) | exact .inr (.inr rfl))))) ea_nil)))))))) ea_nil)))))
abbrev g_poly_less_1 : En → SR := (exprS (callF 1 (F_check_polynomials) (aCons ((tupE (aCons ((nmV 0)) (aCons ((nmV 1)) aNil)))) aNil)))
abbrev g_poly_less_2 : En → SR := (retS ((callF 2 (F_added) (aCons ((nmV 0)) (aCons ((vOfE (callF 2 (F_scaled) (aCons ((nmV 1)) (aCons ((tupE (aCons ((vOfE (op1 negD (oOfV (kI 1))))) (aCons (kI 1) aNil)))) aNil))))) aNil)))))
def g_poly_less : En → SR := (seqS g_poly_less_1 g_poly_less_2)
def F_poly_less : Sl → List D → FR := fnF 2 false g_poly_less
set_option maxRecDepth 100000 in
theorem ok_poly_less : FnV P w K mg base E.C 5 E.d_poly_less.f E.d_poly_less.fd ["f", "g"] false F_poly_less :=
  fnV_of E.d_poly_less.F sc_poly_less false [] rfl (fun h => nomatch h) fun cdv A outer s H X σ₀ hr G => by
    exact (eb_cons
  (es_expr (ev_call G (ok_check_polynomials E) (hr.mono (by decide)) (by rfl) E.d_check_polynomials.m E.d_check_polynomials.F.kp E.d_check_polynomials.b (ea_cons (ev_tup (ea_cons (ev_name (i := 0) rfl (by first | exact .inl rfl | exact .inr (.inl rfl) | exact .inr (.inr rfl))) (ea_cons (ev_name (i := 1) rfl (by first | exact .inl rfl | exact .inr (.inl rfl) | exact .inr (.inr rfl))) ea_nil))) ea_nil))) (eb_one (es_ret (ev_call G (ok_added E) (hr.mono (by decide)) (by rfl) E.d_added.m E.d_added.F.kp E.d_added.b (ea_cons (ev_name (i := 0) rfl (by first | exact .inl rfl | exact .inr (.inl rfl) | exact .inr (.inr rfl))) (ea_cons (EvE.toV (ev_call G (ok_scaled E) (hr.mono (by decide)) (by rfl) E.d_scaled.m E.d_scaled.F.kp E.d_scaled.b (ea_cons (ev_name (i := 1) rfl (by first | exact .inl rfl | exact .inr (.inl rfl) | exact .inr (.inr rfl))) (ea_cons (ev_tup (ea_cons (EvE.toV (ev_neg (EvV.toO ev_int))) (ea_cons ev_int ea_nil))) ea_nil)))) ea_nil))))))
abbrev g_poly_product_1 : En → SR := (exprS (callF 1 (F_check_polynomials) (aCons ((tupE (aCons ((nmV 0)) (aCons ((nmV 1)) aNil)))) aNil)))
abbrev g_poly_product_2 : En → SR := (retS ((callF 2 (F_times) (aCons ((nmV 0)) (aCons ((nmV 1)) aNil)))))
def g_poly_product : En → SR := (seqS g_poly_product_1 g_poly_product_2)
def F_poly_product : Sl → List D → FR := fnF 2 false g_poly_product
set_option maxRecDepth 100000 in
theorem ok_poly_product : FnV P w K mg base E.C 5 E.d_poly_product.f E.d_poly_product.fd ["f", "g"] false F_poly_product :=
  fnV_of E.d_poly_product.F sc_poly_product false [] rfl (fun h => nomatch h) fun cdv A outer s H X σ₀ hr G => by
    exact (eb_cons
  (es_expr (ev_call G (ok_check_polynomials E) (hr.mono (by decide)) (by rfl) E.d_check_polynomials.m E.d_check_polynomials.F.kp E.d_check_polynomials.b (ea_cons (ev_tup (ea_cons (ev_name (i := 0) rfl (by first | exact .inl rfl | exact .inr (.inl rfl) | exact .inr (.inr rfl))) (ea_cons (ev_name (i := 1) rfl (by first | exact .inl rfl | exact .inr (.inl rfl) | exact .inr (.inr rfl))) ea_nil))) ea_nil))) (eb_one (es_ret (ev_call G (ok_times E) (hr.mono (by decide)) (by rfl) E.d_times.m E.d_times.F.kp E.d_times.b (ea_cons (ev_name (i := 0) rfl (by first | exact .inl rfl | exact .inr (.inl rfl) | exact .inr (.inr rfl))) (ea_cons (ev_name (i := 1) rfl (by first | exact .inl rfl | exact .inr (.inl rfl) | exact .inr (.inr rfl))) ea_nil))))))
abbrev g_poly_scaled_1 : En → SR := (exprS (callF 1 (F_check_polynomials) (aCons ((tupE (aCons ((nmV 0)) aNil))) aNil)))
abbrev g_poly_scaled_2 : En → SR := (exprS (callF 1 (F_check_ratio) (aCons ((nmV 1)) aNil)))
abbrev g_poly_scaled_3 : En → SR := (retS ((callF 2 (F_scaled) (aCons ((nmV 0)) (aCons ((nmV 1)) aNil)))))
def g_poly_scaled : En → SR := (seqS g_poly_scaled_1 (seqS g_poly_scaled_2 g_poly_scaled_3))
def F_poly_scaled : Sl → List D → FR := fnF 2 false g_poly_scaled
set_option maxRecDepth 100000 in
theorem ok_poly_scaled : FnV P w K mg base E.C 5 E.d_poly_scaled.f E.d_poly_scaled.fd ["f", "c"] false F_poly_scaled :=
  fnV_of E.d_poly_scaled.F sc_poly_scaled false [] rfl (fun h => nomatch h) fun cdv A outer s H X σ₀ hr G => by
    exact (eb_cons
  (es_expr (ev_call G (ok_check_polynomials E) (hr.mono (by decide)) (by rfl) E.d_check_polynomials.m E.d_check_polynomials.F.kp E.d_check_polynomials.b (ea_cons (ev_tup (ea_cons (ev_name (i := 0) rfl (by first | exact .inl rfl | exact .inr (.inl rfl) | exact .inr (.inr rfl))) ea_nil)) ea_nil))) (eb_cons
  (es_expr (ev_call G (ok_check_ratio E) (hr.mono (by decide)) (by rfl) E.d_check_ratio.m E.d_check_ratio.F.kp E.d_check_ratio.b (ea_cons (ev_name (i := 1) rfl (by first | exact .inl rfl | exact .inr (.inl rfl) | exact .inr (.inr rfl))) ea_nil))) (eb_one (es_ret (ev_call G (ok_scaled E) (hr.mono (by decide)) (by rfl) E.d_scaled.m E.d_scaled.F.kp E.d_scaled.b (ea_cons (ev_name (i := 0) rfl (by first | exact .inl rfl | exact .inr (.inl rfl) | exact .inr (.inr rfl))) (ea_cons (ev_name (i := 1) rfl (by first | exact .inl rfl | exact .inr (.inl rfl) | exact .inr (.inr rfl))) ea_nil)))))))
abbrev g_polynomial_mean_1 : En → SR := (exprS (callF 1 (F_check_row) (aCons ((nmV 0)) aNil)))
abbrev g_polynomial_mean_2 : En → SR := (iteS (orT (notT (tru (oOfV ((vOfE (callF 1 (F_is_polynomial) (aCons ((nmV 1)) aNil))))))) (tst (op2 (cmpD fun i j => decide (j < i)) (oOfV ((vOfE (op1 lenD (nmO 1))))) (oOfV ((vOfE (op2 addD (oOfV ((vOfE (op1 lenD (nmO 0))))) (oOfV (kI 1))))))))) (raiseS 1) passS)
abbrev g_polynomial_mean_3 : En → SR := (retS ((callF 2 (F_mean_of) (aCons ((nmV 0)) (aCons ((nmV 1)) aNil)))))
def g_polynomial_mean : En → SR := (seqS g_polynomial_mean_1 (seqS g_polynomial_mean_2 g_polynomial_mean_3))
def F_polynomial_mean : Sl → List D → FR := fnF 2 false g_polynomial_mean
set_option maxRecDepth 100000 in
theorem ok_polynomial_mean : FnV P w K mg base E.C 5 E.d_polynomial_mean.f E.d_polynomial_mean.fd ["moments", "f"] false F_polynomial_mean :=
  fnV_of E.d_polynomial_mean.F sc_polynomial_mean false [] rfl (fun h => nomatch h) fun cdv A outer s H X σ₀ hr G => by
    exact (eb_cons
  (es_expr (ev_call G (ok_check_row E) (hr.mono (by decide)) (by rfl) E.d_check_row.m E.d_check_row.F.kp E.d_check_row.b (ea_cons (ev_name (i := 0) rfl (by first | exact .inl rfl | exact .inr (.inl rfl) | exact .inr (.inr rfl))) ea_nil))) (eb_cons
  (es_if (EvW.t (ew_or (et_not (et_tru G (EvV.toO (EvE.toV (ev_call G (ok_is_polynomial E) (hr.mono (by decide)) (by rfl) E.d_is_polynomial.m E.d_is_polynomial.F.kp E.d_is_polynomial.b (ea_cons (ev_name (i := 1) rfl (by first | exact .inl rfl | exact .inr (.inl rfl) | exact .inr (.inr rfl))) ea_nil)))))) (ew_or1 (et_cmp (cGt) (EvV.toO (EvE.toV (ev_len G (by rfl) E.b_len (ev_nameO (i := 1) rfl (by first | exact .inl rfl | exact .inr (.inl rfl) | exact .inr (.inr rfl)))))) (EvV.toO (EvE.toV (ev_add G (EvV.toO (EvE.toV (ev_len G (by rfl) E.b_len (ev_nameO (i := 0) rfl (by first | exact .inl rfl | exact .inr (.inl rfl) | exact .inr (.inr rfl)))))) (EvV.toO ev_int)))))))) (eb_one (es_raise (c := 1) G (E.x_Malformed.excC rfl) (by rfl))) eb_nil) (eb_one (es_ret (ev_call G (ok_mean_of E) (hr.mono (by decide)) (by rfl) E.d_mean_of.m E.d_mean_of.F.kp E.d_mean_of.b (ea_cons (ev_name (i := 0) rfl (by first | exact .inl rfl | exact .inr (.inl rfl) | exact .inr (.inr rfl))) (ea_cons (ev_name (i := 1) rfl (by first | exact .inl rfl | exact .inr (.inl rfl) | exact .inr (.inr rfl))) ea_nil)))))))
abbrev g_path_moments_1 : En → SR := (exprS (callF 1 (F_check_row) (aCons ((nmV 0)) aNil)))
abbrev g_path_moments_2 : En → SR := (exprS (callF 1 (F_check_row) (aCons ((nmV 1)) aNil)))
abbrev g_path_moments_3 : En → SR := (exprS (callF 1 (F_check_count) (aCons ((nmV 2)) aNil)))
abbrev g_path_moments_4 : En → SR := (retS ((callF 3 (F_moments_by_paths) (aCons ((nmV 0)) (aCons ((nmV 1)) (aCons ((nmV 2)) aNil))))))
def g_path_moments : En → SR := (seqS g_path_moments_1 (seqS g_path_moments_2 (seqS g_path_moments_3 g_path_moments_4)))
def F_path_moments : Sl → List D → FR := fnF 3 false g_path_moments
set_option maxRecDepth 100000 in
theorem ok_path_moments : FnV P w K mg base E.C 5 E.d_path_moments.f E.d_path_moments.fd ["a", "b", "n"] false F_path_moments :=
  fnV_of E.d_path_moments.F sc_path_moments false [] rfl (fun h => nomatch h) fun cdv A outer s H X σ₀ hr G => by
    exact (eb_cons
  (es_expr (ev_call G (ok_check_row E) (hr.mono (by decide)) (by rfl) E.d_check_row.m E.d_check_row.F.kp E.d_check_row.b (ea_cons (ev_name (i := 0) rfl (by first | exact .inl rfl | exact .inr (.inl rfl) | exact .inr (.inr rfl))) ea_nil))) (eb_cons
  (es_expr (ev_call G (ok_check_row E) (hr.mono (by decide)) (by rfl) E.d_check_row.m E.d_check_row.F.kp E.d_check_row.b (ea_cons (ev_name (i := 1) rfl (by first | exact .inl rfl | exact .inr (.inl rfl) | exact .inr (.inr rfl))) ea_nil))) (eb_cons
  (es_expr (ev_call G (ok_check_count E) (hr.mono (by decide)) (by rfl) E.d_check_count.m E.d_check_count.F.kp E.d_check_count.b (ea_cons (ev_name (i := 2) rfl (by first | exact .inl rfl | exact .inr (.inl rfl) | exact .inr (.inr rfl))) ea_nil))) (eb_one (es_ret (ev_call G (ok_moments_by_paths E) (hr.mono (by decide)) (by rfl) E.d_moments_by_paths.m E.d_moments_by_paths.F.kp E.d_moments_by_paths.b (ea_cons (ev_name (i := 0) rfl (by first | exact .inl rfl | exact .inr (.inl rfl) | exact .inr (.inr rfl))) (ea_cons (ev_name (i := 1) rfl (by first | exact .inl rfl | exact .inr (.inl rfl) | exact .inr (.inr rfl))) (ea_cons (ev_name (i := 2) rfl (by first | exact .inl rfl | exact .inr (.inl rfl) | exact .inr (.inr rfl))) ea_nil)))))))))
abbrev g_next_polynomial_1 : En → SR := (setS 4 ((callF 2 (F_poly_less) (aCons ((vOfE (callF 2 (F_poly_product) (aCons ((fun env => .ok (.tup [(.tup [.int 0, .int 1]), (.tup [.int 1, .int 1])]) env)) (aCons ((nmV 0)) aNil))))) (aCons ((vOfE (callF 2 (F_poly_scaled) (aCons ((nmV 0)) (aCons ((nmV 2)) aNil))))) aNil)))))
abbrev g_next_polynomial_2 : En → SR := (retS ((callF 2 (F_poly_less) (aCons ((nmV 4)) (aCons ((vOfE (callF 2 (F_poly_scaled) (aCons ((nmV 1)) (aCons ((nmV 3)) aNil))))) aNil)))))
def g_next_polynomial : En → SR := (seqS g_next_polynomial_1 g_next_polynomial_2)
def F_next_polynomial : Sl → List D → FR := fnF 5 false g_next_polynomial
set_option maxRecDepth 100000 in
theorem ok_next_polynomial : FnV P w K mg base E.C 6 E.d_next_polynomial.f E.d_next_polynomial.fd ["last", "before", "a", "b"] false F_next_polynomial :=
  fnV_of E.d_next_polynomial.F sc_next_polynomial false [] rfl (fun h => nomatch h) fun cdv A outer s H X σ₀ hr G => by
    exact (eb_cons
  (es_set (i := 4) G rfl (by first | exact .inl rfl | exact .inr rfl) (show (4 : Nat) ∉ ([] : List Nat) by decide) (ev_call G (ok_poly_less E) (hr.mono (by decide)) (by rfl) E.d_poly_less.m E.d_poly_less.F.kp E.d_poly_less.b (ea_cons (EvE.toV (ev_call G (ok_poly_product E) (hr.mono (by decide)) (by rfl) E.d_poly_product.m E.d_poly_product.F.kp E.d_poly_product.b (ea_cons (ev_gtup E.c_POLY_X G (by rfl)) (ea_cons (ev_name (i := 0) rfl (by first | exact .inl rfl | exact .inr (.inl rfl) | exact .inr (.inr rfl))) ea_nil)))) (ea_cons (EvE.toV (ev_call G (ok_poly_scaled E) (hr.mono (by decide)) (by rfl) E.d_poly_scaled.m E.d_poly_scaled.F.kp E.d_poly_scaled.b (ea_cons (ev_name (i := 0) rfl (by first | exact .inl rfl | exact .inr (.inl rfl) | exact .inr (.inr rfl))) (ea_cons (ev_name (i := 2) rfl (by first | exact .inl rfl | exact .inr (.inl rfl) | exact .inr (.inr rfl))) ea_nil)))) ea_nil)))) (eb_one (es_ret (ev_call G (ok_poly_less E) (hr.mono (by decide)) (by rfl) E.d_poly_less.m E.d_poly_less.F.kp E.d_poly_less.b (ea_cons (ev_name (i := 4) rfl (by first | exact .inl rfl | exact .inr (.inl rfl) | exact .inr (.inr rfl))) (ea_cons (EvE.toV (ev_call G (ok_poly_scaled E) (hr.mono (by decide)) (by rfl) E.d_poly_scaled.m E.d_poly_scaled.F.kp E.d_poly_scaled.b (ea_cons (ev_name (i := 1) rfl (by first | exact .inl rfl | exact .inr (.inl rfl) | exact .inr (.inr rfl))) (ea_cons (ev_name (i := 3) rfl (by first | exact .inl rfl | exact .inr (.inl rfl) | exact .inr (.inr rfl))) ea_nil)))) ea_nil))))))
abbrev cp__law_inner_1 (rec : Sl → List D → FR) : En → R (D × Nat) := (comp (seqI' ((nmV 0))) (nameG 1) (yesT) ((eOfV ((vOfE (callF 1 (rec) (aCons ((nmV 1)) aNil)))))) 0 [1])
abbrev g__law_inner_1 (rec : Sl → List D → FR) : En → SR := (iteS (tru (oOfV ((vOfE (op1 (isiD "tuple") (nmO 0)))))) (retS ((op1 tupD (oOfV ((vOfE (cp__law_inner_1 rec))))))) passS)
abbrev g__law_inner_2 (rec : Sl → List D → FR) : En → SR := (iteS (orT (tst (op2 isD (nmO 0) (oOfV (kN)))) (orT (tru (oOfV ((vOfE (op1 (isiD "str") (nmO 0)))))) (andT (tru (oOfV ((vOfE (op1 (isiD "int") (nmO 0)))))) (notT (tru (oOfV ((vOfE (op1 (isiD "bool") (nmO 0)))))))))) (retM 0) passS)
abbrev g__law_inner_3 (rec : Sl → List D → FR) : En → SR := (retS ((eOfV (kS (PySem.Str.ofString "odd")))))
def g__law_inner (rec : Sl → List D → FR) : En → SR := (seqS (g__law_inner_1 rec) (seqS (g__law_inner_2 rec) (g__law_inner_3 rec)))
def F__law_inner : Nat → Sl → List D → FR
  | 0 => fun _ _ => .no
  | k + 1 => fnF 2 false (g__law_inner (F__law_inner k))
set_option maxRecDepth 100000 in
theorem ok__law_inner : ∀ kk : Nat, FnV P w K mg base E.C (1 + kk) E.d__law_inner.f E.d__law_inner.fd ["value"] false (F__law_inner kk)
  | 0 => fnV_no
  | kk + 1 => fnV_of E.d__law_inner.F sc__law_inner false [] rfl (fun h => nomatch h) fun cdv A outer s H X σ₀ hr G => by
    exact (eb_cons
  (es_if (et_tru G (EvV.toO (EvE.toV (ev_isi G (T := "tuple") (by decide) (by decide +kernel) (by rfl) E.b_isinstance (by rfl) E.b_tuple (ev_nameO (i := 0) rfl (by first | exact .inl rfl | exact .inr (.inl rfl) | exact .inr (.inr rfl))))))) (eb_one (es_ret (ev_tuple G (by rfl) E.b_tuple (EvV.toO (EvE.toV (ev_lc (own := [((PySem.Str.ofString "item"), 1)]) (vs := [1]) (ws := [1]) 0 G (ei_seq G (ev_name (i := 0) rfl (by first | exact .inl rfl | exact .inr (.inl rfl) | exact .inr (.inr rfl)))) (blkOk_by (by kernel_rfl)) rfl (by decide) (fun _ _ _ _ _ => blkG G fun G => (eg_name (i := 1) G rfl (by first | exact .inl rfl | exact .inr rfl) (show (1 : Nat) ∉ ([] : List Nat) by decide))) (fun _ _ _ _ _ => blkT G fun G => ept_nil) (fun _ _ _ _ _ => blkE G fun G => (EvV.toE (EvE.toV (ev_call G (ok__law_inner kk) hr (by rfl) E.d__law_inner.m E.d__law_inner.F.kp E.d__law_inner.b (ea_cons (ev_name (i := 1) rfl (by first | exact .inl rfl | exact .inr (.inl rfl) | exact .inr (.inr rfl))) ea_nil))))))))))) eb_nil) (eb_cons
  (es_if (EvW.t (ew_or (et_cmp (cIs) (ev_nameO (i := 0) rfl (by first | exact .inl rfl | exact .inr (.inl rfl) | exact .inr (.inr rfl))) (EvV.toO ev_non)) (ew_or (et_tru G (EvV.toO (EvE.toV (ev_isi G (T := "str") (by decide) (by decide +kernel) (by rfl) E.b_isinstance (by rfl) E.b_str (ev_nameO (i := 0) rfl (by first | exact .inl rfl | exact .inr (.inl rfl) | exact .inr (.inr rfl))))))) (ew_or1 (EvW.t (ew_and (et_tru G (EvV.toO (EvE.toV (ev_isi G (T := "int") (by decide) (by decide +kernel) (by rfl) E.b_isinstance (by rfl) E.b_int (ev_nameO (i := 0) rfl (by first | exact .inl rfl | exact .inr (.inl rfl) | exact .inr (.inr rfl))))))) (ew_and1 (et_not (et_tru G (EvV.toO (EvE.toV (ev_isi G (T := "bool") (by decide) (by decide +kernel) (by rfl) E.b_isinstance (by rfl) E.b_bool (ev_nameO (i := 0) rfl (by first | exact .inl rfl | exact .inr (.inl rfl) | exact .inr (.inr rfl))))))))))))))) (eb_one (es_retM (i := 0) rfl (by first | exact .inl rfl | exact .inr (.inl rfl) | exact .inr (.inr rfl)))) eb_nil) (eb_one (es_ret (EvV.toE ev_str)))))
abbrev lb_polynomials_of_1 : En → SR := (iteS (tst (op2 eqD (nmO 2) (oOfV (kI 0)))) (seqS
  (appS 3 ((vOfE (callF 4 (F_next_polynomial) (aCons ((vOfE (op2 idxD (nmO 3) (oOfV (kI 0))))) (aCons ((tupE aNil)) (aCons ((vOfE (op2 idxD (nmO 0) (oOfV (kI 0))))) (aCons ((fun env => .ok (.tup [.int 0, .int 1]) env)) aNil)))))))) (appS 4 ((fun env => .ok (.tup [(.tup [.int 1, .int 1])]) env)))) (seqS
  (appS 3 ((vOfE (callF 4 (F_next_polynomial) (aCons ((vOfE (op2 idxD (nmO 3) (nmO 2)))) (aCons ((vOfE (op2 idxD (nmO 3) (oOfV ((vOfE (op2 subD (nmO 2) (oOfV (kI 1))))))))) (aCons ((vOfE (op2 idxD (nmO 0) (nmO 2)))) (aCons ((vOfE (op2 idxD (nmO 1) (oOfV ((vOfE (op2 subD (nmO 2) (oOfV (kI 1))))))))) aNil)))))))) (appS 4 ((vOfE (callF 4 (F_next_polynomial) (aCons ((vOfE (op2 idxD (nmO 4) (nmO 2)))) (aCons ((vOfE (op2 idxD (nmO 4) (oOfV ((vOfE (op2 subD (nmO 2) (oOfV (kI 1))))))))) (aCons ((vOfE (op2 idxD (nmO 0) (nmO 2)))) (aCons ((vOfE (op2 idxD (nmO 1) (oOfV ((vOfE (op2 subD (nmO 2) (oOfV (kI 1))))))))) aNil))))))))))
abbrev g_polynomials_of_1 : En → SR := (parS 3 4 (lCons ((lstE (aCons ((fun env => .ok (.tup [(.tup [.int 1, .int 1])]) env)) aNil))) (lCons ((lstE (aCons ((tupE aNil)) aNil))) lNil)))
abbrev g_polynomials_of_2 : En → SR := (forS (rg1 (aCons ((vOfE (op1 lenD (nmO 0)))) aNil)) (nameG 2) lb_polynomials_of_1)
abbrev g_polynomials_of_3 : En → SR := (retS ((eOfV ((tupE (aCons ((vOfE (op1 tupD (nmO 3)))) (aCons ((vOfE (op1 tupD (nmO 4)))) aNil)))))))
def g_polynomials_of : En → SR := (seqS g_polynomials_of_1 (seqS g_polynomials_of_2 g_polynomials_of_3))
def F_polynomials_of : Sl → List D → FR := fnF 5 false g_polynomials_of
set_option maxRecDepth 100000 in
theorem ok_polynomials_of : FnV P w K mg base E.C 7 E.d_polynomials_of.f E.d_polynomials_of.fd ["a", "b"] false F_polynomials_of :=
  fnV_of E.d_polynomials_of.F sc_polynomials_of false [] rfl (fun h => nomatch h) fun cdv A outer s H X σ₀ hr G => by
    exact (eb_cons
  (es_par (i := 3) (j := 4) G rfl rfl (by decide) (show (3 : Nat) ∉ ([] : List Nat) by decide) (show (4 : Nat) ∉ ([] : List Nat) by decide) rfl rfl (el_cons (ev_lst (ea_cons (ev_gtup E.c_POLY_ONE G (by rfl)) ea_nil)) (el_cons (ev_lst (ea_cons (ev_tup ea_nil) ea_nil)) el_nil))) (eb_cons
  (es_for G (passes_of rfl) (ei_rg1 (by rfl) E.b_range (ea_cons (EvE.toV (ev_len G (by rfl) E.b_len (ev_nameO (i := 0) rfl (by first | exact .inl rfl | exact .inr (.inl rfl) | exact .inr (.inr rfl))))) ea_nil)) (eg_name (i := 2) G rfl (by first | exact .inl rfl | exact .inr rfl) (show (2 : Nat) ∉ ([] : List Nat) by decide)) (eb_one (es_if (et_cmp (cEq G hr) (ev_nameO (i := 2) rfl (by first | exact .inl rfl | exact .inr (.inl rfl) | exact .inr (.inr rfl))) (EvV.toO ev_int)) (eb_cons
  (es_app (i := 3) G rfl (by first | exact .inl rfl | exact .inr (.inl rfl) | exact .inr (.inr rfl)) (EvE.toV (ev_call G (ok_next_polynomial E) (hr.mono (by decide)) (by rfl) E.d_next_polynomial.m E.d_next_polynomial.F.kp E.d_next_polynomial.b (ea_cons (EvE.toV (ev_idx G hr (ev_nameO (i := 3) rfl (by first | exact .inl rfl | exact .inr (.inl rfl) | exact .inr (.inr rfl))) (EvV.toO ev_int))) (ea_cons (ev_tup ea_nil) (ea_cons (EvE.toV (ev_idx G hr (ev_nameO (i := 0) rfl (by first | exact .inl rfl | exact .inr (.inl rfl) | exact .inr (.inr rfl))) (EvV.toO ev_int))) (ea_cons (ev_gtup E.c_ZERO G (by rfl)) ea_nil))))))) (eb_one (es_app (i := 4) G rfl (by first | exact .inl rfl | exact .inr (.inl rfl) | exact .inr (.inr rfl)) (ev_gtup E.c_POLY_ONE G (by rfl))))) (eb_cons
  (es_app (i := 3) G rfl (by first | exact .inl rfl | exact .inr (.inl rfl) | exact .inr (.inr rfl)) (EvE.toV (ev_call G (ok_next_polynomial E) (hr.mono (by decide)) (by rfl) E.d_next_polynomial.m E.d_next_polynomial.F.kp E.d_next_polynomial.b (ea_cons (EvE.toV (ev_idx G hr (ev_nameO (i := 3) rfl (by first | exact .inl rfl | exact .inr (.inl rfl) | exact .inr (.inr rfl))) (ev_nameO (i := 2) rfl (by first | exact .inl rfl | exact .inr (.inl rfl) | exact .inr (.inr rfl))))) (ea_cons (EvE.toV (ev_idx G hr (ev_nameO (i := 3) rfl (by first | exact .inl rfl | exact .inr (.inl rfl) | exact .inr (.inr rfl))) (EvV.toO (EvE.toV (ev_sub (ev_nameO (i := 2) rfl (by first | exact .inl rfl | exact .inr (.inl rfl) | exact .inr (.inr rfl))) (EvV.toO ev_int)))))) (ea_cons (EvE.toV (ev_idx G hr (ev_nameO (i := 0) rfl (by first | exact .inl rfl | exact .inr (.inl rfl) | exact .inr (.inr rfl))) (ev_nameO (i := 2) rfl (by first | exact .inl rfl | exact .inr (.inl rfl) | exact .inr (.inr rfl))))) (ea_cons (EvE.toV (ev_idx G hr (ev_nameO (i := 1) rfl (by first | exact .inl rfl | exact .inr (.inl rfl) | exact .inr (.inr rfl))) (EvV.toO (EvE.toV (ev_sub (ev_nameO (i := 2) rfl (by first | exact .inl rfl | exact .inr (.inl rfl) | exact .inr (.inr rfl))) (EvV.toO ev_int)))))) ea_nil))))))) (eb_one (es_app (i := 4) G rfl (by first | exact .inl rfl | exact .inr (.inl rfl) | exact .inr (.inr rfl)) (EvE.toV (ev_call G (ok_next_polynomial E) (hr.mono (by decide)) (by rfl) E.d_next_polynomial.m E.d_next_polynomial.F.kp E.d_next_polynomial.b (ea_cons (EvE.toV (ev_idx G hr (ev_nameO (i := 4) rfl (by first | exact .inl rfl | exact .inr (.inl rfl) | exact .inr (.inr rfl))) (ev_nameO (i := 2) rfl (by first | exact .inl rfl | exact .inr (.inl rfl) | exact .inr (.inr rfl))))) (ea_cons (EvE.toV (ev_idx G hr (ev_nameO (i := 4) rfl (by first | exact .inl rfl | exact .inr (.inl rfl) | exact .inr (.inr rfl))) (EvV.toO (EvE.toV (ev_sub (ev_nameO (i := 2) rfl (by first | exact .inl rfl | exact .inr (.inl rfl) | exact .inr (.inr rfl))) (EvV.toO ev_int)))))) (ea_cons (EvE.toV (ev_idx G hr (ev_nameO (i := 0) rfl (by first | exact .inl rfl | exact .inr (.inl rfl) | exact .inr (.inr rfl))) (ev_nameO (i := 2) rfl (by first | exact .inl rfl | exact .inr (.inl rfl) | exact .inr (.inr rfl))))) (ea_cons (EvE.toV (ev_idx G hr (ev_nameO (i := 1) rfl (by first | exact .inl rfl | exact .inr (.inl rfl) | exact .inr (.inr rfl))) (EvV.toO (EvE.toV (ev_sub (ev_nameO (i := 2) rfl (by first | exact .inl rfl | exact .inr (.inl rfl) | exact .inr (.inr rfl))) (EvV.toO ev_int)))))) ea_nil)))))))))))) (eb_one (es_ret (EvV.toE (ev_tup (ea_cons (EvE.toV (ev_tuple G (by rfl) E.b_tuple (ev_nameO (i := 3) rfl (by first | exact .inl rfl | exact .inr (.inl rfl) | exact .inr (.inr rfl))))) (ea_cons (EvE.toV (ev_tuple G (by rfl) E.b_tuple (ev_nameO (i := 4) rfl (by first | exact .inl rfl | exact .inr (.inl rfl) | exact .inr (.inr rfl))))) ea_nil))))))))
def g__law_plain : En → SR := (retS ((iteE ((tru (oOfV ((vOfE (op1 (isiD "str") (nmO 0))))))) ((eOfV (kS (PySem.Str.ofString "odd")))) ((callF 1 (F__law_inner 6) (aCons ((nmV 0)) aNil))))))
def F__law_plain : Sl → List D → FR := fnF 1 false g__law_plain
set_option maxRecDepth 100000 in
theorem ok__law_plain : FnV P w K mg base E.C 8 E.d__law_plain.f E.d__law_plain.fd ["value"] false F__law_plain :=
  fnV_of E.d__law_plain.F sc__law_plain false [] rfl (fun h => nomatch h) fun cdv A outer s H X σ₀ hr G => by
    exact (eb_one (es_ret (ev_ite (et_tru G (EvV.toO (EvE.toV (ev_isi G (T := "str") (by decide) (by decide +kernel) (by rfl) E.b_isinstance (by rfl) E.b_str (ev_nameO (i := 0) rfl (by first | exact .inl rfl | exact .inr (.inl rfl) | exact .inr (.inr rfl))))))) (EvV.toE ev_str) (ev_call G (ok__law_inner E 6) (hr.mono (by decide)) (by rfl) E.d__law_inner.m E.d__law_inner.F.kp E.d__law_inner.b (ea_cons (ev_name (i := 0) rfl (by first | exact .inl rfl | exact .inr (.inl rfl) | exact .inr (.inr rfl))) ea_nil)))))
abbrev g_orthogonal_polynomials_1 : En → SR := (exprS (callF 1 (F_check_row) (aCons ((nmV 0)) aNil)))
abbrev g_orthogonal_polynomials_2 : En → SR := (exprS (callF 1 (F_check_row) (aCons ((nmV 1)) aNil)))
abbrev g_orthogonal_polynomials_3 : En → SR := (iteS (tst (op2 (cmpD fun i j => decide (i < j)) (oOfV ((vOfE (op1 lenD (nmO 1))))) (oOfV ((vOfE (op2 subD (oOfV ((vOfE (op1 lenD (nmO 0))))) (oOfV (kI 1)))))))) (raiseS 1) passS)
abbrev g_orthogonal_polynomials_4 : En → SR := (retS ((callF 2 (F_polynomials_of) (aCons ((nmV 0)) (aCons ((nmV 1)) aNil)))))
def g_orthogonal_polynomials : En → SR := (seqS g_orthogonal_polynomials_1 (seqS g_orthogonal_polynomials_2 (seqS g_orthogonal_polynomials_3 g_orthogonal_polynomials_4)))
def F_orthogonal_polynomials : Sl → List D → FR := fnF 2 false g_orthogonal_polynomials
set_option maxRecDepth 100000 in
theorem ok_orthogonal_polynomials : FnV P w K mg base E.C 8 E.d_orthogonal_polynomials.f E.d_orthogonal_polynomials.fd ["a", "b"] false F_orthogonal_polynomials :=
  fnV_of E.d_orthogonal_polynomials.F sc_orthogonal_polynomials false [] rfl (fun h => nomatch h) fun cdv A outer s H X σ₀ hr G => by
    exact (eb_cons
  (es_expr (ev_call G (ok_check_row E) (hr.mono (by decide)) (by rfl) E.d_check_row.m E.d_check_row.F.kp E.d_check_row.b (ea_cons (ev_name (i := 0) rfl (by first | exact .inl rfl | exact .inr (.inl rfl) | exact .inr (.inr rfl))) ea_nil))) (eb_cons
  (es_expr (ev_call G (ok_check_row E) (hr.mono (by decide)) (by rfl) E.d_check_row.m E.d_check_row.F.kp E.d_check_row.b (ea_cons (ev_name (i := 1) rfl (by first | exact .inl rfl | exact .inr (.inl rfl) | exact .inr (.inr rfl))) ea_nil))) (eb_cons
  (es_if (et_cmp (cLt) (EvV.toO (EvE.toV (ev_len G (by rfl) E.b_len (ev_nameO (i := 1) rfl (by first | exact .inl rfl | exact .inr (.inl rfl) | exact .inr (.inr rfl)))))) (EvV.toO (EvE.toV (ev_sub (EvV.toO (EvE.toV (ev_len G (by rfl) E.b_len (ev_nameO (i := 0) rfl (by first | exact .inl rfl | exact .inr (.inl rfl) | exact .inr (.inr rfl)))))) (EvV.toO ev_int))))) (eb_one (es_raise (c := 1) G (E.x_Malformed.excC rfl) (by rfl))) eb_nil) (eb_one (es_ret (ev_call G (ok_polynomials_of E) (hr.mono (by decide)) (by rfl) E.d_polynomials_of.m E.d_polynomials_of.F.kp E.d_polynomials_of.b (ea_cons (ev_name (i := 0) rfl (by first | exact .inl rfl | exact .inr (.inl rfl) | exact .inr (.inr rfl))) (ea_cons (ev_name (i := 1) rfl (by first | exact .inl rfl | exact .inr (.inl rfl) | exact .inr (.inr rfl))) ea_nil))))))))
def g__law_told : En → SR := (tryS [0, 1, 2] 1 (retS ((callF 1 (F__law_plain) (aCons ((vOfE (iteE ((tst (op2 eqD (nmO 0) (oOfV (kI 0))))) ((callF 2 (F_orthogonal_polynomials) (aCons ((nmV 1)) (aCons ((nmV 2)) aNil)))) ((callF 2 (F_polynomial_mean) (aCons ((nmV 1)) (aCons ((nmV 2)) aNil))))))) aNil)))) (retS ((eOfV (kS (PySem.Str.ofString "malformed"))))))
def F__law_told : Sl → List D → FR := fnF 3 false g__law_told
set_option maxRecDepth 100000 in
theorem ok__law_told : FnV P w K mg base E.C 9 E.d__law_told.f E.d__law_told.fd ["which", "x", "y"] false F__law_told :=
  fnV_of E.d__law_told.F sc__law_told false [0, 1, 2] rfl (fun h => nomatch h) fun cdv A outer s H X σ₀ hr G => by
    exact (eb_one (es_try G rfl rfl (List.cons_ne_nil _ _) (fun _ _ _ tk po => by have G := G.tryG tk; exact (eb_one (es_ret (ev_call G (ok__law_plain E) (hr.mono (by decide)) (by rfl) E.d__law_plain.m E.d__law_plain.F.kp E.d__law_plain.b (ea_cons (EvE.toV (ev_ite (et_cmp (cEq G hr) (ev_nameO (i := 0) rfl (by first | exact .inl rfl | exact .inr (.inl rfl) | exact .inr (.inr rfl))) (EvV.toO ev_int)) (ev_call G (ok_orthogonal_polynomials E) (hr.mono (by decide)) (by rfl) E.d_orthogonal_polynomials.m E.d_orthogonal_polynomials.F.kp E.d_orthogonal_polynomials.b (ea_cons (ev_name (i := 1) rfl (by first | exact .inl rfl | exact .inr (.inl rfl) | exact .inr (.inr rfl))) (ea_cons (ev_name (i := 2) rfl (by first | exact .inl rfl | exact .inr (.inl rfl) | exact .inr (.inr rfl))) ea_nil))) (ev_call G (ok_polynomial_mean E) (hr.mono (by decide)) (by rfl) E.d_polynomial_mean.m E.d_polynomial_mean.F.kp E.d_polynomial_mean.b (ea_cons (ev_name (i := 1) rfl (by first | exact .inl rfl | exact .inr (.inl rfl) | exact .inr (.inr rfl))) (ea_cons (ev_name (i := 2) rfl (by first | exact .inl rfl | exact .inr (.inl rfl) | exact .inr (.inr rfl))) ea_nil))))) ea_nil))))) (by rfl) E.x_Malformed.m rfl E.x_Malformed.e (fun _ _ _ => (eb_one (es_ret (EvV.toE ev_str))))))
abbrev cp_law_1 : En → R (D × Nat) := (comp (rg1 (aCons ((vOfE (op2 addD (oOfV ((vOfE (op2 max2D (oOfV ((vOfE (op2 subD (nmO 2) (oOfV (kI 1)))))) (oOfV (kI 0)))))) (oOfV ((vOfE (callI 2 (F__law_take) 1 (aCons (kI 2) aNil)))))))) aNil)) (nameG 12) (yesT) ((eOfV ((vOfE (callI 1 (F__law_nonzero) 1 aNil))))) 0 [12])
abbrev lb_law_1 : En → SR := (seqS
  (setS 13 ((callF 2 (F__law_poly_times) (aCons ((vOfE (op2 idxD (nmO 10) (nmO 4)))) (aCons ((vOfE (op2 idxD (nmO 10) (nmO 12)))) aNil))))) (seqS
  (iteS (andT (tst (op2 (cmpD fun i j => decide (i < j)) (oOfV ((vOfE (op2 addD (nmO 4) (nmO 12))))) (oOfV ((vOfE (op2 addD (oOfV ((vOfE (op2 mulD (oOfV (kI 2)) (nmO 2))))) (oOfV (kI 1)))))))) (tst (op2 neD (oOfV ((vOfE (callF 3 (F__law_told) (aCons (kI 1) (aCons ((nmV 3)) (aCons ((nmV 13)) aNil))))))) (oOfV ((vOfE (callF 2 (F__law_mean) (aCons ((nmV 3)) (aCons ((nmV 13)) aNil))))))))) (retS ((eOfV (kB false)))) passS) (seqS
  (iteS (andT (tst (op2 (cmpD fun i j => decide (i < j)) (oOfV ((vOfE (op2 addD (nmO 4) (nmO 12))))) (oOfV ((vOfE (op2 mulD (oOfV (kI 2)) (nmO 2))))))) (andT (tst (op2 neD (nmO 4) (nmO 12))) (tst (op2 neD (oOfV ((vOfE (op2 idxD (oOfV ((vOfE (callF 2 (F__law_mean) (aCons ((nmV 3)) (aCons ((nmV 13)) aNil)))))) (oOfV (kI 0)))))) (oOfV (kI 0)))))) (retS ((eOfV (kB false)))) passS) (iteS (andT (tst (op2 eqD (nmO 4) (nmO 12))) (andT (tst (op2 (cmpD fun i j => decide (i < j)) (nmO 4) (nmO 2))) (tst (op2 neD (oOfV ((vOfE (callF 2 (F__law_mean) (aCons ((nmV 3)) (aCons ((nmV 13)) aNil)))))) (oOfV ((vOfE (callF 1 (F__law_product_of) (aCons ((vOfE (opS (nmO 9) pNone (pSome ((nmV 4)))))) aNil))))))))) (retS ((eOfV (kB false)))) passS))))
abbrev lb_law_2 : En → SR := (forS (rg1 (aCons ((vOfE (op2 addD (nmO 2) (oOfV (kI 1))))) aNil)) (nameG 12) lb_law_1)
abbrev lb_law_3 : En → SR := (iteS (notT (tru (oOfV ((vOfE (callF 3 (F__law_begins) (aCons ((vOfE (op2 idxD (nmO 10) (nmO 4)))) (aCons ((vOfE (op2 idxD (nmO 11) (nmO 4)))) (aCons ((nmV 3)) aNil))))))))) (retS ((eOfV (kB false)))) passS)
abbrev lb_law_4 : En → SR := (iteS (tst (op2 neD (oOfV ((vOfE (lstE (aCons ((vOfE (callF 3 (F__law_told) (aCons (kI 0) (aCons ((nmV 7)) (aCons ((nmV 9)) aNil)))))) (aCons ((vOfE (callF 3 (F__law_told) (aCons (kI 0) (aCons ((nmV 8)) (aCons ((nmV 7)) aNil)))))) (aCons ((vOfE (callF 3 (F__law_told) (aCons (kI 1) (aCons ((nmV 7)) (aCons ((nmV 5)) aNil)))))) aNil))))))) (oOfV ((vOfE (op2 mulD (oOfV ((vOfE (lstE (aCons (kS (PySem.Str.ofString "malformed")) aNil))))) (oOfV (kI 3)))))))) (retS ((eOfV (kB false)))) passS)
abbrev cp_law_2 : En → R (D × Nat) := (comp (seqI' ((vOfE (lstE (aCons (kN) (aCons (kI 5) (aCons ((tupE (aCons ((tupE (aCons (kI 0) (aCons (kI 1) aNil)))) aNil))) (aCons ((tupE (aCons ((tupE (aCons (kI 1) (aCons (kI 1) aNil)))) (aCons ((tupE (aCons (kI 0) (aCons (kI 1) aNil)))) aNil)))) (aCons ((vOfE (lstE (aCons ((tupE (aCons (kI 1) (aCons (kI 1) aNil)))) aNil)))) (aCons ((tupE (aCons ((tupE (aCons (kI 2) (aCons (kI 4) aNil)))) aNil))) aNil)))))))))) (nameG 7) (yesT) ((eOfV ((vOfE (callF 3 (F__law_told) (aCons (kI 1) (aCons ((nmV 6)) (aCons ((nmV 7)) aNil)))))))) 0 [7])
abbrev g_law_1 : En → SR := (setS 1 ((callF 1 (F__law_state) (aCons ((nmV 0)) aNil))))
abbrev g_law_2 : En → SR := (setS 2 ((callI 2 (F__law_take) 1 (aCons (kI 7) aNil))))
abbrev g_law_3 : En → SR := (parS 8 9 (lCons ((callI 2 (F__law_row) 1 (aCons ((nmV 2)) aNil))) (lCons ((op1 tupD (oOfV ((vOfE cp_law_1))))) lNil)))
abbrev g_law_4 : En → SR := (asgS (tupG 2 (consG (nameG 10) (consG (nameG 11) nilG))) ((vOfE (callF 2 (F__law_recursion) (aCons ((nmV 8)) (aCons ((nmV 9)) aNil))))))
abbrev g_law_5 : En → SR := (iteS (tst (op2 neD (oOfV ((vOfE (callF 3 (F__law_told) (aCons (kI 0) (aCons ((nmV 8)) (aCons ((nmV 9)) aNil))))))) (oOfV ((tupE (aCons ((nmV 10)) (aCons ((nmV 11)) aNil))))))) (retS ((eOfV (kB false)))) passS)
abbrev g_law_6 : En → SR := (setS 3 ((callF 3 (F__law_path_moments) (aCons ((nmV 8)) (aCons ((nmV 9)) (aCons ((vOfE (op2 mulD (oOfV (kI 2)) (nmO 2)))) aNil))))))
abbrev g_law_7 : En → SR := (iteS (tst (op2 neD (oOfV ((vOfE (callF 1 (F__law_plain) (aCons ((vOfE (callF 3 (F_path_moments) (aCons ((nmV 8)) (aCons ((nmV 9)) (aCons ((vOfE (op2 mulD (oOfV (kI 2)) (nmO 2)))) aNil)))))) aNil))))) (nmO 3))) (retS ((eOfV (kB false)))) passS)
abbrev g_law_8 : En → SR := (forS (rg1 (aCons ((vOfE (op2 addD (nmO 2) (oOfV (kI 1))))) aNil)) (nameG 4) lb_law_2)
abbrev g_law_9 : En → SR := (forS (rg2 (aCons (kI 1) (aCons ((vOfE (op2 addD (nmO 2) (oOfV (kI 1))))) aNil))) (nameG 4) lb_law_3)
abbrev g_law_10 : En → SR := (setS 5 ((callF 1 (F__law_trimmed) (aCons ((vOfE (callI 2 (F__law_row) 1 (aCons ((vOfE (op2 addD (oOfV (kI 1)) (oOfV ((vOfE (callI 2 (F__law_take) 1 (aCons (kI 12) aNil)))))))) aNil)))) aNil))))
abbrev g_law_11 : En → SR := (setS 6 ((callI 2 (F__law_row) 1 (aCons (kI 12) aNil))))
abbrev g_law_12 : En → SR := (iteS (orT (tst (op2 neD (oOfV ((vOfE (callF 3 (F__law_told) (aCons (kI 1) (aCons ((nmV 6)) (aCons ((nmV 5)) aNil))))))) (oOfV ((vOfE (callF 2 (F__law_mean) (aCons ((nmV 6)) (aCons ((nmV 5)) aNil)))))))) (tst (op2 neD (oOfV ((vOfE (callF 3 (F__law_told) (aCons (kI 1) (aCons ((nmV 6)) (aCons ((tupE aNil)) aNil))))))) (oOfV ((tupE (aCons (kI 0) (aCons (kI 1) aNil)))))))) (retS ((eOfV (kB false)))) passS)
abbrev g_law_13 : En → SR := (iteS (andT (tst (op2 (cmpD fun i j => decide (j < i)) (oOfV ((vOfE (op1 lenD (nmO 5))))) (oOfV (kI 1)))) (tst (op2 neD (oOfV ((vOfE (callF 3 (F__law_told) (aCons (kI 1) (aCons ((vOfE (opS (nmO 6) pNone (pSome ((vOfE (op2 subD (oOfV ((vOfE (op1 lenD (nmO 5))))) (oOfV (kI 2))))))))) (aCons ((nmV 5)) aNil))))))) (oOfV (kS (PySem.Str.ofString "malformed")))))) (retS ((eOfV (kB false)))) passS)
abbrev g_law_14 : En → SR := (forS (seqI' ((vOfE (lstE (aCons (kN) (aCons (kI 5) (aCons ((vOfE (lstE (aCons ((tupE (aCons (kI 1) (aCons (kI 1) aNil)))) aNil)))) (aCons ((tupE (aCons ((tupE (aCons (kI 2) (aCons (kI 4) aNil)))) aNil))) (aCons ((tupE (aCons (kI 1) aNil))) (aCons ((vOfE (op2 repD (oOfV ((tupE (aCons ((tupE (aCons (kI 1) (aCons (kI 1) aNil)))) aNil)))) (oOfV (kI 13))))) aNil)))))))))) (nameG 7) lb_law_4)
abbrev g_law_15 : En → SR := (iteS (andT (tst (op2 (cmpD fun i j => decide (j < i)) (nmO 2) (oOfV (kI 1)))) (tst (op2 neD (oOfV ((vOfE (callF 3 (F__law_told) (aCons (kI 0) (aCons ((nmV 8)) (aCons ((vOfE (opS (nmO 9) pNone (pSome ((vOfE (op2 subD (nmO 2) (oOfV (kI 2))))))))) aNil))))))) (oOfV (kS (PySem.Str.ofString "malformed")))))) (retS ((eOfV (kB false)))) passS)
abbrev g_law_16 : En → SR := (retS ((op2 eqD (oOfV ((vOfE cp_law_2))) (oOfV ((vOfE (op2 mulD (oOfV ((vOfE (lstE (aCons (kS (PySem.Str.ofString "malformed")) aNil))))) (oOfV (kI 6)))))))))
def g_law : En → SR := (seqS g_law_1 (seqS g_law_2 (seqS g_law_3 (seqS g_law_4 (seqS g_law_5 (seqS g_law_6 (seqS g_law_7 (seqS g_law_8 (seqS g_law_9 (seqS g_law_10 (seqS g_law_11 (seqS g_law_12 (seqS g_law_13 (seqS g_law_14 (seqS g_law_15 g_law_16)))))))))))))))
def F_law : Sl → List D → FR := fnF 14 false g_law
set_option maxRecDepth 100000 in
theorem ok_law : FnV P w K mg base E.C 10 E.d_law.f E.d_law.fd ["script"] false F_law :=
  fnV_of E.d_law.F sc_law false [] rfl (fun h => nomatch h) fun cdv A outer s H X σ₀ hr G => by
    exact (eb_cons
  (es_set (i := 1) G rfl (by first | exact .inl rfl | exact .inr rfl) (show (1 : Nat) ∉ ([] : List Nat) by decide) (ev_call G (ok__law_state E) (hr.mono (by decide)) (by rfl) E.d__law_state.m E.d__law_state.F.kp E.d__law_state.b (ea_cons (ev_name (i := 0) rfl (by first | exact .inl rfl | exact .inr (.inl rfl) | exact .inr (.inr rfl))) ea_nil))) (eb_cons
  (es_set (i := 2) G rfl (by first | exact .inl rfl | exact .inr rfl) (show (2 : Nat) ∉ ([] : List Nat) by decide) (ev_callI G (ok__law_take E) (hr.mono (by decide)) (by rfl) E.d__law_take.m E.d__law_take.F.kp E.d__law_take.b (i := 1) rfl (by first | exact .inl rfl | exact .inr (.inl rfl) | exact .inr (.inr rfl)) (ea_cons ev_int ea_nil))) (eb_cons
  (es_par (i := 8) (j := 9) G rfl rfl (by decide) (show (8 : Nat) ∉ ([] : List Nat) by decide) (show (9 : Nat) ∉ ([] : List Nat) by decide) rfl rfl (el_cons (ev_callI G (ok__law_row E) (hr.mono (by decide)) (by rfl) E.d__law_row.m E.d__law_row.F.kp E.d__law_row.b (i := 1) rfl (by first | exact .inl rfl | exact .inr (.inl rfl) | exact .inr (.inr rfl)) (ea_cons (ev_name (i := 2) rfl (by first | exact .inl rfl | exact .inr (.inl rfl) | exact .inr (.inr rfl))) ea_nil)) (el_cons (ev_tuple G (by rfl) E.b_tuple (EvV.toO (EvE.toV (ev_lc (own := [((PySem.Str.ofString "j"), 12)]) (vs := [12]) (ws := [12]) 0 G (ei_rg1 (by rfl) E.b_range (ea_cons (EvE.toV (ev_add G (EvV.toO (EvE.toV (ev_max2 G (by rfl) E.b_max (EvV.toO (EvE.toV (ev_sub (ev_nameO (i := 2) rfl (by first | exact .inl rfl | exact .inr (.inl rfl) | exact .inr (.inr rfl))) (EvV.toO ev_int)))) (EvV.toO ev_int)))) (EvV.toO (EvE.toV (ev_callI G (ok__law_take E) (hr.mono (by decide)) (by rfl) E.d__law_take.m E.d__law_take.F.kp E.d__law_take.b (i := 1) rfl (by first | exact .inl rfl | exact .inr (.inl rfl) | exact .inr (.inr rfl)) (ea_cons ev_int ea_nil)))))) ea_nil)) (blkOk_by (by kernel_rfl)) rfl (by decide) (fun _ _ _ _ _ => blkG G fun G => (eg_name (i := 12) G rfl (by first | exact .inl rfl | exact .inr rfl) (show (12 : Nat) ∉ ([] : List Nat) by decide))) (fun _ _ _ _ _ => blkT G fun G => ept_nil) (fun _ _ _ _ _ => blkE G fun G => (EvV.toE (EvE.toV (ev_callI G (ok__law_nonzero E) (hr.mono (by decide)) (by rfl) E.d__law_nonzero.m E.d__law_nonzero.F.kp E.d__law_nonzero.b (i := 1) rfl (by first | exact .inl rfl | exact .inr (.inl rfl) | exact .inr (.inr rfl)) ea_nil)))))))) el_nil))) (eb_cons
  (es_asg (EvE.toV (ev_call G (ok__law_recursion E) (hr.mono (by decide)) (by rfl) E.d__law_recursion.m E.d__law_recursion.F.kp E.d__law_recursion.b (ea_cons (ev_name (i := 8) rfl (by first | exact .inl rfl | exact .inr (.inl rfl) | exact .inr (.inr rfl))) (ea_cons (ev_name (i := 9) rfl (by first | exact .inl rfl | exact .inr (.inl rfl) | exact .inr (.inr rfl))) ea_nil)))) (eg_tup G (egs_cons (eg_name (i := 10) G rfl (by first | exact .inl rfl | exact .inr rfl) (show (10 : Nat) ∉ ([] : List Nat) by decide)) (egs_cons (eg_name (i := 11) G rfl (by first | exact .inl rfl | exact .inr rfl) (show (11 : Nat) ∉ ([] : List Nat) by decide)) egs_nil)))) (eb_cons
  (es_if (et_cmp (cNe G hr) (EvV.toO (EvE.toV (ev_call G (ok__law_told E) (hr.mono (by decide)) (by rfl) E.d__law_told.m E.d__law_told.F.kp E.d__law_told.b (ea_cons ev_int (ea_cons (ev_name (i := 8) rfl (by first | exact .inl rfl | exact .inr (.inl rfl) | exact .inr (.inr rfl))) (ea_cons (ev_name (i := 9) rfl (by first | exact .inl rfl | exact .inr (.inl rfl) | exact .inr (.inr rfl))) ea_nil)))))) (EvV.toO (ev_tup (ea_cons (ev_name (i := 10) rfl (by first | exact .inl rfl | exact .inr (.inl rfl) | exact .inr (.inr rfl))) (ea_cons (ev_name (i := 11) rfl (by first | exact .inl rfl | exact .inr (.inl rfl) | exact .inr (.inr rfl))) ea_nil))))) (eb_one (es_ret (EvV.toE ev_bl))) eb_nil) (eb_cons
  (es_set (i := 3) G rfl (by first | exact .inl rfl | exact .inr rfl) (show (3 : Nat) ∉ ([] : List Nat) by decide) (ev_call G (ok__law_path_moments E) (hr.mono (by decide)) (by rfl) E.d__law_path_moments.m E.d__law_path_moments.F.kp E.d__law_path_moments.b (ea_cons (ev_name (i := 8) rfl (by first | exact .inl rfl | exact .inr (.inl rfl) | exact .inr (.inr rfl))) (ea_cons (ev_name (i := 9) rfl (by first | exact .inl rfl | exact .inr (.inl rfl) | exact .inr (.inr rfl))) (ea_cons (EvE.toV (ev_mul G (EvV.toO ev_int) (ev_nameO (i := 2) rfl (by first | exact .inl rfl | exact .inr (.inl rfl) | exact .inr (.inr rfl))))) ea_nil))))) (eb_cons
  (es_if (et_cmp (cNe G hr) (EvV.toO (EvE.toV (ev_call G (ok__law_plain E) (hr.mono (by decide)) (by rfl) E.d__law_plain.m E.d__law_plain.F.kp E.d__law_plain.b (ea_cons (EvE.toV (ev_call G (ok_path_moments E) (hr.mono (by decide)) (by rfl) E.d_path_moments.m E.d_path_moments.F.kp E.d_path_moments.b (ea_cons (ev_name (i := 8) rfl (by first | exact .inl rfl | exact .inr (.inl rfl) | exact .inr (.inr rfl))) (ea_cons (ev_name (i := 9) rfl (by first | exact .inl rfl | exact .inr (.inl rfl) | exact .inr (.inr rfl))) (ea_cons (EvE.toV (ev_mul G (EvV.toO ev_int) (ev_nameO (i := 2) rfl (by first | exact .inl rfl | exact .inr (.inl rfl) | exact .inr (.inr rfl))))) ea_nil))))) ea_nil)))) (ev_nameO (i := 3) rfl (by first | exact .inl rfl | exact .inr (.inl rfl) | exact .inr (.inr rfl)))) (eb_one (es_ret (EvV.toE ev_bl))) eb_nil) (eb_cons
  (es_for G (passes_of rfl) (ei_rg1 (by rfl) E.b_range (ea_cons (EvE.toV (ev_add G (ev_nameO (i := 2) rfl (by first | exact .inl rfl | exact .inr (.inl rfl) | exact .inr (.inr rfl))) (EvV.toO ev_int))) ea_nil)) (eg_name (i := 4) G rfl (by first | exact .inl rfl | exact .inr rfl) (show (4 : Nat) ∉ ([] : List Nat) by decide)) (eb_one (es_for G (passes_of rfl) (ei_rg1 (by rfl) E.b_range (ea_cons (EvE.toV (ev_add G (ev_nameO (i := 2) rfl (by first | exact .inl rfl | exact .inr (.inl rfl) | exact .inr (.inr rfl))) (EvV.toO ev_int))) ea_nil)) (eg_name (i := 12) G rfl (by first | exact .inl rfl | exact .inr rfl) (show (12 : Nat) ∉ ([] : List Nat) by decide)) (eb_cons
  (es_set (i := 13) G rfl (by first | exact .inl rfl | exact .inr rfl) (show (13 : Nat) ∉ ([] : List Nat) by decide) (ev_call G (ok__law_poly_times E) (hr.mono (by decide)) (by rfl) E.d__law_poly_times.m E.d__law_poly_times.F.kp E.d__law_poly_times.b (ea_cons (EvE.toV (ev_idx G hr (ev_nameO (i := 10) rfl (by first | exact .inl rfl | exact .inr (.inl rfl) | exact .inr (.inr rfl))) (ev_nameO (i := 4) rfl (by first | exact .inl rfl | exact .inr (.inl rfl) | exact .inr (.inr rfl))))) (ea_cons (EvE.toV (ev_idx G hr (ev_nameO (i := 10) rfl (by first | exact .inl rfl | exact .inr (.inl rfl) | exact .inr (.inr rfl))) (ev_nameO (i := 12) rfl (by first | exact .inl rfl | exact .inr (.inl rfl) | exact .inr (.inr rfl))))) ea_nil)))) (eb_cons
  (es_if (EvW.t (ew_and (et_cmp (cLt) (EvV.toO (EvE.toV (ev_add G (ev_nameO (i := 4) rfl (by first | exact .inl rfl | exact .inr (.inl rfl) | exact .inr (.inr rfl))) (ev_nameO (i := 12) rfl (by first | exact .inl rfl | exact .inr (.inl rfl) | exact .inr (.inr rfl)))))) (EvV.toO (EvE.toV (ev_add G (EvV.toO (EvE.toV (ev_mul G (EvV.toO ev_int) (ev_nameO (i := 2) rfl (by first | exact .inl rfl | exact .inr (.inl rfl) | exact .inr (.inr rfl)))))) (EvV.toO ev_int))))) (ew_and1 (et_cmp (cNe G hr) (EvV.toO (EvE.toV (ev_call G (ok__law_told E) (hr.mono (by decide)) (by rfl) E.d__law_told.m E.d__law_told.F.kp E.d__law_told.b (ea_cons ev_int (ea_cons (ev_name (i := 3) rfl (by first | exact .inl rfl | exact .inr (.inl rfl) | exact .inr (.inr rfl))) (ea_cons (ev_name (i := 13) rfl (by first | exact .inl rfl | exact .inr (.inl rfl) | exact .inr (.inr rfl))) ea_nil)))))) (EvV.toO (EvE.toV (ev_call G (ok__law_mean E) (hr.mono (by decide)) (by rfl) E.d__law_mean.m E.d__law_mean.F.kp E.d__law_mean.b (ea_cons (ev_name (i := 3) rfl (by first | exact .inl rfl | exact .inr (.inl rfl) | exact .inr (.inr rfl))) (ea_cons (ev_name (i := 13) rfl (by first | exact .inl rfl | exact .inr (.inl rfl) | exact .inr (.inr rfl))) ea_nil))))))))) (eb_one (es_ret (EvV.toE ev_bl))) eb_nil) (eb_cons
  (es_if (EvW.t (ew_and (et_cmp (cLt) (EvV.toO (EvE.toV (ev_add G (ev_nameO (i := 4) rfl (by first | exact .inl rfl | exact .inr (.inl rfl) | exact .inr (.inr rfl))) (ev_nameO (i := 12) rfl (by first | exact .inl rfl | exact .inr (.inl rfl) | exact .inr (.inr rfl)))))) (EvV.toO (EvE.toV (ev_mul G (EvV.toO ev_int) (ev_nameO (i := 2) rfl (by first | exact .inl rfl | exact .inr (.inl rfl) | exact .inr (.inr rfl))))))) (ew_and (et_cmp (cNe G hr) (ev_nameO (i := 4) rfl (by first | exact .inl rfl | exact .inr (.inl rfl) | exact .inr (.inr rfl))) (ev_nameO (i := 12) rfl (by first | exact .inl rfl | exact .inr (.inl rfl) | exact .inr (.inr rfl)))) (ew_and1 (et_cmp (cNe G hr) (EvV.toO (EvE.toV (ev_idx G hr (EvV.toO (EvE.toV (ev_call G (ok__law_mean E) (hr.mono (by decide)) (by rfl) E.d__law_mean.m E.d__law_mean.F.kp E.d__law_mean.b (ea_cons (ev_name (i := 3) rfl (by first | exact .inl rfl | exact .inr (.inl rfl) | exact .inr (.inr rfl))) (ea_cons (ev_name (i := 13) rfl (by first | exact .inl rfl | exact .inr (.inl rfl) | exact .inr (.inr rfl))) ea_nil))))) (EvV.toO ev_int)))) (EvV.toO ev_int)))))) (eb_one (es_ret (EvV.toE ev_bl))) eb_nil) (eb_one (es_if (EvW.t (ew_and (et_cmp (cEq G hr) (ev_nameO (i := 4) rfl (by first | exact .inl rfl | exact .inr (.inl rfl) | exact .inr (.inr rfl))) (ev_nameO (i := 12) rfl (by first | exact .inl rfl | exact .inr (.inl rfl) | exact .inr (.inr rfl)))) (ew_and (et_cmp (cLt) (ev_nameO (i := 4) rfl (by first | exact .inl rfl | exact .inr (.inl rfl) | exact .inr (.inr rfl))) (ev_nameO (i := 2) rfl (by first | exact .inl rfl | exact .inr (.inl rfl) | exact .inr (.inr rfl)))) (ew_and1 (et_cmp (cNe G hr) (EvV.toO (EvE.toV (ev_call G (ok__law_mean E) (hr.mono (by decide)) (by rfl) E.d__law_mean.m E.d__law_mean.F.kp E.d__law_mean.b (ea_cons (ev_name (i := 3) rfl (by first | exact .inl rfl | exact .inr (.inl rfl) | exact .inr (.inr rfl))) (ea_cons (ev_name (i := 13) rfl (by first | exact .inl rfl | exact .inr (.inl rfl) | exact .inr (.inr rfl))) ea_nil))))) (EvV.toO (EvE.toV (ev_call G (ok__law_product_of E) (hr.mono (by decide)) (by rfl) E.d__law_product_of.m E.d__law_product_of.F.kp E.d__law_product_of.b (ea_cons (EvE.toV (ev_slice G (ev_nameO (i := 9) rfl (by first | exact .inl rfl | exact .inr (.inl rfl) | exact .inr (.inr rfl))) ep_none (ep_some (ev_name (i := 4) rfl (by first | exact .inl rfl | exact .inr (.inl rfl) | exact .inr (.inr rfl)))))) ea_nil))))))))) (eb_one (es_ret (EvV.toE ev_bl))) eb_nil)))))))) (eb_cons
  (es_for G (passes_of rfl) (ei_rg2 (by rfl) E.b_range (ea_cons ev_int (ea_cons (EvE.toV (ev_add G (ev_nameO (i := 2) rfl (by first | exact .inl rfl | exact .inr (.inl rfl) | exact .inr (.inr rfl))) (EvV.toO ev_int))) ea_nil))) (eg_name (i := 4) G rfl (by first | exact .inl rfl | exact .inr rfl) (show (4 : Nat) ∉ ([] : List Nat) by decide)) (eb_one (es_if (et_not (et_tru G (EvV.toO (EvE.toV (ev_call G (ok__law_begins E) (hr.mono (by decide)) (by rfl) E.d__law_begins.m E.d__law_begins.F.kp E.d__law_begins.b (ea_cons (EvE.toV (ev_idx G hr (ev_nameO (i := 10) rfl (by first | exact .inl rfl | exact .inr (.inl rfl) | exact .inr (.inr rfl))) (ev_nameO (i := 4) rfl (by first | exact .inl rfl | exact .inr (.inl rfl) | exact .inr (.inr rfl))))) (ea_cons (EvE.toV (ev_idx G hr (ev_nameO (i := 11) rfl (by first | exact .inl rfl | exact .inr (.inl rfl) | exact .inr (.inr rfl))) (ev_nameO (i := 4) rfl (by first | exact .inl rfl | exact .inr (.inl rfl) | exact .inr (.inr rfl))))) (ea_cons (ev_name (i := 3) rfl (by first | exact .inl rfl | exact .inr (.inl rfl) | exact .inr (.inr rfl))) ea_nil)))))))) (eb_one (es_ret (EvV.toE ev_bl))) eb_nil))) (eb_cons
  (es_set (i := 5) G rfl (by first | exact .inl rfl | exact .inr rfl) (show (5 : Nat) ∉ ([] : List Nat) by decide) (ev_call G (ok__law_trimmed E) (hr.mono (by decide)) (by rfl) E.d__law_trimmed.m E.d__law_trimmed.F.kp E.d__law_trimmed.b (ea_cons (EvE.toV (ev_callI G (ok__law_row E) (hr.mono (by decide)) (by rfl) E.d__law_row.m E.d__law_row.F.kp E.d__law_row.b (i := 1) rfl (by first | exact .inl rfl | exact .inr (.inl rfl) | exact .inr (.inr rfl)) (ea_cons (EvE.toV (ev_add G (EvV.toO ev_int) (EvV.toO (EvE.toV (ev_callI G (ok__law_take E) (hr.mono (by decide)) (by rfl) E.d__law_take.m E.d__law_take.F.kp E.d__law_take.b (i := 1) rfl (by first | exact .inl rfl | exact .inr (.inl rfl) | exact .inr (.inr rfl)) (ea_cons ev_int ea_nil)))))) ea_nil))) ea_nil))) (eb_cons
  (es_set (i := 6) G rfl (by first | exact .inl rfl | exact .inr rfl) (show (6 : Nat) ∉ ([] : List Nat) by decide) (ev_callI G (ok__law_row E) (hr.mono (by decide)) (by rfl) E.d__law_row.m E.d__law_row.F.kp E.d__law_row.b (i := 1) rfl (by first | exact .inl rfl | exact .inr (.inl rfl) | exact .inr (.inr rfl)) (ea_cons ev_int ea_nil))) (eb_cons
  (es_if (EvW.t (ew_or (et_cmp (cNe G hr) (EvV.toO (EvE.toV (ev_call G (ok__law_told E) (hr.mono (by decide)) (by rfl) E.d__law_told.m E.d__law_told.F.kp E.d__law_told.b (ea_cons ev_int (ea_cons (ev_name (i := 6) rfl (by first | exact .inl rfl | exact .inr (.inl rfl) | exact .inr (.inr rfl))) (ea_cons (ev_name (i := 5) rfl (by first | exact .inl rfl | exact .inr (.inl rfl) | exact .inr (.inr rfl))) ea_nil)))))) (EvV.toO (EvE.toV (ev_call G (ok__law_mean E) (hr.mono (by decide)) (by rfl) E.d__law_mean.m E.d__law_mean.F.kp E.d__law_mean.b (ea_cons (ev_name (i := 6) rfl (by first | exact .inl rfl | exact .inr (.inl rfl) | exact .inr (.inr rfl))) (ea_cons (ev_name (i := 5) rfl (by first | exact .inl rfl | exact .inr (.inl rfl) | exact .inr (.inr rfl))) ea_nil)))))) (ew_or1 (et_cmp (cNe G hr) (EvV.toO (EvE.toV (ev_call G (ok__law_told E) (hr.mono (by decide)) (by rfl) E.d__law_told.m E.d__law_told.F.kp E.d__law_told.b (ea_cons ev_int (ea_cons (ev_name (i := 6) rfl (by first | exact .inl rfl | exact .inr (.inl rfl) | exact .inr (.inr rfl))) (ea_cons (ev_tup ea_nil) ea_nil)))))) (EvV.toO (ev_tup (ea_cons ev_int (ea_cons ev_int ea_nil)))))))) (eb_one (es_ret (EvV.toE ev_bl))) eb_nil) (eb_cons
  (es_if (EvW.t (ew_and (et_cmp (cGt) (EvV.toO (EvE.toV (ev_len G (by rfl) E.b_len (ev_nameO (i := 5) rfl (by first | exact .inl rfl | exact .inr (.inl rfl) | exact .inr (.inr rfl)))))) (EvV.toO ev_int)) (ew_and1 (et_cmp (cNe G hr) (EvV.toO (EvE.toV (ev_call G (ok__law_told E) (hr.mono (by decide)) (by rfl) E.d__law_told.m E.d__law_told.F.kp E.d__law_told.b (ea_cons ev_int (ea_cons (EvE.toV (ev_slice G (ev_nameO (i := 6) rfl (by first | exact .inl rfl | exact .inr (.inl rfl) | exact .inr (.inr rfl))) ep_none (ep_some (EvE.toV (ev_sub (EvV.toO (EvE.toV (ev_len G (by rfl) E.b_len (ev_nameO (i := 5) rfl (by first | exact .inl rfl | exact .inr (.inl rfl) | exact .inr (.inr rfl)))))) (EvV.toO ev_int)))))) (ea_cons (ev_name (i := 5) rfl (by first | exact .inl rfl | exact .inr (.inl rfl) | exact .inr (.inr rfl))) ea_nil)))))) (EvV.toO ev_str))))) (eb_one (es_ret (EvV.toE ev_bl))) eb_nil) (eb_cons
  (es_for G (passes_of rfl) (ei_seq G (EvE.toV (ev_lst (ea_cons ev_non (ea_cons ev_int (ea_cons (EvE.toV (ev_lst (ea_cons (ev_tup (ea_cons ev_int (ea_cons ev_int ea_nil))) ea_nil))) (ea_cons (ev_tup (ea_cons (ev_tup (ea_cons ev_int (ea_cons ev_int ea_nil))) ea_nil)) (ea_cons (ev_tup (ea_cons ev_int ea_nil)) (ea_cons (EvE.toV (ev_rep G (EvV.toO (ev_tup (ea_cons (ev_tup (ea_cons ev_int (ea_cons ev_int ea_nil))) ea_nil))) (EvV.toO ev_int))) ea_nil))))))))) (eg_name (i := 7) G rfl (by first | exact .inl rfl | exact .inr rfl) (show (7 : Nat) ∉ ([] : List Nat) by decide)) (eb_one (es_if (et_cmp (cNe G hr) (EvV.toO (EvE.toV (ev_lst (ea_cons (EvE.toV (ev_call G (ok__law_told E) (hr.mono (by decide)) (by rfl) E.d__law_told.m E.d__law_told.F.kp E.d__law_told.b (ea_cons ev_int (ea_cons (ev_name (i := 7) rfl (by first | exact .inl rfl | exact .inr (.inl rfl) | exact .inr (.inr rfl))) (ea_cons (ev_name (i := 9) rfl (by first | exact .inl rfl | exact .inr (.inl rfl) | exact .inr (.inr rfl))) ea_nil))))) (ea_cons (EvE.toV (ev_call G (ok__law_told E) (hr.mono (by decide)) (by rfl) E.d__law_told.m E.d__law_told.F.kp E.d__law_told.b (ea_cons ev_int (ea_cons (ev_name (i := 8) rfl (by first | exact .inl rfl | exact .inr (.inl rfl) | exact .inr (.inr rfl))) (ea_cons (ev_name (i := 7) rfl (by first | exact .inl rfl | exact .inr (.inl rfl) | exact .inr (.inr rfl))) ea_nil))))) (ea_cons (EvE.toV (ev_call G (ok__law_told E) (hr.mono (by decide)) (by rfl) E.d__law_told.m E.d__law_told.F.kp E.d__law_told.b (ea_cons ev_int (ea_cons (ev_name (i := 7) rfl (by first | exact .inl rfl | exact .inr (.inl rfl) | exact .inr (.inr rfl))) (ea_cons (ev_name (i := 5) rfl (by first | exact .inl rfl | exact .inr (.inl rfl) | exact .inr (.inr rfl))) ea_nil))))) ea_nil)))))) (EvV.toO (EvE.toV (ev_mul G (EvV.toO (EvE.toV (ev_lst (ea_cons ev_str ea_nil)))) (EvV.toO ev_int))))) (eb_one (es_ret (EvV.toE ev_bl))) eb_nil))) (eb_cons
  (es_if (EvW.t (ew_and (et_cmp (cGt) (ev_nameO (i := 2) rfl (by first | exact .inl rfl | exact .inr (.inl rfl) | exact .inr (.inr rfl))) (EvV.toO ev_int)) (ew_and1 (et_cmp (cNe G hr) (EvV.toO (EvE.toV (ev_call G (ok__law_told E) (hr.mono (by decide)) (by rfl) E.d__law_told.m E.d__law_told.F.kp E.d__law_told.b (ea_cons ev_int (ea_cons (ev_name (i := 8) rfl (by first | exact .inl rfl | exact .inr (.inl rfl) | exact .inr (.inr rfl))) (ea_cons (EvE.toV (ev_slice G (ev_nameO (i := 9) rfl (by first | exact .inl rfl | exact .inr (.inl rfl) | exact .inr (.inr rfl))) ep_none (ep_some (EvE.toV (ev_sub (ev_nameO (i := 2) rfl (by first | exact .inl rfl | exact .inr (.inl rfl) | exact .inr (.inr rfl))) (EvV.toO ev_int)))))) ea_nil)))))) (EvV.toO ev_str))))) (eb_one (es_ret (EvV.toE ev_bl))) eb_nil) (eb_one (es_ret (ev_cmp (cEq G hr) (EvV.toO (EvE.toV (ev_lc (own := [((PySem.Str.ofString "bad"), 7)]) (vs := [7]) (ws := [7]) 0 G (ei_seq G (EvE.toV (ev_lst (ea_cons ev_non (ea_cons ev_int (ea_cons (ev_tup (ea_cons (ev_tup (ea_cons ev_int (ea_cons ev_int ea_nil))) ea_nil)) (ea_cons (ev_tup (ea_cons (ev_tup (ea_cons ev_int (ea_cons ev_int ea_nil))) (ea_cons (ev_tup (ea_cons ev_int (ea_cons ev_int ea_nil))) ea_nil))) (ea_cons (EvE.toV (ev_lst (ea_cons (ev_tup (ea_cons ev_int (ea_cons ev_int ea_nil))) ea_nil))) (ea_cons (ev_tup (ea_cons (ev_tup (ea_cons ev_int (ea_cons ev_int ea_nil))) ea_nil)) ea_nil))))))))) (blkOk_by (by kernel_rfl)) rfl (by decide) (fun _ _ _ _ _ => blkG G fun G => (eg_name (i := 7) G rfl (by first | exact .inl rfl | exact .inr rfl) (show (7 : Nat) ∉ ([] : List Nat) by decide))) (fun _ _ _ _ _ => blkT G fun G => ept_nil) (fun _ _ _ _ _ => blkE G fun G => (EvV.toE (EvE.toV (ev_call G (ok__law_told E) (hr.mono (by decide)) (by rfl) E.d__law_told.m E.d__law_told.F.kp E.d__law_told.b (ea_cons ev_int (ea_cons (ev_name (i := 6) rfl (by first | exact .inl rfl | exact .inr (.inl rfl) | exact .inr (.inr rfl))) (ea_cons (ev_name (i := 7) rfl (by first | exact .inl rfl | exact .inr (.inl rfl) | exact .inr (.inr rfl))) ea_nil)))))))))) (EvV.toO (EvE.toV (ev_mul G (EvV.toO (EvE.toV (ev_lst (ea_cons ev_str ea_nil)))) (EvV.toO ev_int))))))))))))))))))))))
end L37
end

section
set_option Elab.async false
set_option linter.all false
set_option maxRecDepth 100000
set_option maxHeartbeats 4000000
namespace Tv
open PySem Pv
def PE (x : Xn) (_ : Unit) (r : SR) : Prop := r = .ex x
def JX {α : Type} (Γ : Gm) (f : En → R α) (x : Xn) : Prop := ∀ e, Le Γ e → f e = .ex x
section
variable {Γ Γ1 : Gm} {x : Xn} {rest A B : En → SR} {u : Unit}
theorem jx_ifr {c : En → R Bool} {b : Bool} (h : J Γ c b Γ1) (hb : b = true) (hA : ∀ e, A e = .ex x) : JK (PE x) Γ (seqS (iteS c A B) rest) u := fun e l => by
  obtain ⟨e', h1, _⟩ := h e l
  subst hb
  show seqS (iteS c A B) rest e = .ex x
  unfold seqS iteS
  rw [h1]
  simp only [Pv.R.then_ok, if_true, hA]
theorem jx_call {n : Nat} {F : Sl → List D → FR} {r : En → R (List D)} {ds : List D} (h : J Γ r ds Γ1) (hn : Nat.beq ds.length n = true) (hF : F none ds = .ex x) : JX Γ (callF n F r) x := fun e l => by
  obtain ⟨e', h1, _⟩ := h e l
  unfold callF
  rw [h1]
  simp only [R.bind_ok]
  rw [if_pos (Nat.eq_of_beq_eq_true hn), hF]
  rfl
theorem jx_expr {fe : En → R (D × Nat)} (h : JX Γ fe x) : JK (PE x) Γ (seqS (exprS fe) rest) u := fun e l => by
  show seqS (exprS fe) rest e = .ex x
  unfold seqS exprS
  rw [h e l]
  rfl
theorem jxf_of {n : Nat} {g : En → SR} {ds : List D} {v : Unit} (h : JK (PE x) (entry n ds) g v) : fnF n false g none ds = .ex x := by
  have l : Le (entry n ds) (en0 n none ds) := by
    unfold entry en0
    rw [List.nil_append, Nat.zero_add]
    exact le_app (le_en ds) (le_rep _)
  exact fnF_ex (h _ l)
end
end Tv
namespace Tv
open PySem Pv
def intOf : D → Int
  | .int i => i
  | _ => 0
theorem g_cmpAI {f : Int → Int → Bool} {a : D} (h : isIntD a = true) (b : Int) : cmpD f a (eI b) = some (eB (f (intOf a) b), 0) := by
  cases a <;> first | (cases h; done) | rfl
theorem g_cmpIA {f : Int → Int → Bool} {b : D} (a : Int) (h : isIntD b = true) : cmpD f (eI a) b = some (eB (f a (intOf b)), 0) := by
  cases b <;> first | (cases h; done) | rfl
end Tv
end

section
set_option Elab.async false
set_option linter.all false
set_option maxRecDepth 100000
set_option maxHeartbeats 4000000
namespace Tv
open PySem Pv
end Tv
end

section
set_option Elab.async false
set_option linter.all false
set_option maxRecDepth 100000
set_option maxHeartbeats 4000000
namespace Tv
open PySem Pv
end Tv
end

section
set_option Elab.async false
set_option linter.all false
set_option maxRecDepth 100000
set_option maxHeartbeats 4000000
namespace Tv
open PySem Pv
end Tv
end

section
set_option Elab.async false
set_option linter.all false
set_option maxRecDepth 100000
set_option maxHeartbeats 4000000
namespace Tv
open PySem Pv
section
variable {Γ Γ1 Γ' : Gm} {r : En → R (List Opd)} {ds : List D}
end
end Tv
end

section
set_option Elab.async false
set_option linter.all false
set_option maxRecDepth 100000
set_option maxHeartbeats 4000000
namespace Tv
open PySem Pv
section
variable {σ ρ τ σ' : Type} {Γ Γ1 : Gm} {P : τ → SR → Prop} {rest A B : En → SR} {c : En → R Bool} {b : Bool} {K : σ → τ} {S : σ → Prop}
end
end Tv
end

section
set_option Elab.async false
set_option linter.all false
set_option maxRecDepth 100000
set_option maxHeartbeats 4000000
namespace Tv
open PySem Pv
theorem retS_ite (c : En → R Bool) (a b : En → R (D × Nat)) : retS (iteE c a b) = iteS c (retS a) (retS b) := by
  funext env
  unfold retS iteE iteS
  cases c env with
  | ok v e => cases v <;> rfl
  | ex x => rfl
  | no => rfl
theorem jk_retIte {τ : Type} {P : τ → SR → Prop} {Γ : Gm} {rest : En → SR} {c : En → R Bool} {a b : En → R (D × Nat)} {v : τ} (h : JK P Γ (seqS (iteS c (retS a) (retS b)) rest) v) : JK P Γ (seqS (retS (iteE c a b)) rest) v := by
  rw [retS_ite]; exact h
end Tv
end

section
set_option Elab.async false
set_option linter.all false
set_option maxRecDepth 100000
set_option maxHeartbeats 4000000
namespace Tv
open PySem Pv
end Tv
end

section
set_option Elab.async false
set_option linter.all false
set_option maxRecDepth 100000
set_option maxHeartbeats 4000000
namespace Tv
open PySem Pv
end Tv
end

section
set_option Elab.async false
set_option linter.all false
set_option maxRecDepth 100000
set_option maxHeartbeats 4000000
namespace Tv
open PySem Pv
end Tv
end

section
set_option Elab.async false
set_option linter.all false
set_option maxRecDepth 100000
set_option maxHeartbeats 4000000
namespace Tv
open PySem Pv L2
section
variable {α : Type}
end
section
variable {Γ Γ1 Γ2 : Gm} {τ : Type} {P : τ → SR → Prop} {rest : En → SR}
end
end Tv
namespace Tv
open PySem Pv
end Tv
end

section
set_option Elab.async false
set_option linter.all false
set_option maxRecDepth 100000
set_option maxHeartbeats 4000000
namespace Tv
open PySem Pv
section
variable {L : Sl → List D → FR} (hL : LowF L) {a b : Rat} (ha : Sm a) (hb : Sm b)
include hL ha hb
end
end Tv
namespace Tv
open PySem Pv
end Tv
namespace Tv
open PySem Pv
end Tv
namespace Tv
open PySem Pv
end Tv
end

section
set_option Elab.async false
set_option linter.all false
set_option maxRecDepth 100000
set_option maxHeartbeats 4000000
namespace Tv
open PySem Pv
end Tv
namespace Tv
open PySem Pv
end Tv
end

section
set_option Elab.async false
set_option linter.all false
set_option maxRecDepth 100000
set_option maxHeartbeats 4000000
namespace Tv
open PySem Pv
end Tv
end

section
set_option Elab.async false
set_option linter.all false
set_option maxRecDepth 100000
set_option maxHeartbeats 4000000
namespace Tv
open PySem Pv
end Tv
end

section
set_option Elab.async false
set_option linter.all false
set_option maxRecDepth 100000
set_option maxHeartbeats 4000000
namespace Tv
open PySem Pv
end Tv
end

section
set_option Elab.async false
set_option linter.all false
set_option maxRecDepth 100000
set_option maxHeartbeats 4000000
namespace Tv
open PySem Pv
end Tv
end

section
set_option Elab.async false
set_option linter.all false
set_option maxRecDepth 100000
set_option maxHeartbeats 4000000
open PySem Pv Tv
namespace L37
noncomputable section
theorem t__law_frac (n d : Int) (h : lowOk n d) : F__law_frac none [eI n, eI d] = .ok (eQ (Rat.divInt n d), 0) none := t_fracB n d h
theorem lf__law_frac : LowF F__law_frac := t__law_frac
theorem t_lowest (n d : Int) (h : lowOk n d) : F_lowest none [eI n, eI d] = .ok (eQ (Rat.divInt n d), 0) none := t_low n d h
theorem lf_lowest : LowF F_lowest := t_lowest
theorem t__law_add (a b : Rat) (ha : Sm a) (hb : Sm b) : F__law_add none [eQ a, eQ b] = .ok (eQ (a + b), 0) none := q_sum lf__law_frac ha hb
theorem t__law_times (a b : Rat) (ha : Sm a) (hb : Sm b) : F__law_times none [eQ a, eQ b] = .ok (eQ (a * b), 0) none := q_prod lf__law_frac ha hb
theorem t__law_less (a b : Rat) (ha : Sm a) (hb : Sm b) : F__law_less none [eQ a, eQ b] = .ok (eQ (a - b), 0) none := q_less lf__law_frac ha hb
theorem t_is_integer (d : D) (h : nice d = true) : F_is_integer none [d] = .ok (eB (isIntD d), 0) none := q_isInt d h
theorem t_is_ratio (d : D) (h : ratOk d) : F_is_ratio none [d] = .ok (eB (isRatD d), 0) none := q_isRat d h
theorem t_ratio_sum (a b : Rat) (ha : Sm a) (hb : Sm b) : F_ratio_sum none [eQ a, eQ b] = .ok (eQ (a + b), 0) none := q_sum lf_lowest ha hb
theorem t_ratio_product (a b : Rat) (ha : Sm a) (hb : Sm b) : F_ratio_product none [eQ a, eQ b] = .ok (eQ (a * b), 0) none := q_prod lf_lowest ha hb
def T_check_row_c1  (b5 : Pv.D) : Bool := (isRatD b5)
def SC_check_row_c1  (b5 : Pv.D) : Prop := (ratOk b5)
def T_check_row (row_ : Pv.D) : Unit := ()
def SC_check_row (row_ : Pv.D) : Prop := (nice row_ = true) ∧ ((!(isTupD row_)) = false → (isTupD row_ = true) ∧ ((decide ((12 : Nat) < (tupOf row_).length)) = false → (isTupD row_ = true) ∧ (∀ b ∈ (tupOf row_), SC_check_row_c1 b) ∧ ((tupOf row_).length ≤ lim))) ∧ (((!(isTupD row_)) || ((decide ((12 : Nat) < (tupOf row_).length)) || (!(((tupOf row_).map (T_check_row_c1)).all id)))) = false)
theorem t_check_row (row_ : Pv.D) (h : SC_check_row row_) : F_check_row none [eD row_] = .ok (eU (T_check_row row_), 0) none :=
  jf_of (E := fun x => (eU x, 0)) (v := T_check_row row_) (show JK _ ([.ex (eD row_) 0, .un] : Gm) g_check_row _ from (jk_last (jk_ifx (jt_or (jt_not (jt_tru (jo_v (j_v (j_op1 (jo_nm rfl) hq0 (isi_tupD h.1)))) hq0 (tr_B (isTupD row_)))) fun hb7 => (jt_or (jt_tst (j_op2 (jo_v (j_v (j_op1 (jo_nm rfl) hq0 (len_tupD (h.2.1 hb7).1)))) (jo_v j_int) hq0 hq0 (g_gtN (tupOf row_).length (12 : Nat)))) fun hb8 => (jt_not (jt_tru (jo_v (j_v (j_op1 (jo_v (j_v (j_comp (S := SC_check_row_c1) eD eB (T_check_row_c1) ([.ex (eD row_) 0, .un] : Gm) (ji_seq (j_nm rfl) (its_tupD ((h.2.1 hb7).2 hb8).1)) (.cons .same (.cons .same .nil)) ((h.2.1 hb7).2 hb8).2.2 ((h.2.1 hb7).2 hb8).2.1 (fun b5 => (jg_name rfl)) (fun b5 h6 => (j_e (j_v (j_call (ja_cons (j_nm rfl) ja_nil) rfl (t_is_ratio b5 h6))))) (fun b5 => (.cons .same (.cons .same .nil)))))) hq0 (g_all ((tupOf row_).map (T_check_row_c1)))))) hq0 (tr_B (((tupOf row_).map (T_check_row_c1)).all id)))))) h.2.2 (jk_pass (jk_none rfl)))))
def T_check_count (n_ : Pv.D) : Unit := ()
def SC_check_count (n_ : Pv.D) : Prop := (nice n_ = true) ∧ ((!(isIntD n_)) = false → (isIntD n_ = true) ∧ ((decide ((0 : Int) ≤ (intOf n_))) = true → (isIntD n_ = true))) ∧ (((!(isIntD n_)) || (!(decide ((0 : Int) ≤ (intOf n_)) && decide ((intOf n_) ≤ (12 : Int))))) = false)
theorem t_check_count (n_ : Pv.D) (h : SC_check_count n_) : F_check_count none [eD n_] = .ok (eU (T_check_count n_), 0) none :=
  jf_of (E := fun x => (eU x, 0)) (v := T_check_count n_) (show JK _ ([.ex (eD n_) 0] : Gm) g_check_count _ from (jk_last (jk_ifx (jt_or (jt_not (jt_tru (jo_v (j_v (j_call (ja_cons (j_nm rfl) ja_nil) rfl (t_is_integer n_ h.1)))) hq0 (tr_B (isIntD n_)))) fun hb13 => (jt_not (jt_tst (j_opC (k' := 0) (jo_v j_int) (jo_nm rfl) hq0 hq0 (g_cmpIA (0 : Int) (h.2.1 hb13).1) (fun hb12 => (jo_v j_int)) hq0 fun hb12 => (g_cmpAI ((h.2.1 hb13).2 hb12) (12 : Int)))))) h.2.2 (jk_pass (jk_none rfl)))))
def T_is_polynomial_c1  (b19 : Pv.D) : Bool := (isRatD b19)
def SC_is_polynomial_c1  (b19 : Pv.D) : Prop := (ratOk b19)
def T_is_polynomial (value_ : Pv.D) : Bool := (cond ((!(isTupD value_)) || ((decide ((61 : Nat) < (tupOf value_).length)) || (!(((tupOf value_).map (T_is_polynomial_c1)).all id)))) false ((decide ((tupOf value_).length = (0 : Nat))) || (!eqDD (eD ((tupOf ((tupOf value_).getD ((tupOf value_).length - 1) D.non)).getD (0 : Nat) D.non)) (eN (0 : Nat)))))
def SC_is_polynomial (value_ : Pv.D) : Prop := (nice value_ = true) ∧ ((!(isTupD value_)) = false → (isTupD value_ = true) ∧ ((decide ((61 : Nat) < (tupOf value_).length)) = false → (isTupD value_ = true) ∧ (∀ b ∈ (tupOf value_), SC_is_polynomial_c1 b) ∧ ((tupOf value_).length ≤ lim))) ∧ (((!(isTupD value_)) || ((decide ((61 : Nat) < (tupOf value_).length)) || (!(((tupOf value_).map (T_is_polynomial_c1)).all id)))) = false → (isTupD value_ = true) ∧ ((decide ((tupOf value_).length = (0 : Nat))) = false → (isTupD value_ = true) ∧ (0 < (tupOf value_).length) ∧ (isTupD ((tupOf value_).getD ((tupOf value_).length - 1) D.non) = true) ∧ ((0 : Nat) < (tupOf ((tupOf value_).getD ((tupOf value_).length - 1) D.non)).length) ∧ (EqOk (eD ((tupOf ((tupOf value_).getD ((tupOf value_).length - 1) D.non)).getD (0 : Nat) D.non)) (eN (0 : Nat)))))
theorem t_is_polynomial (value_ : Pv.D) (h : SC_is_polynomial value_) : F_is_polynomial none [eD value_] = .ok (eB (T_is_polynomial value_), 0) none :=
  jf_of (E := fun x => (eB x, 0)) (v := T_is_polynomial value_) (show JK _ ([.ex (eD value_) 0, .un] : Gm) g_is_polynomial _ from (jk_if (jt_or (jt_not (jt_tru (jo_v (j_v (j_op1 (jo_nm rfl) hq0 (isi_tupD h.1)))) hq0 (tr_B (isTupD value_)))) fun hb21 => (jt_or (jt_tst (j_op2 (jo_v (j_v (j_op1 (jo_nm rfl) hq0 (len_tupD (h.2.1 hb21).1)))) (jo_v j_int) hq0 hq0 (g_gtN (tupOf value_).length (61 : Nat)))) fun hb22 => (jt_not (jt_tru (jo_v (j_v (j_op1 (jo_v (j_v (j_comp (S := SC_is_polynomial_c1) eD eB (T_is_polynomial_c1) ([.ex (eD value_) 0, .un] : Gm) (ji_seq (j_nm rfl) (its_tupD ((h.2.1 hb21).2 hb22).1)) (.cons .same (.cons .same .nil)) ((h.2.1 hb21).2 hb22).2.2 ((h.2.1 hb21).2 hb22).2.1 (fun b19 => (jg_name rfl)) (fun b19 h20 => (j_e (j_v (j_call (ja_cons (j_nm rfl) ja_nil) rfl (t_is_ratio b19 h20))))) (fun b19 => (.cons .same (.cons .same .nil)))))) hq0 (g_all ((tupOf value_).map (T_is_polynomial_c1)))))) hq0 (tr_B (((tupOf value_).map (T_is_polynomial_c1)).all id)))))) (fun hb24 => (jk_ret (j_e j_bl))) (fun hb24 => (jk_pass (jk_last (jk_ret (j_e (jv_or (j_v (j_op2 (jo_v (j_v (j_op1 (jo_nm rfl) hq0 (len_tupD (h.2.2 hb24).1)))) (jo_v j_int) hq0 hq0 (g_eqN (tupOf value_).length (0 : Nat)))) fun hb25 => (j_v (j_op2 (jo_v (j_v (j_op2 (jo_v (j_v (j_op2 (jo_nm rfl) (jo_v (j_v (j_op1 (jo_v j_int) hq0 (g_neg (1 : Int))))) hq0 hq0 (idx_tupAnym ((h.2.2 hb24).2 hb25).1 ((h.2.2 hb24).2 hb25).2.1)))) (jo_v j_int) hq0 hq0 (idx_tupAny (k := (0 : Nat)) ((h.2.2 hb24).2 hb25).2.2.1 ((h.2.2 hb24).2 hb25).2.2.2.1)))) (jo_v j_int) hq0 hq0 (g_neDD ((h.2.2 hb24).2 hb25).2.2.2.2)))))))))))
def T_check_polynomials_c1  (b28 : Pv.D) : Bool := (T_is_polynomial b28)
def SC_check_polynomials_c1  (b28 : Pv.D) : Prop := (SC_is_polynomial b28)
def T_check_polynomials (values_ : (List Pv.D)) : Unit := ()
def SC_check_polynomials (values_ : (List Pv.D)) : Prop := (∀ b ∈ values_, SC_check_polynomials_c1 b) ∧ (values_.length ≤ lim) ∧ ((!((values_.map (T_check_polynomials_c1)).all id)) = false)
theorem t_check_polynomials (values_ : (List Pv.D)) (h : SC_check_polynomials values_) : F_check_polynomials none [(eT eD) values_] = .ok (eU (T_check_polynomials values_), 0) none :=
  jf_of (E := fun x => (eU x, 0)) (v := T_check_polynomials values_) (show JK _ ([.ex ((eT eD) values_) 0, .un] : Gm) g_check_polynomials _ from (jk_last (jk_ifx (jt_not (jt_tru (jo_v (j_v (j_op1 (jo_v (j_v (j_comp (S := SC_check_polynomials_c1) eD eB (T_check_polynomials_c1) ([.ex ((eT eD) values_) 0, .un] : Gm) (ji_seq (j_nm rfl) (i_T _ values_)) (.cons .same (.cons .same .nil)) h.2.1 h.1 (fun b28 => (jg_name rfl)) (fun b28 h29 => (j_e (j_v (j_call (ja_cons (j_nm rfl) ja_nil) rfl (t_is_polynomial b28 h29))))) (fun b28 => (.cons .same (.cons .same .nil)))))) hq0 (g_all (values_.map (T_check_polynomials_c1)))))) hq0 (tr_B ((values_.map (T_check_polynomials_c1)).all id)))) h.2.2 (jk_pass (jk_none rfl)))))
def T_check_ratio (value_ : Pv.D) : Unit := ()
def SC_check_ratio (value_ : Pv.D) : Prop := (ratOk value_) ∧ ((!(isRatD value_)) = false)
theorem t_check_ratio (value_ : Pv.D) (h : SC_check_ratio value_) : F_check_ratio none [eD value_] = .ok (eU (T_check_ratio value_), 0) none :=
  jf_of (E := fun x => (eU x, 0)) (v := T_check_ratio value_) (show JK _ ([.ex (eD value_) 0] : Gm) g_check_ratio _ from (jk_last (jk_ifx (jt_not (jt_tru (jo_v (j_v (j_call (ja_cons (j_nm rfl) ja_nil) rfl (t_is_ratio value_ h.1)))) hq0 (tr_B (isRatD value_)))) h.2 (jk_pass (jk_none rfl)))))
def C_trimmed_w1  (s32 : (List Rat)) : Bool := ((decide ((0 : Nat) < s32.length)) && (decide ((Tv.nth s32 (s32.length - 1)).num = (0 : Int))))
def T_trimmed_w1  (s32 : (List Rat)) : (List Rat) := (List.dropLast s32)
def SA_trimmed_w1  (s32 : (List Rat)) : Prop := ((decide ((0 : Nat) < s32.length)) = true → (0 < s32.length))
def SB_trimmed_w1  (s32 : (List Rat)) : Prop := (0 < s32.length)
def T_trimmed (items_ : (List Rat)) : (List Rat) := (Let items_ fun found30 => (Let (iterW (C_trimmed_w1) (T_trimmed_w1) 200 found30) fun s32 => s32))
def SC_trimmed (items_ : (List Rat)) : Prop := (Let items_ fun found30 => (AllW (SA_trimmed_w1) (SB_trimmed_w1) (C_trimmed_w1) (T_trimmed_w1) 200 found30))
theorem t_trimmed (items_ : (List Rat)) (h : SC_trimmed items_) : F_trimmed none [(eL eQ) items_] = .ok ((eT eQ) (T_trimmed items_), 0) none :=
  jf_of (E := fun x => ((eT eQ) x, 0)) (v := T_trimmed items_) (show JK _ ([.ex ((eL eQ) items_) 0, .un] : Gm) g_trimmed _ from (jk_set (eL eQ) (j_op1 (jo_nm rfl) hq0 (g_lisL _ items_)) rfl h fun found30 h31 => (jk_while (S := fun _ => True) (cT := C_trimmed_w1) (step := T_trimmed_w1) (s0 := found30) (fun (s32 : (List Rat)) => ([.ex ((eL eQ) items_) 0, .ex ((eL eQ) s32) 1] : Gm)) (.cons .same (.cons .same .nil)) h31 (fun s32 h35 => (jt_and (jt_tst (j_op2 (jo_v (j_v (j_op1 (jo_nm1 rfl) (hq1 rfl) (g_lenL _ s32)))) (jo_v j_int) hq0 hq0 (g_gtN s32.length (0 : Nat)))) fun hb33 => (jt_tst (j_op2 (jo_v (j_v (j_op2 (jo_v (j_v (j_op2 (jo_nm1 rfl) (jo_v (j_v (j_op1 (jo_v j_int) hq0 (g_neg (1 : Int))))) (hq1 rfl) hq0 (g_idxLm (f := eQ) (h35 hb33))))) (jo_v j_int) hq0 hq0 g_p0))) (jo_v j_int) hq0 hq0 (g_eqI (Tv.nth s32 (s32.length - 1)).num (0 : Int)))))) (fun s32 h36 => (jk_last (jk_expr (j_e (j_pop rfl h36)) (jk_go (.cons .same (.cons .same .nil)))))) trivial fun s32 _ => (jk_last (jk_ret (j_op1 (jo_nm1 rfl) (hq1 rfl) (g_tupL _ s32)))))))
def T_added_c1  (b45 : (Rat × Rat)) : Rat := (b45.1 + b45.2)
def SC_added_c1  (b45 : (Rat × Rat)) : Prop := (Sm b45.1) ∧ (Sm b45.2)
def T_added (f_ : (List Rat)) (g_ : (List Rat)) : (List Rat) := (Let (max f_.length g_.length) fun size38 => (Let (f_ ++ (List.replicate (size38 - f_.length) ([(((0 : Int) : Rat))])).flatten) fun one40 => (Let (g_ ++ (List.replicate (size38 - g_.length) ([(((0 : Int) : Rat))])).flatten) fun two42 => (T_trimmed ((one40.zip two42).map (T_added_c1))))))
def SC_added (f_ : (List Rat)) (g_ : (List Rat)) : Prop := (Let (max f_.length g_.length) fun size38 => (f_.length ≤ size38) ∧ (([(((0 : Int) : Rat))]).length * (size38 - f_.length) ≤ lim ∧ (size38 - f_.length) ≤ lim) ∧ (f_.length + ((List.replicate (size38 - f_.length) ([(((0 : Int) : Rat))])).flatten).length ≤ lim) ∧ (Let (f_ ++ (List.replicate (size38 - f_.length) ([(((0 : Int) : Rat))])).flatten) fun one40 => (g_.length ≤ size38) ∧ (([(((0 : Int) : Rat))]).length * (size38 - g_.length) ≤ lim ∧ (size38 - g_.length) ≤ lim) ∧ (g_.length + ((List.replicate (size38 - g_.length) ([(((0 : Int) : Rat))])).flatten).length ≤ lim) ∧ (Let (g_ ++ (List.replicate (size38 - g_.length) ([(((0 : Int) : Rat))])).flatten) fun two42 => (∀ b ∈ (one40.zip two42), SC_added_c1 b) ∧ ((one40.zip two42).length ≤ lim) ∧ (SC_trimmed ((one40.zip two42).map (T_added_c1))))))
theorem t_added (f_ : (List Rat)) (g_ : (List Rat)) (h : SC_added f_ g_) : F_added none [(eT eQ) f_, (eT eQ) g_] = .ok ((eT eQ) (T_added f_ g_), 0) none :=
  jf_of (E := fun x => ((eT eQ) x, 0)) (v := T_added f_ g_) (show JK _ ([.ex ((eT eQ) f_) 0, .ex ((eT eQ) g_) 0, .un, .un, .un, .un, .un] : Gm) g_added _ from (jk_set eN (j_op2 (jo_v (j_v (j_op1 (jo_nm rfl) hq0 (g_lenT _ f_)))) (jo_v (j_v (j_op1 (jo_nm rfl) hq0 (g_lenT _ g_)))) hq0 hq0 (g_max2N f_.length g_.length)) rfl h fun size38 h39 => (jk_set (eL eQ) (j_op2 (jo_v (j_v (j_op1 (jo_nm rfl) hq0 (g_lisT _ f_)))) (jo_v (j_v (j_op2 (jo_v (j_v (j_lst (ja_cons (j_tup (ja_cons j_int (ja_cons j_int ja_nil)) rfl) ja_nil) rfl))) (jo_v (j_v (j_op2 (jo_nm rfl) (jo_v (j_v (j_op1 (jo_nm rfl) hq0 (g_lenT _ f_)))) hq0 hq0 (g_subN h39.1)))) hq0 hq0 (g_mulL (f := eQ) h39.2.1)))) hq0 hq0 (g_catL (f := eQ) h39.2.2.1)) rfl h39.2.2.2 fun one40 h41 => (jk_set (eL eQ) (j_op2 (jo_v (j_v (j_op1 (jo_nm rfl) hq0 (g_lisT _ g_)))) (jo_v (j_v (j_op2 (jo_v (j_v (j_lst (ja_cons (j_tup (ja_cons j_int (ja_cons j_int ja_nil)) rfl) ja_nil) rfl))) (jo_v (j_v (j_op2 (jo_nm rfl) (jo_v (j_v (j_op1 (jo_nm rfl) hq0 (g_lenT _ g_)))) hq0 hq0 (g_subN h41.1)))) hq0 hq0 (g_mulL (f := eQ) h41.2.1)))) hq0 hq0 (g_catL (f := eQ) h41.2.2.1)) rfl h41.2.2.2 fun two42 h43 => (jk_last (jk_ret (j_call (ja_cons (j_v (j_comp (S := SC_added_c1) (e2 eQ eQ) eQ (T_added_c1) ([.ex ((eT eQ) f_) 0, .ex ((eT eQ) g_) 0, .ex (eN size38) 0, .ex ((eL eQ) one40) 0, .ex ((eL eQ) two42) 0, .un, .un] : Gm) (ji_zip (ja_cons (j_nmS rfl) (ja_cons (j_nmS rfl) ja_nil)) (i_zipL _ _ one40 two42)) (.cons .same (.cons .same (.cons .same (.cons .same (.cons .same (.cons .same (.cons .same .nil))))))) h43.2.1 h43.1 (fun b45 => (jg_tup rfl (jg_cons (jg_name rfl) (jg_cons (jg_name rfl) jg_nil)))) (fun b45 h46 => (j_e (j_v (j_call (ja_cons (j_nm rfl) (ja_cons (j_nm rfl) ja_nil)) rfl (t_ratio_sum b45.1 b45.2 h46.1 h46.2))))) (fun b45 => (.cons .same (.cons .same (.cons .same (.cons .same (.cons .same (.cons .same (.cons .same .nil)))))))))) ja_nil) rfl (t_trimmed ((one40.zip two42).map (T_added_c1)) h43.2.2))))))))
def T_scaled_c1 (c_ : Rat) (b48 : Rat) : Rat := (b48 * c_)
def SC_scaled_c1 (c_ : Rat) (b48 : Rat) : Prop := (Sm b48) ∧ (Sm c_)
def T_scaled (f_ : (List Rat)) (c_ : Rat) : (List Rat) := (T_trimmed (f_.map (T_scaled_c1 c_)))
def SC_scaled (f_ : (List Rat)) (c_ : Rat) : Prop := (∀ b ∈ f_, SC_scaled_c1 c_ b) ∧ (f_.length ≤ lim) ∧ (SC_trimmed (f_.map (T_scaled_c1 c_)))
theorem t_scaled (f_ : (List Rat)) (c_ : Rat) (h : SC_scaled f_ c_) : F_scaled none [(eT eQ) f_, eQ c_] = .ok ((eT eQ) (T_scaled f_ c_), 0) none :=
  jf_of (E := fun x => ((eT eQ) x, 0)) (v := T_scaled f_ c_) (show JK _ ([.ex ((eT eQ) f_) 0, .ex (eQ c_) 0, .un] : Gm) g_scaled _ from (jk_last (jk_ret (j_call (ja_cons (j_v (j_comp (S := SC_scaled_c1 c_) eQ eQ (T_scaled_c1 c_) ([.ex ((eT eQ) f_) 0, .ex (eQ c_) 0, .un] : Gm) (ji_seq (j_nm rfl) (i_T _ f_)) (.cons .same (.cons .same (.cons .same .nil))) h.2.1 h.1 (fun b48 => (jg_name rfl)) (fun b48 h49 => (j_e (j_v (j_call (ja_cons (j_nm rfl) (ja_cons (j_nm rfl) ja_nil)) rfl (t_ratio_product b48 c_ h49.1 h49.2))))) (fun b48 => (.cons .same (.cons .same (.cons .same .nil)))))) ja_nil) rfl (t_trimmed (f_.map (T_scaled_c1 c_)) h.2.2)))))
def T_times_l1 (b55 : (Nat × Rat)) (s58 : (List Rat)) (b57 : (Nat × Rat)) : (List Rat) := (Let (s58.set (b55.1 + b57.1) ((Tv.nth s58 (b55.1 + b57.1)) + (b55.2 * b57.2))) fun found59 => found59)
def SC_times_l1 (b55 : (Nat × Rat)) (s58 : (List Rat)) (b57 : (Nat × Rat)) : Prop := ((b55.1 + b57.1) < s58.length) ∧ (Sm b55.2) ∧ (Sm b57.2) ∧ (Sm (Tv.nth s58 (b55.1 + b57.1))) ∧ (Sm (b55.2 * b57.2))
def T_times_l2 (g_ : (List Rat)) (s56 : (List Rat)) (b55 : (Nat × Rat)) : (List Rat) := (Let ((Tv.enumT g_).foldl (T_times_l1 b55) s56) fun s58 => s58)
def SC_times_l2 (g_ : (List Rat)) (s56 : (List Rat)) (b55 : (Nat × Rat)) : Prop := (AllF (SC_times_l1 b55) (T_times_l1 b55) (Tv.enumT g_) s56)
def T_times (f_ : (List Rat)) (g_ : (List Rat)) : (List Rat) := (cond ((decide (f_.length = (0 : Nat))) || (decide (g_.length = (0 : Nat)))) ([] : (List Rat)) (Let ((List.replicate ((f_.length + g_.length) - (1 : Nat)) ([(((0 : Int) : Rat))])).flatten) fun found53 => (Let ((Tv.enumT f_).foldl (T_times_l2 g_) found53) fun s56 => (T_trimmed s56))))
def SC_times (f_ : (List Rat)) (g_ : (List Rat)) : Prop := (((decide (f_.length = (0 : Nat))) || (decide (g_.length = (0 : Nat)))) = false → ((1 : Nat) ≤ (f_.length + g_.length)) ∧ (([(((0 : Int) : Rat))]).length * ((f_.length + g_.length) - (1 : Nat)) ≤ lim ∧ ((f_.length + g_.length) - (1 : Nat)) ≤ lim) ∧ (Let ((List.replicate ((f_.length + g_.length) - (1 : Nat)) ([(((0 : Int) : Rat))])).flatten) fun found53 => (AllF (SC_times_l2 g_) (T_times_l2 g_) (Tv.enumT f_) found53) ∧ (Let ((Tv.enumT f_).foldl (T_times_l2 g_) found53) fun s56 => (SC_trimmed s56))))
theorem t_times (f_ : (List Rat)) (g_ : (List Rat)) (h : SC_times f_ g_) : F_times none [(eT eQ) f_, (eT eQ) g_] = .ok ((eT eQ) (T_times f_ g_), 0) none :=
  jf_of (E := fun x => ((eT eQ) x, 0)) (v := T_times f_ g_) (show JK _ ([.ex ((eT eQ) f_) 0, .ex ((eT eQ) g_) 0, .un, .un, .un, .un, .un] : Gm) g_times _ from (jk_if (jt_or (jt_tst (j_op2 (jo_v (j_v (j_op1 (jo_nm rfl) hq0 (g_lenT _ f_)))) (jo_v j_int) hq0 hq0 (g_eqN f_.length (0 : Nat)))) fun hb50 => (jt_tst (j_op2 (jo_v (j_v (j_op1 (jo_nm rfl) hq0 (g_lenT _ g_)))) (jo_v j_int) hq0 hq0 (g_eqN g_.length (0 : Nat))))) (fun hb52 => (jk_ret (j_e (j_tup ja_nil rfl)))) (fun hb52 => (jk_pass (jk_set (eL eQ) (j_op2 (jo_v (j_v (j_lst (ja_cons (j_tup (ja_cons j_int (ja_cons j_int ja_nil)) rfl) ja_nil) rfl))) (jo_v (j_v (j_op2 (jo_v (j_v (j_op2 (jo_v (j_v (j_op1 (jo_nm rfl) hq0 (g_lenT _ f_)))) (jo_v (j_v (j_op1 (jo_nm rfl) hq0 (g_lenT _ g_)))) hq0 hq0 (g_addN f_.length g_.length)))) (jo_v j_int) hq0 hq0 (g_subN (h hb52).1)))) hq0 hq0 (g_mulL (f := eQ) (h hb52).2.1)) rfl (h hb52).2.2 fun found53 h54 => (jk_for (step := T_times_l2 g_) (s0 := found53) (SB := SC_times_l2 g_) (fun (s56 : (List Rat)) => ([.ex ((eT eQ) f_) 0, .ex ((eT eQ) g_) 0, .ex ((eL eQ) s56) 1, .un, .un, .un, .un] : Gm)) (e2 eN eQ) (ji_enum (ja_cons (j_nm rfl) ja_nil) (enum_T _ f_)) (.cons .same (.cons .same (.cons .same (.cons .same (.cons .same (.cons .same (.cons .same .nil))))))) h54.1 (fun s56 b55 => (jg_tup rfl (jg_cons (jg_name rfl) (jg_cons (jg_name rfl) jg_nil)))) (fun s56 b55 h63 => (jl_weak (jk_last (jk_for (S := fun _ => True) (step := T_times_l1 b55) (s0 := s56) (SB := SC_times_l1 b55) (fun (s58 : (List Rat)) => ([.ex ((eT eQ) f_) 0, .ex ((eT eQ) g_) 0, .ex ((eL eQ) s58) 1, .ex (eN b55.1) 0, .ex (eQ b55.2) 0, .un, .un] : Gm)) (e2 eN eQ) (ji_enum (ja_cons (j_nm rfl) ja_nil) (enum_T _ g_)) (.cons .same (.cons .same (.cons .same (.cons .same (.cons .same (.cons .same (.cons .same .nil))))))) h63 (fun s58 b57 => (jg_tup rfl (jg_cons (jg_name rfl) (jg_cons (jg_name rfl) jg_nil)))) (fun s58 b57 h61 => (jl_weak (jk_last (jk_sub (S := fun _ => True) eQ (j := (((b55.1 + b57.1) : Nat) : Int)) (j_v (j_call (ja_cons (j_v (j_op2 (jo_nm1 rfl) (jo_v (j_v (j_op2 (jo_nm rfl) (jo_nm rfl) hq0 hq0 (g_addN b55.1 b57.1)))) (hq1 rfl) hq0 (g_idxL (f := eQ) h61.1))) (ja_cons (j_v (j_call (ja_cons (j_nm rfl) (ja_cons (j_nm rfl) ja_nil)) rfl (t_ratio_product b55.2 b57.2 h61.2.1 h61.2.2.1))) ja_nil)) rfl (t_ratio_sum (Tv.nth s58 (b55.1 + b57.1)) (b55.2 * b57.2) h61.2.2.2.1 h61.2.2.2.2))) rfl (j_v (j_op2 (jo_nm rfl) (jo_nm rfl) hq0 hq0 (g_addN b55.1 b57.1))) rfl (ixn h61.1) trivial fun found59 _ => (jk_nx (.cons .same (.cons .same (.cons .same (.cons .same (.cons .same (.cons .un (.cons .un .nil)))))))))))) trivial fun s58 _ => (jk_nx (.cons .same (.cons .same (.cons .same (.cons .un (.cons .un (.cons .same (.cons .same .nil)))))))))))) h54.2 fun s56 h64 => (jk_last (jk_ret (j_call (ja_cons (j_nmS rfl) ja_nil) rfl (t_trimmed s56 h64))))))))))
def T_poly_less (f_ : (List Rat)) (g_ : (List Rat)) : (List Rat) := (T_added f_ (T_scaled g_ (((-(1 : Int)) : Int) : Rat)))
def SC_poly_less (f_ : (List Rat)) (g_ : (List Rat)) : Prop := (SC_check_polynomials ([((eT eQ) f_), ((eT eQ) g_)] : (List Pv.D))) ∧ (SC_scaled g_ (((-(1 : Int)) : Int) : Rat)) ∧ (SC_added f_ (T_scaled g_ (((-(1 : Int)) : Int) : Rat)))
theorem t_poly_less (f_ : (List Rat)) (g_ : (List Rat)) (h : SC_poly_less f_ g_) : F_poly_less none [(eT eQ) f_, (eT eQ) g_] = .ok ((eT eQ) (T_poly_less f_ g_), 0) none :=
  jf_of (E := fun x => ((eT eQ) x, 0)) (v := T_poly_less f_ g_) (show JK _ ([.ex ((eT eQ) f_) 0, .ex ((eT eQ) g_) 0] : Gm) g_poly_less _ from (jk_expr (j_call (ja_cons (j_tup (ja_cons (j_nm rfl) (ja_cons (j_nm rfl) ja_nil)) rfl) ja_nil) rfl (t_check_polynomials ([((eT eQ) f_), ((eT eQ) g_)] : (List Pv.D)) h.1)) (jk_last (jk_ret (j_call (ja_cons (j_nm rfl) (ja_cons (j_v (j_call (ja_cons (j_nm rfl) (ja_cons (j_tup (ja_cons (j_v (j_op1 (jo_v j_int) hq0 (g_neg (1 : Int)))) (ja_cons j_int ja_nil)) rfl) ja_nil)) rfl (t_scaled g_ (((-(1 : Int)) : Int) : Rat) h.2.1))) ja_nil)) rfl (t_added f_ (T_scaled g_ (((-(1 : Int)) : Int) : Rat)) h.2.2))))))
def T_poly_product (f_ : (List Rat)) (g_ : (List Rat)) : (List Rat) := (T_times f_ g_)
def SC_poly_product (f_ : (List Rat)) (g_ : (List Rat)) : Prop := (SC_check_polynomials ([((eT eQ) f_), ((eT eQ) g_)] : (List Pv.D))) ∧ (SC_times f_ g_)
theorem t_poly_product (f_ : (List Rat)) (g_ : (List Rat)) (h : SC_poly_product f_ g_) : F_poly_product none [(eT eQ) f_, (eT eQ) g_] = .ok ((eT eQ) (T_poly_product f_ g_), 0) none :=
  jf_of (E := fun x => ((eT eQ) x, 0)) (v := T_poly_product f_ g_) (show JK _ ([.ex ((eT eQ) f_) 0, .ex ((eT eQ) g_) 0] : Gm) g_poly_product _ from (jk_expr (j_call (ja_cons (j_tup (ja_cons (j_nm rfl) (ja_cons (j_nm rfl) ja_nil)) rfl) ja_nil) rfl (t_check_polynomials ([((eT eQ) f_), ((eT eQ) g_)] : (List Pv.D)) h.1)) (jk_last (jk_ret (j_call (ja_cons (j_nm rfl) (ja_cons (j_nm rfl) ja_nil)) rfl (t_times f_ g_ h.2))))))
def T_poly_scaled (f_ : (List Rat)) (c_ : Rat) : (List Rat) := (T_scaled f_ c_)
def SC_poly_scaled (f_ : (List Rat)) (c_ : Rat) : Prop := (SC_check_polynomials ([((eT eQ) f_)] : (List Pv.D))) ∧ (SC_check_ratio (eQ c_)) ∧ (SC_scaled f_ c_)
theorem t_poly_scaled (f_ : (List Rat)) (c_ : Rat) (h : SC_poly_scaled f_ c_) : F_poly_scaled none [(eT eQ) f_, eQ c_] = .ok ((eT eQ) (T_poly_scaled f_ c_), 0) none :=
  jf_of (E := fun x => ((eT eQ) x, 0)) (v := T_poly_scaled f_ c_) (show JK _ ([.ex ((eT eQ) f_) 0, .ex (eQ c_) 0] : Gm) g_poly_scaled _ from (jk_expr (j_call (ja_cons (j_tup (ja_cons (j_nm rfl) ja_nil) rfl) ja_nil) rfl (t_check_polynomials ([((eT eQ) f_)] : (List Pv.D)) h.1)) (jk_expr (j_call (ja_cons (j_nm rfl) ja_nil) rfl (t_check_ratio (eQ c_) h.2.1)) (jk_last (jk_ret (j_call (ja_cons (j_nm rfl) (ja_cons (j_nm rfl) ja_nil)) rfl (t_scaled f_ c_ h.2.2)))))))
def T_item_at (row_ : (List Rat)) (k_ : Nat) : Rat := (cond (decide (k_ < row_.length)) (Tv.nth row_ k_) (((0 : Int) : Rat)))
def SC_item_at (row_ : (List Rat)) (k_ : Nat) : Prop := ((decide (k_ < row_.length)) = true → (k_ < row_.length))
theorem t_item_at (row_ : (List Rat)) (k_ : Nat) (h : SC_item_at row_ k_) : F_item_at none [(eT eQ) row_, eN k_] = .ok (eQ (T_item_at row_ k_), 0) none :=
  jf_of (E := fun x => (eQ x, 0)) (v := T_item_at row_ k_) (show JK _ ([.ex ((eT eQ) row_) 0, .ex (eN k_) 0] : Gm) g_item_at _ from (jk_last (jk_ret (j_ite (E := fun x => (eQ x, 0)) (v1 := (Tv.nth row_ k_)) (v2 := (((0 : Int) : Rat))) (jt_tst (j_op2 (jo_nm rfl) (jo_v (j_v (j_op1 (jo_nm rfl) hq0 (g_lenT _ row_)))) hq0 hq0 (g_ltN k_ row_.length))) (fun hb65 => (j_op2 (jo_nm rfl) (jo_nm rfl) hq0 hq0 (g_idxT (f := eQ) (h hb65)))) (fun hb65 => (j_e j_c))))))
def T_moments_by_paths_l1 (a_ : (List Rat)) (b_ : (List Rat)) (n_ : Nat) (s71 : ((List Rat) × (List Rat))) (s75 : (List Rat)) (b74 : Nat) : (List Rat) := (Let ((Tv.nth s71.1 b74) * (T_item_at a_ b74)) fun total76 => (Let (cond (decide ((0 : Nat) < b74)) (Let (total76 + (Tv.nth s71.1 (b74 - (1 : Nat)))) fun total80 => total80) total76) fun s78 => (Let (cond (decide (b74 < n_)) (Let (s78 + ((Tv.nth s71.1 (b74 + (1 : Nat))) * (T_item_at b_ b74))) fun total85 => total85) s78) fun s83 => (Let (s75 ++ [s83]) fun later88 => later88))))
def SC_moments_by_paths_l1 (a_ : (List Rat)) (b_ : (List Rat)) (n_ : Nat) (s71 : ((List Rat) × (List Rat))) (s75 : (List Rat)) (b74 : Nat) : Prop := (b74 < s71.1.length) ∧ (SC_item_at a_ b74) ∧ (Sm (Tv.nth s71.1 b74)) ∧ (Sm (T_item_at a_ b74)) ∧ (Let ((Tv.nth s71.1 b74) * (T_item_at a_ b74)) fun total76 => ((decide ((0 : Nat) < b74)) = true → ((1 : Nat) ≤ b74) ∧ ((b74 - (1 : Nat)) < s71.1.length) ∧ (Sm total76) ∧ (Sm (Tv.nth s71.1 (b74 - (1 : Nat))))) ∧ (Let (cond (decide ((0 : Nat) < b74)) (Let (total76 + (Tv.nth s71.1 (b74 - (1 : Nat)))) fun total80 => total80) total76) fun s78 => ((decide (b74 < n_)) = true → ((b74 + (1 : Nat)) < s71.1.length) ∧ (SC_item_at b_ b74) ∧ (Sm (Tv.nth s71.1 (b74 + (1 : Nat)))) ∧ (Sm (T_item_at b_ b74)) ∧ (Sm s78) ∧ (Sm ((Tv.nth s71.1 (b74 + (1 : Nat))) * (T_item_at b_ b74)))) ∧ (Let (cond (decide (b74 < n_)) (Let (s78 + ((Tv.nth s71.1 (b74 + (1 : Nat))) * (T_item_at b_ b74))) fun total85 => total85) s78) fun s83 => (s75.length < lim))))
def T_moments_by_paths_l2 (a_ : (List Rat)) (b_ : (List Rat)) (n_ : Nat) (s71 : ((List Rat) × (List Rat))) (b70 : Nat) : ((List Rat) × (List Rat)) := (Let ([] : (List Rat)) fun later72 => (Let ((List.range (n_ + (1 : Nat))).foldl (T_moments_by_paths_l1 a_ b_ n_ s71) later72) fun s75 => (Let s75 fun heights92 => (Let (s71.2 ++ [(Tv.nth heights92 (0 : Nat))]) fun found94 => (heights92, found94)))))
def SC_moments_by_paths_l2 (a_ : (List Rat)) (b_ : (List Rat)) (n_ : Nat) (s71 : ((List Rat) × (List Rat))) (b70 : Nat) : Prop := (Let ([] : (List Rat)) fun later72 => ((n_ + (1 : Nat)) ≤ lim) ∧ (AllF (SC_moments_by_paths_l1 a_ b_ n_ s71) (T_moments_by_paths_l1 a_ b_ n_ s71) (List.range (n_ + (1 : Nat))) later72) ∧ (Let ((List.range (n_ + (1 : Nat))).foldl (T_moments_by_paths_l1 a_ b_ n_ s71) later72) fun s75 => (Let s75 fun heights92 => ((0 : Nat) < heights92.length) ∧ (s71.2.length < lim))))
def T_moments_by_paths (a_ : (List Rat)) (b_ : (List Rat)) (n_ : Nat) : (List Rat) := (Let ([(((1 : Int) : Rat))] ++ (List.replicate n_ ([(((0 : Int) : Rat))])).flatten) fun heights66 => (Let ([] : (List Rat)) fun found68 => (Let ((List.range n_).foldl (T_moments_by_paths_l2 a_ b_ n_) (heights66, found68)) fun s71 => s71.2)))
def SC_moments_by_paths (a_ : (List Rat)) (b_ : (List Rat)) (n_ : Nat) : Prop := (([(((0 : Int) : Rat))]).length * n_ ≤ lim ∧ n_ ≤ lim) ∧ (([(((1 : Int) : Rat))]).length + ((List.replicate n_ ([(((0 : Int) : Rat))])).flatten).length ≤ lim) ∧ (Let ([(((1 : Int) : Rat))] ++ (List.replicate n_ ([(((0 : Int) : Rat))])).flatten) fun heights66 => (Let ([] : (List Rat)) fun found68 => (n_ ≤ lim) ∧ (AllF (SC_moments_by_paths_l2 a_ b_ n_) (T_moments_by_paths_l2 a_ b_ n_) (List.range n_) (heights66, found68))))
theorem t_moments_by_paths (a_ : (List Rat)) (b_ : (List Rat)) (n_ : Nat) (h : SC_moments_by_paths a_ b_ n_) : F_moments_by_paths none [(eT eQ) a_, (eT eQ) b_, eN n_] = .ok ((eT eQ) (T_moments_by_paths a_ b_ n_), 0) none :=
  jf_of (E := fun x => ((eT eQ) x, 0)) (v := T_moments_by_paths a_ b_ n_) (show JK _ ([.ex ((eT eQ) a_) 0, .ex ((eT eQ) b_) 0, .ex (eN n_) 0, .un, .un, .un, .un, .un, .un] : Gm) g_moments_by_paths _ from (jk_set (eL eQ) (j_op2 (jo_v (j_v (j_lst (ja_cons j_c ja_nil) rfl))) (jo_v (j_v (j_op2 (jo_v (j_v (j_lst (ja_cons j_c ja_nil) rfl))) (jo_nm rfl) hq0 hq0 (g_mulL (f := eQ) h.1)))) hq0 hq0 (g_catL (f := eQ) h.2.1)) rfl h.2.2 fun heights66 h67 => (jk_set (eL eQ) (j_lst ja_nil rfl) rfl h67 fun found68 h69 => (jk_for (S := fun _ => True) (step := T_moments_by_paths_l2 a_ b_ n_) (s0 := (heights66, found68)) (SB := SC_moments_by_paths_l2 a_ b_ n_) (fun (s71 : ((List Rat) × (List Rat))) => ([.ex ((eT eQ) a_) 0, .ex ((eT eQ) b_) 0, .ex (eN n_) 0, .lo ((eL eQ) s71.1), .ex ((eL eQ) s71.2) 1, .un, .un, .un, .un] : Gm)) eN (ji_rg1 (ja_cons (j_nm rfl) ja_nil) (i_rgN h69.1)) (.cons .same (.cons .same (.cons .same (.cons .lo1 (.cons .same (.cons .same (.cons .same (.cons .same (.cons .same .nil))))))))) h69.2 (fun s71 b70 => (jg_name rfl)) (fun s71 b70 h96 => (jl_weak (jk_set (eL eQ) (j_lst ja_nil rfl) rfl h96 fun later72 h73 => (jk_for (step := T_moments_by_paths_l1 a_ b_ n_ s71) (s0 := later72) (SB := SC_moments_by_paths_l1 a_ b_ n_ s71) (fun (s75 : (List Rat)) => ([.ex ((eT eQ) a_) 0, .ex ((eT eQ) b_) 0, .ex (eN n_) 0, .lo ((eL eQ) s71.1), .ex ((eL eQ) s71.2) 1, .ex (eN b70) 0, .ex ((eL eQ) s75) 1, .un, .un] : Gm)) eN (ji_rg1 (ja_cons (j_v (j_op2 (jo_nm rfl) (jo_v j_int) hq0 hq0 (g_addN n_ (1 : Nat)))) ja_nil) (i_rgN h73.1)) (.cons .same (.cons .same (.cons .same (.cons .same (.cons .same (.cons .same (.cons .same (.cons .same (.cons .same .nil))))))))) h73.2.1 (fun s75 b74 => (jg_name rfl)) (fun s75 b74 h90 => (jl_weak (jk_set eQ (j_call (ja_cons (j_v (j_op2 (jo_nmL rfl) (jo_nm rfl) (hq1 rfl) hq0 (g_idxL (f := eQ) h90.1))) (ja_cons (j_v (j_call (ja_cons (j_nm rfl) (ja_cons (j_nm rfl) ja_nil)) rfl (t_item_at a_ b74 h90.2.1))) ja_nil)) rfl (t_ratio_product (Tv.nth s71.1 b74) (T_item_at a_ b74) h90.2.2.1 h90.2.2.2.1)) rfl h90.2.2.2.2 fun total76 h77 => (jk_ifn (fun (s78 : Rat) => ([.ex ((eT eQ) a_) 0, .ex ((eT eQ) b_) 0, .ex (eN n_) 0, .lo ((eL eQ) s71.1), .ex ((eL eQ) s71.2) 1, .ex (eN b70) 0, .ex ((eL eQ) s75) 1, .ex (eN b74) 0, .ex (eQ s78) 0] : Gm)) (jt_tst (j_op2 (jo_nm rfl) (jo_v j_int) hq0 hq0 (g_gtN b74 (0 : Nat)))) (fun hb79 => (jk_last (jk_set (S := fun _ => True) eQ (j_call (ja_cons (j_nm rfl) (ja_cons (j_v (j_op2 (jo_nmL rfl) (jo_v (j_v (j_op2 (jo_nm rfl) (jo_v j_int) hq0 hq0 (g_subN (h77.1 hb79).1)))) (hq1 rfl) hq0 (g_idxL (f := eQ) (h77.1 hb79).2.1))) ja_nil)) rfl (t_ratio_sum total76 (Tv.nth s71.1 (b74 - (1 : Nat))) (h77.1 hb79).2.2.1 (h77.1 hb79).2.2.2)) rfl trivial fun total80 _ => (jk_nx (.cons .same (.cons .same (.cons .same (.cons .same (.cons .same (.cons .same (.cons .same (.cons .same (.cons .same .nil))))))))))))) (fun hb79 => (jk_nx (.cons .same (.cons .same (.cons .same (.cons .same (.cons .same (.cons .same (.cons .same (.cons .same (.cons .same .nil))))))))))) h77.2 fun s78 h82 => (jk_ifn (fun (s83 : Rat) => ([.ex ((eT eQ) a_) 0, .ex ((eT eQ) b_) 0, .ex (eN n_) 0, .lo ((eL eQ) s71.1), .ex ((eL eQ) s71.2) 1, .ex (eN b70) 0, .ex ((eL eQ) s75) 1, .ex (eN b74) 0, .ex (eQ s83) 0] : Gm)) (jt_tst (j_op2 (jo_nm rfl) (jo_nm rfl) hq0 hq0 (g_ltN b74 n_))) (fun hb84 => (jk_last (jk_set (S := fun _ => True) eQ (j_call (ja_cons (j_nm rfl) (ja_cons (j_v (j_call (ja_cons (j_v (j_op2 (jo_nmL rfl) (jo_v (j_v (j_op2 (jo_nm rfl) (jo_v j_int) hq0 hq0 (g_addN b74 (1 : Nat))))) (hq1 rfl) hq0 (g_idxL (f := eQ) (h82.1 hb84).1))) (ja_cons (j_v (j_call (ja_cons (j_nm rfl) (ja_cons (j_nm rfl) ja_nil)) rfl (t_item_at b_ b74 (h82.1 hb84).2.1))) ja_nil)) rfl (t_ratio_product (Tv.nth s71.1 (b74 + (1 : Nat))) (T_item_at b_ b74) (h82.1 hb84).2.2.1 (h82.1 hb84).2.2.2.1))) ja_nil)) rfl (t_ratio_sum s78 ((Tv.nth s71.1 (b74 + (1 : Nat))) * (T_item_at b_ b74)) (h82.1 hb84).2.2.2.2.1 (h82.1 hb84).2.2.2.2.2)) rfl trivial fun total85 _ => (jk_nx (.cons .same (.cons .same (.cons .same (.cons .same (.cons .same (.cons .same (.cons .same (.cons .same (.cons .same .nil))))))))))))) (fun hb84 => (jk_nx (.cons .same (.cons .same (.cons .same (.cons .same (.cons .same (.cons .same (.cons .same (.cons .same (.cons .same .nil))))))))))) h82.2 fun s83 h87 => (jk_last (jk_app (S := fun _ => True) eQ rfl (j_nm rfl) rfl h87 trivial fun later88 _ => (jk_nx (.cons .same (.cons .same (.cons .same (.cons .same (.cons .same (.cons .same (.cons .same (.cons .un (.cons .un .nil))))))))))))))))) h73.2.2 fun s75 h91 => (jk_set (eL eQ) (j_e (j_nmS rfl)) rfl h91 fun heights92 h93 => (jk_last (jk_app (S := fun _ => True) eQ rfl (j_v (j_op2 (jo_nm rfl) (jo_v j_int) hq0 hq0 (g_idxL (f := eQ) h93.1))) rfl h93.2 trivial fun found94 _ => (jk_nx (.cons .same (.cons .same (.cons .same (.cons .lo0 (.cons .same (.cons .un (.cons .un (.cons .same (.cons .same .nil))))))))))))))))) trivial fun s71 _ => (jk_last (jk_ret (j_op1 (jo_nm1 rfl) (hq1 rfl) (g_tupL _ s71.2))))))))
def T_path_moments (a_ : (List Rat)) (b_ : (List Rat)) (n_ : Nat) : (List Rat) := (T_moments_by_paths a_ b_ n_)
def SC_path_moments (a_ : (List Rat)) (b_ : (List Rat)) (n_ : Nat) : Prop := (SC_check_row ((eT eQ) a_)) ∧ (SC_check_row ((eT eQ) b_)) ∧ (SC_check_count (eN n_)) ∧ (SC_moments_by_paths a_ b_ n_)
theorem t_path_moments (a_ : (List Rat)) (b_ : (List Rat)) (n_ : Nat) (h : SC_path_moments a_ b_ n_) : F_path_moments none [(eT eQ) a_, (eT eQ) b_, eN n_] = .ok ((eT eQ) (T_path_moments a_ b_ n_), 0) none :=
  jf_of (E := fun x => ((eT eQ) x, 0)) (v := T_path_moments a_ b_ n_) (show JK _ ([.ex ((eT eQ) a_) 0, .ex ((eT eQ) b_) 0, .ex (eN n_) 0] : Gm) g_path_moments _ from (jk_expr (j_call (ja_cons (j_nm rfl) ja_nil) rfl (t_check_row ((eT eQ) a_) h.1)) (jk_expr (j_call (ja_cons (j_nm rfl) ja_nil) rfl (t_check_row ((eT eQ) b_) h.2.1)) (jk_expr (j_call (ja_cons (j_nm rfl) ja_nil) rfl (t_check_count (eN n_) h.2.2.1)) (jk_last (jk_ret (j_call (ja_cons (j_nm rfl) (ja_cons (j_nm rfl) (ja_cons (j_nm rfl) ja_nil))) rfl (t_moments_by_paths a_ b_ n_ h.2.2.2))))))))
def T_next_polynomial (last_ : (List Rat)) (before_ : (List Rat)) (a_ : Rat) (b_ : Rat) : (List Rat) := (Let (T_poly_less (T_poly_product ([(((0 : Int) : Rat)), (((1 : Int) : Rat))] : List Rat) last_) (T_poly_scaled last_ a_)) fun led98 => (T_poly_less led98 (T_poly_scaled before_ b_)))
def SC_next_polynomial (last_ : (List Rat)) (before_ : (List Rat)) (a_ : Rat) (b_ : Rat) : Prop := (SC_poly_product ([(((0 : Int) : Rat)), (((1 : Int) : Rat))] : List Rat) last_) ∧ (SC_poly_scaled last_ a_) ∧ (SC_poly_less (T_poly_product ([(((0 : Int) : Rat)), (((1 : Int) : Rat))] : List Rat) last_) (T_poly_scaled last_ a_)) ∧ (Let (T_poly_less (T_poly_product ([(((0 : Int) : Rat)), (((1 : Int) : Rat))] : List Rat) last_) (T_poly_scaled last_ a_)) fun led98 => (SC_poly_scaled before_ b_) ∧ (SC_poly_less led98 (T_poly_scaled before_ b_)))
theorem t_next_polynomial (last_ : (List Rat)) (before_ : (List Rat)) (a_ : Rat) (b_ : Rat) (h : SC_next_polynomial last_ before_ a_ b_) : F_next_polynomial none [(eT eQ) last_, (eT eQ) before_, eQ a_, eQ b_] = .ok ((eT eQ) (T_next_polynomial last_ before_ a_ b_), 0) none :=
  jf_of (E := fun x => ((eT eQ) x, 0)) (v := T_next_polynomial last_ before_ a_ b_) (show JK _ ([.ex ((eT eQ) last_) 0, .ex ((eT eQ) before_) 0, .ex (eQ a_) 0, .ex (eQ b_) 0, .un] : Gm) g_next_polynomial _ from (jk_set (eT eQ) (j_call (ja_cons (j_v (j_call (ja_cons j_c (ja_cons (j_nm rfl) ja_nil)) rfl (t_poly_product ([(((0 : Int) : Rat)), (((1 : Int) : Rat))] : List Rat) last_ h.1))) (ja_cons (j_v (j_call (ja_cons (j_nm rfl) (ja_cons (j_nm rfl) ja_nil)) rfl (t_poly_scaled last_ a_ h.2.1))) ja_nil)) rfl (t_poly_less (T_poly_product ([(((0 : Int) : Rat)), (((1 : Int) : Rat))] : List Rat) last_) (T_poly_scaled last_ a_) h.2.2.1)) rfl h.2.2.2 fun led98 h99 => (jk_last (jk_ret (j_call (ja_cons (j_nm rfl) (ja_cons (j_v (j_call (ja_cons (j_nm rfl) (ja_cons (j_nm rfl) ja_nil)) rfl (t_poly_scaled before_ b_ h99.1))) ja_nil)) rfl (t_poly_less led98 (T_poly_scaled before_ b_) h99.2))))))
def T_polynomials_of_l1 (a_ : (List Rat)) (b_ : (List Rat)) (s104 : ((List (List Rat)) × (List (List Rat)))) (b103 : Nat) : ((List (List Rat)) × (List (List Rat))) := (cond (decide (b103 = (0 : Nat))) (Let (s104.1 ++ [(T_next_polynomial (Tv.nth s104.1 (0 : Nat)) ([] : (List Rat)) (Tv.nth a_ (0 : Nat)) (((0 : Int) : Rat)))]) fun P106 => (Let (s104.2 ++ [([(((1 : Int) : Rat))] : List Rat)]) fun Q108 => (P106, Q108))) (Let (s104.1 ++ [(T_next_polynomial (Tv.nth s104.1 b103) (Tv.nth s104.1 (b103 - (1 : Nat))) (Tv.nth a_ b103) (Tv.nth b_ (b103 - (1 : Nat))))]) fun P110 => (Let (s104.2 ++ [(T_next_polynomial (Tv.nth s104.2 b103) (Tv.nth s104.2 (b103 - (1 : Nat))) (Tv.nth a_ b103) (Tv.nth b_ (b103 - (1 : Nat))))]) fun Q112 => (P110, Q112))))
def SC_polynomials_of_l1 (a_ : (List Rat)) (b_ : (List Rat)) (s104 : ((List (List Rat)) × (List (List Rat)))) (b103 : Nat) : Prop := ((decide (b103 = (0 : Nat))) = true → ((0 : Nat) < s104.1.length) ∧ ((0 : Nat) < a_.length) ∧ (SC_next_polynomial (Tv.nth s104.1 (0 : Nat)) ([] : (List Rat)) (Tv.nth a_ (0 : Nat)) (((0 : Int) : Rat))) ∧ (s104.1.length < lim) ∧ (Let (s104.1 ++ [(T_next_polynomial (Tv.nth s104.1 (0 : Nat)) ([] : (List Rat)) (Tv.nth a_ (0 : Nat)) (((0 : Int) : Rat)))]) fun P106 => (s104.2.length < lim))) ∧ ((decide (b103 = (0 : Nat))) = false → (b103 < s104.1.length) ∧ ((1 : Nat) ≤ b103) ∧ ((b103 - (1 : Nat)) < s104.1.length) ∧ (b103 < a_.length) ∧ ((b103 - (1 : Nat)) < b_.length) ∧ (SC_next_polynomial (Tv.nth s104.1 b103) (Tv.nth s104.1 (b103 - (1 : Nat))) (Tv.nth a_ b103) (Tv.nth b_ (b103 - (1 : Nat)))) ∧ (s104.1.length < lim) ∧ (Let (s104.1 ++ [(T_next_polynomial (Tv.nth s104.1 b103) (Tv.nth s104.1 (b103 - (1 : Nat))) (Tv.nth a_ b103) (Tv.nth b_ (b103 - (1 : Nat))))]) fun P110 => (b103 < s104.2.length) ∧ ((1 : Nat) ≤ b103) ∧ ((b103 - (1 : Nat)) < s104.2.length) ∧ (b103 < a_.length) ∧ ((b103 - (1 : Nat)) < b_.length) ∧ (SC_next_polynomial (Tv.nth s104.2 b103) (Tv.nth s104.2 (b103 - (1 : Nat))) (Tv.nth a_ b103) (Tv.nth b_ (b103 - (1 : Nat)))) ∧ (s104.2.length < lim)))
def T_polynomials_of (a_ : (List Rat)) (b_ : (List Rat)) : ((List (List Rat)) × (List (List Rat))) := (Let ([([(((1 : Int) : Rat))] : List Rat)]) fun P100 => (Let ([([] : (List Rat))]) fun Q101 => (Let ((List.range a_.length).foldl (T_polynomials_of_l1 a_ b_) (P100, Q101)) fun s104 => (s104.1, s104.2))))
def SC_polynomials_of (a_ : (List Rat)) (b_ : (List Rat)) : Prop := ((Let ([([(((1 : Int) : Rat))] : List Rat)]) fun P100 => (Let ([([] : (List Rat))]) fun Q101 => (a_.length ≤ lim) ∧ (AllF (SC_polynomials_of_l1 a_ b_) (T_polynomials_of_l1 a_ b_) (List.range a_.length) (P100, Q101)))))
theorem t_polynomials_of (a_ : (List Rat)) (b_ : (List Rat)) (h : SC_polynomials_of a_ b_) : F_polynomials_of none [(eT eQ) a_, (eT eQ) b_] = .ok ((e2 (eT (eT eQ)) (eT (eT eQ))) (T_polynomials_of a_ b_), 0) none :=
  jf_of (E := fun x => ((e2 (eT (eT eQ)) (eT (eT eQ))) x, 0)) (v := T_polynomials_of a_ b_) (show JK _ ([.ex ((eT eQ) a_) 0, .ex ((eT eQ) b_) 0, .un, .un, .un] : Gm) g_polynomials_of _ from (jk_par (eL (eT eQ)) (eL (eT eQ)) (jl_cons (j_lst (ja_cons j_c ja_nil) rfl) (jl_cons (j_lst (ja_cons (j_tup ja_nil rfl) ja_nil) rfl) jl_nil)) rfl rfl h fun P100 Q101 h102 => (jk_for (S := fun _ => True) (step := T_polynomials_of_l1 a_ b_) (s0 := (P100, Q101)) (SB := SC_polynomials_of_l1 a_ b_) (fun (s104 : ((List (List Rat)) × (List (List Rat)))) => ([.ex ((eT eQ) a_) 0, .ex ((eT eQ) b_) 0, .un, .ex ((eL (eT eQ)) s104.1) 1, .ex ((eL (eT eQ)) s104.2) 1] : Gm)) eN (ji_rg1 (ja_cons (j_v (j_op1 (jo_nm rfl) hq0 (g_lenT _ a_))) ja_nil) (i_rgN h102.1)) (.cons .same (.cons .same (.cons .same (.cons .same (.cons .same .nil))))) h102.2 (fun s104 b103 => (jg_name rfl)) (fun s104 b103 h114 => (jl_weak (jk_last (jk_if (jt_tst (j_op2 (jo_nm rfl) (jo_v j_int) hq0 hq0 (g_eqN b103 (0 : Nat)))) (fun hb105 => (jk_assoc (jk_app (eT eQ) rfl (j_v (j_call (ja_cons (j_v (j_op2 (jo_nm1 rfl) (jo_v j_int) (hq1 rfl) hq0 (g_idxL (f := (eT eQ)) (h114.1 hb105).1))) (ja_cons (j_tup ja_nil rfl) (ja_cons (j_v (j_op2 (jo_nm rfl) (jo_v j_int) hq0 hq0 (g_idxT (f := eQ) (h114.1 hb105).2.1))) (ja_cons j_c ja_nil)))) rfl (t_next_polynomial (Tv.nth s104.1 (0 : Nat)) ([] : (List Rat)) (Tv.nth a_ (0 : Nat)) (((0 : Int) : Rat)) (h114.1 hb105).2.2.1))) rfl (h114.1 hb105).2.2.2.1 (h114.1 hb105).2.2.2.2 fun P106 h107 => (jk_app (S := fun _ => True) (eT eQ) rfl j_c rfl h107 trivial fun Q108 _ => (jk_nx (.cons .same (.cons .same (.cons .un (.cons .same (.cons .same .nil)))))))))) (fun hb105 => (jk_assoc (jk_app (eT eQ) rfl (j_v (j_call (ja_cons (j_v (j_op2 (jo_nm1 rfl) (jo_nm rfl) (hq1 rfl) hq0 (g_idxL (f := (eT eQ)) (h114.2 hb105).1))) (ja_cons (j_v (j_op2 (jo_nm1 rfl) (jo_v (j_v (j_op2 (jo_nm rfl) (jo_v j_int) hq0 hq0 (g_subN (h114.2 hb105).2.1)))) (hq1 rfl) hq0 (g_idxL (f := (eT eQ)) (h114.2 hb105).2.2.1))) (ja_cons (j_v (j_op2 (jo_nm rfl) (jo_nm rfl) hq0 hq0 (g_idxT (f := eQ) (h114.2 hb105).2.2.2.1))) (ja_cons (j_v (j_op2 (jo_nm rfl) (jo_v (j_v (j_op2 (jo_nm rfl) (jo_v j_int) hq0 hq0 (g_subN (h114.2 hb105).2.1)))) hq0 hq0 (g_idxT (f := eQ) (h114.2 hb105).2.2.2.2.1))) ja_nil)))) rfl (t_next_polynomial (Tv.nth s104.1 b103) (Tv.nth s104.1 (b103 - (1 : Nat))) (Tv.nth a_ b103) (Tv.nth b_ (b103 - (1 : Nat))) (h114.2 hb105).2.2.2.2.2.1))) rfl (h114.2 hb105).2.2.2.2.2.2.1 (h114.2 hb105).2.2.2.2.2.2.2 fun P110 h111 => (jk_app (S := fun _ => True) (eT eQ) rfl (j_v (j_call (ja_cons (j_v (j_op2 (jo_nm1 rfl) (jo_nm rfl) (hq1 rfl) hq0 (g_idxL (f := (eT eQ)) h111.1))) (ja_cons (j_v (j_op2 (jo_nm1 rfl) (jo_v (j_v (j_op2 (jo_nm rfl) (jo_v j_int) hq0 hq0 (g_subN h111.2.1)))) (hq1 rfl) hq0 (g_idxL (f := (eT eQ)) h111.2.2.1))) (ja_cons (j_v (j_op2 (jo_nm rfl) (jo_nm rfl) hq0 hq0 (g_idxT (f := eQ) h111.2.2.2.1))) (ja_cons (j_v (j_op2 (jo_nm rfl) (jo_v (j_v (j_op2 (jo_nm rfl) (jo_v j_int) hq0 hq0 (g_subN h111.2.1)))) hq0 hq0 (g_idxT (f := eQ) h111.2.2.2.2.1))) ja_nil)))) rfl (t_next_polynomial (Tv.nth s104.2 b103) (Tv.nth s104.2 (b103 - (1 : Nat))) (Tv.nth a_ b103) (Tv.nth b_ (b103 - (1 : Nat))) h111.2.2.2.2.2.1))) rfl h111.2.2.2.2.2.2 trivial fun Q112 _ => (jk_nx (.cons .same (.cons .same (.cons .un (.cons .same (.cons .same .nil)))))))))))))) trivial fun s104 _ => (jk_last (jk_ret (j_e (j_tup (ja_cons (j_v (j_op1 (jo_nm1 rfl) (hq1 rfl) (g_tupL _ s104.1))) (ja_cons (j_v (j_op1 (jo_nm1 rfl) (hq1 rfl) (g_tupL _ s104.2))) ja_nil)) rfl)))))))
def T_orthogonal_polynomials (a_ : (List Rat)) (b_ : (List Rat)) : ((List (List Rat)) × (List (List Rat))) := (T_polynomials_of a_ b_)
def SC_orthogonal_polynomials (a_ : (List Rat)) (b_ : (List Rat)) : Prop := (SC_check_row ((eT eQ) a_)) ∧ (SC_check_row ((eT eQ) b_)) ∧ ((decide (((b_.length : Nat) : Int) < (((a_.length : Nat) : Int) - (1 : Int)))) = false) ∧ (SC_polynomials_of a_ b_)
theorem t_orthogonal_polynomials (a_ : (List Rat)) (b_ : (List Rat)) (h : SC_orthogonal_polynomials a_ b_) : F_orthogonal_polynomials none [(eT eQ) a_, (eT eQ) b_] = .ok ((e2 (eT (eT eQ)) (eT (eT eQ))) (T_orthogonal_polynomials a_ b_), 0) none :=
  jf_of (E := fun x => ((e2 (eT (eT eQ)) (eT (eT eQ))) x, 0)) (v := T_orthogonal_polynomials a_ b_) (show JK _ ([.ex ((eT eQ) a_) 0, .ex ((eT eQ) b_) 0] : Gm) g_orthogonal_polynomials _ from (jk_expr (j_call (ja_cons (j_nm rfl) ja_nil) rfl (t_check_row ((eT eQ) a_) h.1)) (jk_expr (j_call (ja_cons (j_nm rfl) ja_nil) rfl (t_check_row ((eT eQ) b_) h.2.1)) (jk_ifx (jt_tst (j_op2 (jo_v (j_v (j_op1 (jo_nm rfl) hq0 (g_lenT _ b_)))) (jo_v (j_v (j_op2 (jo_v (j_v (j_op1 (jo_nm rfl) hq0 (g_lenT _ a_)))) (jo_v j_int) hq0 hq0 (g_subI ((a_.length : Nat) : Int) (1 : Int))))) hq0 hq0 (g_ltI ((b_.length : Nat) : Int) (((a_.length : Nat) : Int) - (1 : Int))))) h.2.2.1 (jk_pass (jk_last (jk_ret (j_call (ja_cons (j_nm rfl) (ja_cons (j_nm rfl) ja_nil)) rfl (t_polynomials_of a_ b_ h.2.2.2)))))))))
def T_mean_of_l1 (told116 : (List Rat)) (s121 : Rat) (b120 : (Nat × Rat)) : Rat := (Let (s121 + (b120.2 * (Tv.nth told116 b120.1))) fun total122 => total122)
def SC_mean_of_l1 (told116 : (List Rat)) (s121 : Rat) (b120 : (Nat × Rat)) : Prop := (b120.1 < told116.length) ∧ (Sm b120.2) ∧ (Sm (Tv.nth told116 b120.1)) ∧ (Sm s121) ∧ (Sm (b120.2 * (Tv.nth told116 b120.1)))
def T_mean_of (moments_ : (List Rat)) (f_ : (List Rat)) : Rat := (Let ([(((1 : Int) : Rat))] ++ moments_) fun told116 => (Let (((0 : Int) : Rat)) fun total118 => (Let ((Tv.enumT f_).foldl (T_mean_of_l1 told116) total118) fun s121 => s121)))
def SC_mean_of (moments_ : (List Rat)) (f_ : (List Rat)) : Prop := (([(((1 : Int) : Rat))]).length + moments_.length ≤ lim) ∧ (Let ([(((1 : Int) : Rat))] ++ moments_) fun told116 => (Let (((0 : Int) : Rat)) fun total118 => (AllF (SC_mean_of_l1 told116) (T_mean_of_l1 told116) (Tv.enumT f_) total118)))
theorem t_mean_of (moments_ : (List Rat)) (f_ : (List Rat)) (h : SC_mean_of moments_ f_) : F_mean_of none [(eT eQ) moments_, (eT eQ) f_] = .ok (eQ (T_mean_of moments_ f_), 0) none :=
  jf_of (E := fun x => (eQ x, 0)) (v := T_mean_of moments_ f_) (show JK _ ([.ex ((eT eQ) moments_) 0, .ex ((eT eQ) f_) 0, .un, .un, .un, .un] : Gm) g_mean_of _ from (jk_set (eT eQ) (j_op2 (jo_v (j_tup (ja_cons j_c ja_nil) rfl)) (jo_nm rfl) hq0 hq0 (g_catT (f := eQ) h.1)) rfl h.2 fun told116 h117 => (jk_set eQ (j_e j_c) rfl h117 fun total118 h119 => (jk_for (S := fun _ => True) (step := T_mean_of_l1 told116) (s0 := total118) (SB := SC_mean_of_l1 told116) (fun (s121 : Rat) => ([.ex ((eT eQ) moments_) 0, .ex ((eT eQ) f_) 0, .ex ((eT eQ) told116) 0, .ex (eQ s121) 0, .un, .un] : Gm)) (e2 eN eQ) (ji_enum (ja_cons (j_nm rfl) ja_nil) (enum_T _ f_)) (.cons .same (.cons .same (.cons .same (.cons .same (.cons .same (.cons .same .nil)))))) h119 (fun s121 b120 => (jg_tup rfl (jg_cons (jg_name rfl) (jg_cons (jg_name rfl) jg_nil)))) (fun s121 b120 h124 => (jl_weak (jk_last (jk_set (S := fun _ => True) eQ (j_call (ja_cons (j_nm rfl) (ja_cons (j_v (j_call (ja_cons (j_nm rfl) (ja_cons (j_v (j_op2 (jo_nm rfl) (jo_nm rfl) hq0 hq0 (g_idxT (f := eQ) h124.1))) ja_nil)) rfl (t_ratio_product b120.2 (Tv.nth told116 b120.1) h124.2.1 h124.2.2.1))) ja_nil)) rfl (t_ratio_sum s121 (b120.2 * (Tv.nth told116 b120.1)) h124.2.2.2.1 h124.2.2.2.2)) rfl trivial fun total122 _ => (jk_nx (.cons .same (.cons .same (.cons .same (.cons .same (.cons .un (.cons .un .nil))))))))))) trivial fun s121 _ => (jk_last (jk_retM rfl rfl))))))
def T_polynomial_mean (moments_ : (List Rat)) (f_ : (List Rat)) : Rat := (T_mean_of moments_ f_)
def SC_polynomial_mean (moments_ : (List Rat)) (f_ : (List Rat)) : Prop := (SC_check_row ((eT eQ) moments_)) ∧ (SC_is_polynomial ((eT eQ) f_)) ∧ (((!(T_is_polynomial ((eT eQ) f_))) || (decide ((moments_.length + (1 : Nat)) < f_.length))) = false) ∧ (SC_mean_of moments_ f_)
theorem t_polynomial_mean (moments_ : (List Rat)) (f_ : (List Rat)) (h : SC_polynomial_mean moments_ f_) : F_polynomial_mean none [(eT eQ) moments_, (eT eQ) f_] = .ok (eQ (T_polynomial_mean moments_ f_), 0) none :=
  jf_of (E := fun x => (eQ x, 0)) (v := T_polynomial_mean moments_ f_) (show JK _ ([.ex ((eT eQ) moments_) 0, .ex ((eT eQ) f_) 0] : Gm) g_polynomial_mean _ from (jk_expr (j_call (ja_cons (j_nm rfl) ja_nil) rfl (t_check_row ((eT eQ) moments_) h.1)) (jk_ifx (jt_or (jt_not (jt_tru (jo_v (j_v (j_call (ja_cons (j_nm rfl) ja_nil) rfl (t_is_polynomial ((eT eQ) f_) h.2.1)))) hq0 (tr_B (T_is_polynomial ((eT eQ) f_))))) fun hb126 => (jt_tst (j_op2 (jo_v (j_v (j_op1 (jo_nm rfl) hq0 (g_lenT _ f_)))) (jo_v (j_v (j_op2 (jo_v (j_v (j_op1 (jo_nm rfl) hq0 (g_lenT _ moments_)))) (jo_v j_int) hq0 hq0 (g_addN moments_.length (1 : Nat))))) hq0 hq0 (g_gtN f_.length (moments_.length + (1 : Nat)))))) h.2.2.1 (jk_pass (jk_last (jk_ret (j_call (ja_cons (j_nm rfl) (ja_cons (j_nm rfl) ja_nil)) rfl (t_mean_of moments_ f_ h.2.2.2))))))))
def T_check_row_x1_c1  (b132 : Pv.D) : Bool := (isRatD b132)
def SC_check_row_x1_c1  (b132 : Pv.D) : Prop := (ratOk b132)
def SC_check_row_x1 (row_ : Pv.D) : Prop := (nice row_ = true) ∧ ((!(isTupD row_)) = false → (isTupD row_ = true) ∧ ((decide ((12 : Nat) < (tupOf row_).length)) = false → (isTupD row_ = true) ∧ (∀ b ∈ (tupOf row_), SC_check_row_x1_c1 b) ∧ ((tupOf row_).length ≤ lim))) ∧ (((!(isTupD row_)) || ((decide ((12 : Nat) < (tupOf row_).length)) || (!(((tupOf row_).map (T_check_row_x1_c1)).all id)))) = true)
theorem x_check_row_x1 (row_ : Pv.D) (h : SC_check_row_x1 row_) : F_check_row none [eD row_] = .ex (.mk 1 []) :=
  jxf_of (v := ()) (show JK (PE (.mk 1 [])) ([.ex (eD row_) 0, .un] : Gm) g_check_row _ from (jk_last (jx_ifr (jt_or (jt_not (jt_tru (jo_v (j_v (j_op1 (jo_nm rfl) hq0 (isi_tupD h.1)))) hq0 (tr_B (isTupD row_)))) fun hb134 => (jt_or (jt_tst (j_op2 (jo_v (j_v (j_op1 (jo_nm rfl) hq0 (len_tupD (h.2.1 hb134).1)))) (jo_v j_int) hq0 hq0 (g_gtN (tupOf row_).length (12 : Nat)))) fun hb135 => (jt_not (jt_tru (jo_v (j_v (j_op1 (jo_v (j_v (j_comp (S := SC_check_row_x1_c1) eD eB (T_check_row_x1_c1) ([.ex (eD row_) 0, .un] : Gm) (ji_seq (j_nm rfl) (its_tupD ((h.2.1 hb134).2 hb135).1)) (.cons .same (.cons .same .nil)) ((h.2.1 hb134).2 hb135).2.2 ((h.2.1 hb134).2 hb135).2.1 (fun b132 => (jg_name rfl)) (fun b132 h133 => (j_e (j_v (j_call (ja_cons (j_nm rfl) ja_nil) rfl (t_is_ratio b132 h133))))) (fun b132 => (.cons .same (.cons .same .nil)))))) hq0 (g_all ((tupOf row_).map (T_check_row_x1_c1)))))) hq0 (tr_B (((tupOf row_).map (T_check_row_x1_c1)).all id)))))) h.2.2 fun _ => rfl)))
def SC_orthogonal_polynomials_x1 (a_ : Pv.D) (b_ : Pv.D) (xn_ : Xn) : Prop := (F_check_row none [(eD a_)] = .ex xn_)
theorem x_orthogonal_polynomials_x1 (a_ : Pv.D) (b_ : Pv.D) (xn_ : Xn) (h : SC_orthogonal_polynomials_x1 a_ b_ xn_) : F_orthogonal_polynomials none [eD a_, eD b_] = .ex xn_ :=
  jxf_of (v := ()) (show JK (PE xn_) ([.ex (eD a_) 0, .ex (eD b_) 0] : Gm) g_orthogonal_polynomials _ from (jx_expr (jx_call (ja_cons (j_nm rfl) ja_nil) rfl h)))
def SC_orthogonal_polynomials_x2 (a_ : (List Rat)) (b_ : Pv.D) (xn_ : Xn) : Prop := (SC_check_row ((eT eQ) a_)) ∧ (F_check_row none [(eD b_)] = .ex xn_)
theorem x_orthogonal_polynomials_x2 (a_ : (List Rat)) (b_ : Pv.D) (xn_ : Xn) (h : SC_orthogonal_polynomials_x2 a_ b_ xn_) : F_orthogonal_polynomials none [(eT eQ) a_, eD b_] = .ex xn_ :=
  jxf_of (v := ()) (show JK (PE xn_) ([.ex ((eT eQ) a_) 0, .ex (eD b_) 0] : Gm) g_orthogonal_polynomials _ from (jk_expr (j_call (ja_cons (j_nm rfl) ja_nil) rfl (t_check_row ((eT eQ) a_) h.1)) (jx_expr (jx_call (ja_cons (j_nm rfl) ja_nil) rfl h.2))))
def SC_orthogonal_polynomials_x3 (a_ : (List Rat)) (b_ : (List Rat)) : Prop := (SC_check_row ((eT eQ) a_)) ∧ (SC_check_row ((eT eQ) b_)) ∧ ((decide (((b_.length : Nat) : Int) < (((a_.length : Nat) : Int) - (1 : Int)))) = true)
theorem x_orthogonal_polynomials_x3 (a_ : (List Rat)) (b_ : (List Rat)) (h : SC_orthogonal_polynomials_x3 a_ b_) : F_orthogonal_polynomials none [(eT eQ) a_, (eT eQ) b_] = .ex (.mk 1 []) :=
  jxf_of (v := ()) (show JK (PE (.mk 1 [])) ([.ex ((eT eQ) a_) 0, .ex ((eT eQ) b_) 0] : Gm) g_orthogonal_polynomials _ from (jk_expr (j_call (ja_cons (j_nm rfl) ja_nil) rfl (t_check_row ((eT eQ) a_) h.1)) (jk_expr (j_call (ja_cons (j_nm rfl) ja_nil) rfl (t_check_row ((eT eQ) b_) h.2.1)) (jx_ifr (jt_tst (j_op2 (jo_v (j_v (j_op1 (jo_nm rfl) hq0 (g_lenT _ b_)))) (jo_v (j_v (j_op2 (jo_v (j_v (j_op1 (jo_nm rfl) hq0 (g_lenT _ a_)))) (jo_v j_int) hq0 hq0 (g_subI ((a_.length : Nat) : Int) (1 : Int))))) hq0 hq0 (g_ltI ((b_.length : Nat) : Int) (((a_.length : Nat) : Int) - (1 : Int))))) h.2.2 fun _ => rfl))))
def SC_polynomial_mean_x1 (moments_ : Pv.D) (f_ : Pv.D) (xn_ : Xn) : Prop := (F_check_row none [(eD moments_)] = .ex xn_)
theorem x_polynomial_mean_x1 (moments_ : Pv.D) (f_ : Pv.D) (xn_ : Xn) (h : SC_polynomial_mean_x1 moments_ f_ xn_) : F_polynomial_mean none [eD moments_, eD f_] = .ex xn_ :=
  jxf_of (v := ()) (show JK (PE xn_) ([.ex (eD moments_) 0, .ex (eD f_) 0] : Gm) g_polynomial_mean _ from (jx_expr (jx_call (ja_cons (j_nm rfl) ja_nil) rfl h)))
def SC_polynomial_mean_x2 (moments_ : (List Rat)) (f_ : Pv.D) : Prop := (SC_check_row ((eT eQ) moments_)) ∧ (SC_is_polynomial f_) ∧ ((!(T_is_polynomial f_)) = false → (isTupD f_ = true)) ∧ (((!(T_is_polynomial f_)) || (decide ((moments_.length + (1 : Nat)) < (tupOf f_).length))) = true)
theorem x_polynomial_mean_x2 (moments_ : (List Rat)) (f_ : Pv.D) (h : SC_polynomial_mean_x2 moments_ f_) : F_polynomial_mean none [(eT eQ) moments_, eD f_] = .ex (.mk 1 []) :=
  jxf_of (v := ()) (show JK (PE (.mk 1 [])) ([.ex ((eT eQ) moments_) 0, .ex (eD f_) 0] : Gm) g_polynomial_mean _ from (jk_expr (j_call (ja_cons (j_nm rfl) ja_nil) rfl (t_check_row ((eT eQ) moments_) h.1)) (jx_ifr (jt_or (jt_not (jt_tru (jo_v (j_v (j_call (ja_cons (j_nm rfl) ja_nil) rfl (t_is_polynomial f_ h.2.1)))) hq0 (tr_B (T_is_polynomial f_)))) fun hb137 => (jt_tst (j_op2 (jo_v (j_v (j_op1 (jo_nm rfl) hq0 (len_tupD (h.2.2.1 hb137))))) (jo_v (j_v (j_op2 (jo_v (j_v (j_op1 (jo_nm rfl) hq0 (g_lenT _ moments_)))) (jo_v j_int) hq0 hq0 (g_addN moments_.length (1 : Nat))))) hq0 hq0 (g_gtN (tupOf f_).length (moments_.length + (1 : Nat)))))) h.2.2.2 fun _ => rfl)))
def C__law_trimmed_w1  (s141 : (List Rat)) : Bool := ((decide ((0 : Nat) < s141.length)) && (decide ((Tv.nth s141 (s141.length - 1)).num = (0 : Int))))
def T__law_trimmed_w1  (s141 : (List Rat)) : (List Rat) := (List.dropLast s141)
def SA__law_trimmed_w1  (s141 : (List Rat)) : Prop := ((decide ((0 : Nat) < s141.length)) = true → (0 < s141.length))
def SB__law_trimmed_w1  (s141 : (List Rat)) : Prop := (0 < s141.length)
def T__law_trimmed (row_ : (List Rat)) : (List Rat) := (Let row_ fun found139 => (Let (iterW (C__law_trimmed_w1) (T__law_trimmed_w1) 200 found139) fun s141 => s141))
def SC__law_trimmed (row_ : (List Rat)) : Prop := (Let row_ fun found139 => (AllW (SA__law_trimmed_w1) (SB__law_trimmed_w1) (C__law_trimmed_w1) (T__law_trimmed_w1) 200 found139))
theorem t__law_trimmed (row_ : (List Rat)) (h : SC__law_trimmed row_) : F__law_trimmed none [(eL eQ) row_] = .ok ((eT eQ) (T__law_trimmed row_), 0) none :=
  jf_of (E := fun x => ((eT eQ) x, 0)) (v := T__law_trimmed row_) (show JK _ ([.ex ((eL eQ) row_) 0, .un] : Gm) g__law_trimmed _ from (jk_set (eL eQ) (j_op1 (jo_nm rfl) hq0 (g_lisL _ row_)) rfl h fun found139 h140 => (jk_while (S := fun _ => True) (cT := C__law_trimmed_w1) (step := T__law_trimmed_w1) (s0 := found139) (fun (s141 : (List Rat)) => ([.ex ((eL eQ) row_) 0, .ex ((eL eQ) s141) 1] : Gm)) (.cons .same (.cons .same .nil)) h140 (fun s141 h144 => (jt_and (jt_tst (j_op2 (jo_v (j_v (j_op1 (jo_nm1 rfl) (hq1 rfl) (g_lenL _ s141)))) (jo_v j_int) hq0 hq0 (g_gtN s141.length (0 : Nat)))) fun hb142 => (jt_tst (j_op2 (jo_v (j_v (j_op2 (jo_v (j_v (j_op2 (jo_nm1 rfl) (jo_v (j_v (j_op1 (jo_v j_int) hq0 (g_neg (1 : Int))))) (hq1 rfl) hq0 (g_idxLm (f := eQ) (h144 hb142))))) (jo_v j_int) hq0 hq0 g_p0))) (jo_v j_int) hq0 hq0 (g_eqI (Tv.nth s141 (s141.length - 1)).num (0 : Int)))))) (fun s141 h145 => (jk_last (jk_expr (j_e (j_pop rfl h145)) (jk_go (.cons .same (.cons .same .nil)))))) trivial fun s141 _ => (jk_last (jk_ret (j_op1 (jo_nm1 rfl) (hq1 rfl) (g_tupL _ s141)))))))
def C__law_trimmed_t_w1  (s149 : (List Rat)) : Bool := ((decide ((0 : Nat) < s149.length)) && (decide ((Tv.nth s149 (s149.length - 1)).num = (0 : Int))))
def T__law_trimmed_t_w1  (s149 : (List Rat)) : (List Rat) := (List.dropLast s149)
def SA__law_trimmed_t_w1  (s149 : (List Rat)) : Prop := ((decide ((0 : Nat) < s149.length)) = true → (0 < s149.length))
def SB__law_trimmed_t_w1  (s149 : (List Rat)) : Prop := (0 < s149.length)
def T__law_trimmed_t (row_ : (List Rat)) : (List Rat) := (Let row_ fun found147 => (Let (iterW (C__law_trimmed_t_w1) (T__law_trimmed_t_w1) 200 found147) fun s149 => s149))
def SC__law_trimmed_t (row_ : (List Rat)) : Prop := (Let row_ fun found147 => (AllW (SA__law_trimmed_t_w1) (SB__law_trimmed_t_w1) (C__law_trimmed_t_w1) (T__law_trimmed_t_w1) 200 found147))
theorem t__law_trimmed_t (row_ : (List Rat)) (h : SC__law_trimmed_t row_) : F__law_trimmed none [(eT eQ) row_] = .ok ((eT eQ) (T__law_trimmed_t row_), 0) none :=
  jf_of (E := fun x => ((eT eQ) x, 0)) (v := T__law_trimmed_t row_) (show JK _ ([.ex ((eT eQ) row_) 0, .un] : Gm) g__law_trimmed _ from (jk_set (eL eQ) (j_op1 (jo_nm rfl) hq0 (g_lisT _ row_)) rfl h fun found147 h148 => (jk_while (S := fun _ => True) (cT := C__law_trimmed_t_w1) (step := T__law_trimmed_t_w1) (s0 := found147) (fun (s149 : (List Rat)) => ([.ex ((eT eQ) row_) 0, .ex ((eL eQ) s149) 1] : Gm)) (.cons .same (.cons .same .nil)) h148 (fun s149 h152 => (jt_and (jt_tst (j_op2 (jo_v (j_v (j_op1 (jo_nm1 rfl) (hq1 rfl) (g_lenL _ s149)))) (jo_v j_int) hq0 hq0 (g_gtN s149.length (0 : Nat)))) fun hb150 => (jt_tst (j_op2 (jo_v (j_v (j_op2 (jo_v (j_v (j_op2 (jo_nm1 rfl) (jo_v (j_v (j_op1 (jo_v j_int) hq0 (g_neg (1 : Int))))) (hq1 rfl) hq0 (g_idxLm (f := eQ) (h152 hb150))))) (jo_v j_int) hq0 hq0 g_p0))) (jo_v j_int) hq0 hq0 (g_eqI (Tv.nth s149 (s149.length - 1)).num (0 : Int)))))) (fun s149 h153 => (jk_last (jk_expr (j_e (j_pop rfl h153)) (jk_go (.cons .same (.cons .same .nil)))))) trivial fun s149 _ => (jk_last (jk_ret (j_op1 (jo_nm1 rfl) (hq1 rfl) (g_tupL _ s149)))))))
def T__law_poly_add_c1 (one157 : (List Rat)) (two158 : (List Rat)) (b161 : Nat) : Rat := ((Tv.nth one157 b161) + (Tv.nth two158 b161))
def SC__law_poly_add_c1 (one157 : (List Rat)) (two158 : (List Rat)) (b161 : Nat) : Prop := (b161 < one157.length) ∧ (b161 < two158.length) ∧ (Sm (Tv.nth one157 b161)) ∧ (Sm (Tv.nth two158 b161))
def T__law_poly_add (f_ : (List Rat)) (g_ : (List Rat)) : (List Rat) := (Let (max f_.length g_.length) fun size155 => (Let (f_ ++ (List.replicate (size155 - f_.length) ([(((0 : Int) : Rat))])).flatten) fun one157 => (Let (g_ ++ (List.replicate (size155 - g_.length) ([(((0 : Int) : Rat))])).flatten) fun two158 => (T__law_trimmed ((List.range size155).map (T__law_poly_add_c1 one157 two158))))))
def SC__law_poly_add (f_ : (List Rat)) (g_ : (List Rat)) : Prop := (Let (max f_.length g_.length) fun size155 => (f_.length ≤ size155) ∧ (([(((0 : Int) : Rat))]).length * (size155 - f_.length) ≤ lim ∧ (size155 - f_.length) ≤ lim) ∧ (f_.length + ((List.replicate (size155 - f_.length) ([(((0 : Int) : Rat))])).flatten).length ≤ lim) ∧ (g_.length ≤ size155) ∧ (([(((0 : Int) : Rat))]).length * (size155 - g_.length) ≤ lim ∧ (size155 - g_.length) ≤ lim) ∧ (g_.length + ((List.replicate (size155 - g_.length) ([(((0 : Int) : Rat))])).flatten).length ≤ lim) ∧ ((Let (f_ ++ (List.replicate (size155 - f_.length) ([(((0 : Int) : Rat))])).flatten) fun one157 => (Let (g_ ++ (List.replicate (size155 - g_.length) ([(((0 : Int) : Rat))])).flatten) fun two158 => (size155 ≤ lim) ∧ (∀ b ∈ (List.range size155), SC__law_poly_add_c1 one157 two158 b) ∧ (SC__law_trimmed ((List.range size155).map (T__law_poly_add_c1 one157 two158)))))))
theorem t__law_poly_add (f_ : (List Rat)) (g_ : (List Rat)) (h : SC__law_poly_add f_ g_) : F__law_poly_add none [(eT eQ) f_, (eT eQ) g_] = .ok ((eT eQ) (T__law_poly_add f_ g_), 0) none :=
  jf_of (E := fun x => ((eT eQ) x, 0)) (v := T__law_poly_add f_ g_) (show JK _ ([.ex ((eT eQ) f_) 0, .ex ((eT eQ) g_) 0, .un, .un, .un, .un] : Gm) g__law_poly_add _ from (jk_set eN (j_op2 (jo_v (j_v (j_op1 (jo_nm rfl) hq0 (g_lenT _ f_)))) (jo_v (j_v (j_op1 (jo_nm rfl) hq0 (g_lenT _ g_)))) hq0 hq0 (g_max2N f_.length g_.length)) rfl h fun size155 h156 => (jk_par (eL eQ) (eL eQ) (jl_cons (j_op2 (jo_v (j_v (j_op1 (jo_nm rfl) hq0 (g_lisT _ f_)))) (jo_v (j_v (j_op2 (jo_v (j_v (j_lst (ja_cons (j_tup (ja_cons j_int (ja_cons j_int ja_nil)) rfl) ja_nil) rfl))) (jo_v (j_v (j_op2 (jo_nm rfl) (jo_v (j_v (j_op1 (jo_nm rfl) hq0 (g_lenT _ f_)))) hq0 hq0 (g_subN h156.1)))) hq0 hq0 (g_mulL (f := eQ) h156.2.1)))) hq0 hq0 (g_catL (f := eQ) h156.2.2.1)) (jl_cons (j_op2 (jo_v (j_v (j_op1 (jo_nm rfl) hq0 (g_lisT _ g_)))) (jo_v (j_v (j_op2 (jo_v (j_v (j_lst (ja_cons (j_tup (ja_cons j_int (ja_cons j_int ja_nil)) rfl) ja_nil) rfl))) (jo_v (j_v (j_op2 (jo_nm rfl) (jo_v (j_v (j_op1 (jo_nm rfl) hq0 (g_lenT _ g_)))) hq0 hq0 (g_subN h156.2.2.2.1)))) hq0 hq0 (g_mulL (f := eQ) h156.2.2.2.2.1)))) hq0 hq0 (g_catL (f := eQ) h156.2.2.2.2.2.1)) jl_nil)) rfl rfl h156.2.2.2.2.2.2 fun one157 two158 h159 => (jk_last (jk_ret (j_call (ja_cons (j_v (j_comp (S := SC__law_poly_add_c1 one157 two158) eN eQ (T__law_poly_add_c1 one157 two158) ([.ex ((eT eQ) f_) 0, .ex ((eT eQ) g_) 0, .ex (eN size155) 0, .ex ((eL eQ) one157) 1, .ex ((eL eQ) two158) 1, .un] : Gm) (ji_rg1 (ja_cons (j_nm rfl) ja_nil) (i_rgN h159.1)) (.cons .same (.cons .same (.cons .same (.cons .same (.cons .same (.cons .same .nil)))))) (len_range h159.1) h159.2.1 (fun b161 => (jg_name rfl)) (fun b161 h162 => (j_e (j_v (j_call (ja_cons (j_v (j_op2 (jo_nm1 rfl) (jo_nm rfl) (hq1 rfl) hq0 (g_idxL (f := eQ) h162.1))) (ja_cons (j_v (j_op2 (jo_nm1 rfl) (jo_nm rfl) (hq1 rfl) hq0 (g_idxL (f := eQ) h162.2.1))) ja_nil)) rfl (t__law_add (Tv.nth one157 b161) (Tv.nth two158 b161) h162.2.2.1 h162.2.2.2))))) (fun b161 => (.cons .same (.cons .same (.cons .same (.cons .same (.cons .same (.cons .same .nil))))))))) ja_nil) rfl (t__law_trimmed ((List.range size155).map (T__law_poly_add_c1 one157 two158)) h159.2.2)))))))
def T__law_poly_scaled_c1 (c_ : Rat) (b164 : Rat) : Rat := (b164 * c_)
def SC__law_poly_scaled_c1 (c_ : Rat) (b164 : Rat) : Prop := (Sm b164) ∧ (Sm c_)
def T__law_poly_scaled (f_ : (List Rat)) (c_ : Rat) : (List Rat) := (T__law_trimmed (f_.map (T__law_poly_scaled_c1 c_)))
def SC__law_poly_scaled (f_ : (List Rat)) (c_ : Rat) : Prop := (∀ b ∈ f_, SC__law_poly_scaled_c1 c_ b) ∧ (f_.length ≤ lim) ∧ (SC__law_trimmed (f_.map (T__law_poly_scaled_c1 c_)))
theorem t__law_poly_scaled (f_ : (List Rat)) (c_ : Rat) (h : SC__law_poly_scaled f_ c_) : F__law_poly_scaled none [(eT eQ) f_, eQ c_] = .ok ((eT eQ) (T__law_poly_scaled f_ c_), 0) none :=
  jf_of (E := fun x => ((eT eQ) x, 0)) (v := T__law_poly_scaled f_ c_) (show JK _ ([.ex ((eT eQ) f_) 0, .ex (eQ c_) 0, .un] : Gm) g__law_poly_scaled _ from (jk_last (jk_ret (j_call (ja_cons (j_v (j_comp (S := SC__law_poly_scaled_c1 c_) eQ eQ (T__law_poly_scaled_c1 c_) ([.ex ((eT eQ) f_) 0, .ex (eQ c_) 0, .un] : Gm) (ji_seq (j_nm rfl) (i_T _ f_)) (.cons .same (.cons .same (.cons .same .nil))) h.2.1 h.1 (fun b164 => (jg_name rfl)) (fun b164 h165 => (j_e (j_v (j_call (ja_cons (j_nm rfl) (ja_cons (j_nm rfl) ja_nil)) rfl (t__law_times b164 c_ h165.1 h165.2))))) (fun b164 => (.cons .same (.cons .same (.cons .same .nil)))))) ja_nil) rfl (t__law_trimmed (f_.map (T__law_poly_scaled_c1 c_)) h.2.2)))))
def T__law_poly_times_c1  (b167 : Nat) : Rat := (((0 : Int) : Rat))
def T__law_poly_times_l1 (f_ : (List Rat)) (g_ : (List Rat)) (b171 : Nat) (s174 : (List Rat)) (b173 : Nat) : (List Rat) := (Let (s174.set (b171 + b173) ((Tv.nth s174 (b171 + b173)) + ((Tv.nth f_ b171) * (Tv.nth g_ b173)))) fun found175 => found175)
def SC__law_poly_times_l1 (f_ : (List Rat)) (g_ : (List Rat)) (b171 : Nat) (s174 : (List Rat)) (b173 : Nat) : Prop := ((b171 + b173) < s174.length) ∧ (b171 < f_.length) ∧ (b173 < g_.length) ∧ (Sm (Tv.nth f_ b171)) ∧ (Sm (Tv.nth g_ b173)) ∧ (Sm (Tv.nth s174 (b171 + b173))) ∧ (Sm ((Tv.nth f_ b171) * (Tv.nth g_ b173)))
def T__law_poly_times_l2 (f_ : (List Rat)) (g_ : (List Rat)) (s172 : (List Rat)) (b171 : Nat) : (List Rat) := (Let ((List.range g_.length).foldl (T__law_poly_times_l1 f_ g_ b171) s172) fun s174 => s174)
def SC__law_poly_times_l2 (f_ : (List Rat)) (g_ : (List Rat)) (s172 : (List Rat)) (b171 : Nat) : Prop := (g_.length ≤ lim) ∧ (AllF (SC__law_poly_times_l1 f_ g_ b171) (T__law_poly_times_l1 f_ g_ b171) (List.range g_.length) s172)
def T__law_poly_times (f_ : (List Rat)) (g_ : (List Rat)) : (List Rat) := (Let ((List.range (f_.length + g_.length)).map (T__law_poly_times_c1)) fun found169 => (Let ((List.range f_.length).foldl (T__law_poly_times_l2 f_ g_) found169) fun s172 => (T__law_trimmed s172)))
def SC__law_poly_times (f_ : (List Rat)) (g_ : (List Rat)) : Prop := ((f_.length + g_.length) ≤ lim) ∧ (Let ((List.range (f_.length + g_.length)).map (T__law_poly_times_c1)) fun found169 => (f_.length ≤ lim) ∧ (AllF (SC__law_poly_times_l2 f_ g_) (T__law_poly_times_l2 f_ g_) (List.range f_.length) found169) ∧ (Let ((List.range f_.length).foldl (T__law_poly_times_l2 f_ g_) found169) fun s172 => (SC__law_trimmed s172)))
theorem t__law_poly_times (f_ : (List Rat)) (g_ : (List Rat)) (h : SC__law_poly_times f_ g_) : F__law_poly_times none [(eT eQ) f_, (eT eQ) g_] = .ok ((eT eQ) (T__law_poly_times f_ g_), 0) none :=
  jf_of (E := fun x => ((eT eQ) x, 0)) (v := T__law_poly_times f_ g_) (show JK _ ([.ex ((eT eQ) f_) 0, .ex ((eT eQ) g_) 0, .un, .un, .un, .un] : Gm) g__law_poly_times _ from (jk_set (eL eQ) (j_comp (S := fun _ => True) eN eQ (T__law_poly_times_c1) ([.ex ((eT eQ) f_) 0, .ex ((eT eQ) g_) 0, .un, .un, .un, .un] : Gm) (ji_rg1 (ja_cons (j_v (j_op2 (jo_v (j_v (j_op1 (jo_nm rfl) hq0 (g_lenT _ f_)))) (jo_v (j_v (j_op1 (jo_nm rfl) hq0 (g_lenT _ g_)))) hq0 hq0 (g_addN f_.length g_.length))) ja_nil) (i_rgN h.1)) (.cons .same (.cons .same (.cons .same (.cons .same (.cons .same (.cons .same .nil)))))) (len_range h.1) (fun _ _ => trivial) (fun b167 => (jg_name rfl)) (fun b167 _ => (j_e (j_tup (ja_cons j_int (ja_cons j_int ja_nil)) rfl))) (fun b167 => (.cons .same (.cons .same (.cons .same (.cons .same (.cons .same (.cons .same .nil)))))))) rfl h.2 fun found169 h170 => (jk_for (step := T__law_poly_times_l2 f_ g_) (s0 := found169) (SB := SC__law_poly_times_l2 f_ g_) (fun (s172 : (List Rat)) => ([.ex ((eT eQ) f_) 0, .ex ((eT eQ) g_) 0, .ex ((eL eQ) s172) 1, .un, .un, .un] : Gm)) eN (ji_rg1 (ja_cons (j_v (j_op1 (jo_nm rfl) hq0 (g_lenT _ f_))) ja_nil) (i_rgN h170.1)) (.cons .same (.cons .same (.cons .same (.cons .same (.cons .same (.cons .same .nil)))))) h170.2.1 (fun s172 b171 => (jg_name rfl)) (fun s172 b171 h179 => (jl_weak (jk_last (jk_for (S := fun _ => True) (step := T__law_poly_times_l1 f_ g_ b171) (s0 := s172) (SB := SC__law_poly_times_l1 f_ g_ b171) (fun (s174 : (List Rat)) => ([.ex ((eT eQ) f_) 0, .ex ((eT eQ) g_) 0, .ex ((eL eQ) s174) 1, .ex (eN b171) 0, .un, .un] : Gm)) eN (ji_rg1 (ja_cons (j_v (j_op1 (jo_nm rfl) hq0 (g_lenT _ g_))) ja_nil) (i_rgN h179.1)) (.cons .same (.cons .same (.cons .same (.cons .same (.cons .same (.cons .same .nil)))))) h179.2 (fun s174 b173 => (jg_name rfl)) (fun s174 b173 h177 => (jl_weak (jk_last (jk_sub (S := fun _ => True) eQ (j := (((b171 + b173) : Nat) : Int)) (j_v (j_call (ja_cons (j_v (j_op2 (jo_nm1 rfl) (jo_v (j_v (j_op2 (jo_nm rfl) (jo_nm rfl) hq0 hq0 (g_addN b171 b173)))) (hq1 rfl) hq0 (g_idxL (f := eQ) h177.1))) (ja_cons (j_v (j_call (ja_cons (j_v (j_op2 (jo_nm rfl) (jo_nm rfl) hq0 hq0 (g_idxT (f := eQ) h177.2.1))) (ja_cons (j_v (j_op2 (jo_nm rfl) (jo_nm rfl) hq0 hq0 (g_idxT (f := eQ) h177.2.2.1))) ja_nil)) rfl (t__law_times (Tv.nth f_ b171) (Tv.nth g_ b173) h177.2.2.2.1 h177.2.2.2.2.1))) ja_nil)) rfl (t__law_add (Tv.nth s174 (b171 + b173)) ((Tv.nth f_ b171) * (Tv.nth g_ b173)) h177.2.2.2.2.2.1 h177.2.2.2.2.2.2))) rfl (j_v (j_op2 (jo_nm rfl) (jo_nm rfl) hq0 hq0 (g_addN b171 b173))) rfl (ixn h177.1) trivial fun found175 _ => (jk_nx (.cons .same (.cons .same (.cons .same (.cons .same (.cons .un (.cons .same .nil))))))))))) trivial fun s174 _ => (jk_nx (.cons .same (.cons .same (.cons .same (.cons .un (.cons .same (.cons .same .nil))))))))))) h170.2.2 fun s172 h180 => (jk_last (jk_ret (j_call (ja_cons (j_nmS rfl) ja_nil) rfl (t__law_trimmed s172 h180)))))))
def T__law_total_l1  (s184 : Rat) (b183 : Rat) : Rat := (Let (s184 + b183) fun found185 => found185)
def SC__law_total_l1  (s184 : Rat) (b183 : Rat) : Prop := (Sm s184) ∧ (Sm b183)
def T__law_total (items_ : (List Rat)) : Rat := (Let (((0 : Int) : Rat)) fun found181 => (Let (items_.foldl (T__law_total_l1) found181) fun s184 => s184))
def SC__law_total (items_ : (List Rat)) : Prop := (Let (((0 : Int) : Rat)) fun found181 => (AllF (SC__law_total_l1) (T__law_total_l1) items_ found181))
theorem t__law_total (items_ : (List Rat)) (h : SC__law_total items_) : F__law_total none [(eL eQ) items_] = .ok (eQ (T__law_total items_), 0) none :=
  jf_of (E := fun x => (eQ x, 0)) (v := T__law_total items_) (show JK _ ([.ex ((eL eQ) items_) 0, .un, .un] : Gm) g__law_total _ from (jk_set eQ (j_e (j_tup (ja_cons j_int (ja_cons j_int ja_nil)) rfl)) rfl h fun found181 h182 => (jk_for (S := fun _ => True) (step := T__law_total_l1) (s0 := found181) (SB := SC__law_total_l1) (fun (s184 : Rat) => ([.ex ((eL eQ) items_) 0, .ex (eQ s184) 0, .un] : Gm)) eQ (ji_seq (j_nm rfl) (i_L _ items_)) (.cons .same (.cons .same (.cons .same .nil))) h182 (fun s184 b183 => (jg_name rfl)) (fun s184 b183 h187 => (jl_weak (jk_last (jk_set (S := fun _ => True) eQ (j_call (ja_cons (j_nm rfl) (ja_cons (j_nm rfl) ja_nil)) rfl (t__law_add s184 b183 h187.1 h187.2)) rfl trivial fun found185 _ => (jk_nx (.cons .same (.cons .same (.cons .un .nil)))))))) trivial fun s184 _ => (jk_last (jk_retM rfl rfl)))))
def T__law_product_of_l1  (s192 : Rat) (b191 : Rat) : Rat := (Let (s192 * b191) fun found193 => found193)
def SC__law_product_of_l1  (s192 : Rat) (b191 : Rat) : Prop := (Sm s192) ∧ (Sm b191)
def T__law_product_of (items_ : (List Rat)) : Rat := (Let (((1 : Int) : Rat)) fun found189 => (Let (items_.foldl (T__law_product_of_l1) found189) fun s192 => s192))
def SC__law_product_of (items_ : (List Rat)) : Prop := (Let (((1 : Int) : Rat)) fun found189 => (AllF (SC__law_product_of_l1) (T__law_product_of_l1) items_ found189))
theorem t__law_product_of (items_ : (List Rat)) (h : SC__law_product_of items_) : F__law_product_of none [(eT eQ) items_] = .ok (eQ (T__law_product_of items_), 0) none :=
  jf_of (E := fun x => (eQ x, 0)) (v := T__law_product_of items_) (show JK _ ([.ex ((eT eQ) items_) 0, .un, .un] : Gm) g__law_product_of _ from (jk_set eQ (j_e (j_tup (ja_cons j_int (ja_cons j_int ja_nil)) rfl)) rfl h fun found189 h190 => (jk_for (S := fun _ => True) (step := T__law_product_of_l1) (s0 := found189) (SB := SC__law_product_of_l1) (fun (s192 : Rat) => ([.ex ((eT eQ) items_) 0, .ex (eQ s192) 0, .un] : Gm)) eQ (ji_seq (j_nm rfl) (i_T _ items_)) (.cons .same (.cons .same (.cons .same .nil))) h190 (fun s192 b191 => (jg_name rfl)) (fun s192 b191 h195 => (jl_weak (jk_last (jk_set (S := fun _ => True) eQ (j_call (ja_cons (j_nm rfl) (ja_cons (j_nm rfl) ja_nil)) rfl (t__law_times s192 b191 h195.1 h195.2)) rfl trivial fun found193 _ => (jk_nx (.cons .same (.cons .same (.cons .un .nil)))))))) trivial fun s192 _ => (jk_last (jk_retM rfl rfl)))))
def T__law_drawn (state_ : (Int × Int)) : Rat × (Int × Int) := (Let (Tv.tkV state_ (4 : Nat)) fun pick197 => (Let (Tv.tkS state_ (4 : Nat)) fun st199 => (Let ((((Tv.tkV st199 (9 : Nat)) : Nat) : Int) - (4 : Int)) fun n201 => (Let (Tv.tkS st199 (9 : Nat)) fun st203 => (cond (decide (pick197 < (2 : Nat))) (((n201 : Int) : Rat), st203) (cond (decide (pick197 = (2 : Nat))) ((Rat.divInt n201 ((((1 : Nat) + (Tv.tkV st203 (5 : Nat))) : Nat) : Int)), (Tv.tkS st203 (5 : Nat))) (((((((Tv.tkV st203 (3 : Nat)) : Nat) : Int) - (1 : Int)) : Int) : Rat), (Tv.tkS st203 (3 : Nat)))))))))
def SC__law_drawn (state_ : (Int × Int)) : Prop := (Let (Tv.tkV state_ (4 : Nat)) fun pick197 => (Let (Tv.tkS state_ (4 : Nat)) fun st199 => (Let ((((Tv.tkV st199 (9 : Nat)) : Nat) : Int) - (4 : Int)) fun n201 => (Let (Tv.tkS st199 (9 : Nat)) fun st203 => ((decide (pick197 < (2 : Nat))) = false → ((decide (pick197 = (2 : Nat))) = true → (lowOk n201 ((((1 : Nat) + (Tv.tkV st203 (5 : Nat))) : Nat) : Int))))))))
theorem t__law_drawn (state_ : (Int × Int)) (h : SC__law_drawn state_) : F__law_drawn (some (eSt state_, 1)) [] = .ok (eQ (T__law_drawn state_).1, 0) (some (eSt (T__law_drawn state_).2, 1)) :=
  ji_of (E := fun x => (eQ x, 0)) (es := fun s => (eSt s, 1)) (v := T__law_drawn state_) (show JK _ ([.ex (eSt state_) 1, .un, .un] : Gm) g__law_drawn _ from (jk_set eN (j_callI rfl (ja_cons j_int ja_nil) rfl rfl (take_ok _ (by decide) (by decide))) rfl h fun pick197 h198 => (jk_abs (G := (fun (st199 : (Int × Int)) => ([.ex (eSt st199) 1, .ex (eN pick197) 0, .un] : Gm))) h198 (.cons .same (.cons .same (.cons .same .nil))) fun st199 h200 => (jk_set eI (j_op2 (jo_v (j_v (j_callI rfl (ja_cons j_int ja_nil) rfl rfl (take_ok _ (by decide) (by decide))))) (jo_v j_int) hq0 hq0 (g_subI (((Tv.tkV st199 (9 : Nat)) : Nat) : Int) (4 : Int))) rfl h200 fun n201 h202 => (jk_abs (G := (fun (st203 : (Int × Int)) => ([.ex (eSt st203) 1, .ex (eN pick197) 0, .ex (eI n201) 0] : Gm))) h202 (.cons .same (.cons .same (.cons .same .nil))) fun st203 h204 => (jk_last (jk_retIte (jk_if (jt_tst (j_op2 (jo_nm rfl) (jo_v j_int) hq0 hq0 (g_ltN pick197 (2 : Nat)))) (fun hb205 => (ji_ret (p := (eSt st203, 1)) (j_e (j_tup (ja_cons (j_nm rfl) (ja_cons j_int ja_nil)) rfl)) rfl rfl)) (fun hb205 => (jk_retIte (jk_if (jt_tst (j_op2 (jo_nm rfl) (jo_v j_int) hq0 hq0 (g_eqN pick197 (2 : Nat)))) (fun hb206 => (ji_ret (p := (eSt (Tv.tkS st203 (5 : Nat)), 1)) (j_call (ja_cons (j_nm rfl) (ja_cons (j_v (j_op2 (jo_v j_int) (jo_v (j_v (j_callI rfl (ja_cons j_int ja_nil) rfl rfl (take_ok _ (by decide) (by decide))))) hq0 hq0 (g_addN (1 : Nat) (Tv.tkV st203 (5 : Nat))))) ja_nil)) rfl (t__law_frac n201 ((((1 : Nat) + (Tv.tkV st203 (5 : Nat))) : Nat) : Int) ((h204 hb205) hb206))) rfl rfl)) (fun hb206 => (ji_ret (p := (eSt (Tv.tkS st203 (3 : Nat)), 1)) (j_e (j_tup (ja_cons (j_v (j_op2 (jo_v (j_v (j_callI rfl (ja_cons j_int ja_nil) rfl rfl (take_ok _ (by decide) (by decide))))) (jo_v j_int) hq0 hq0 (g_subI (((Tv.tkV st203 (3 : Nat)) : Nat) : Int) (1 : Int)))) (ja_cons j_int ja_nil)) rfl)) rfl rfl)))))))))))))
def T__law_row_c1  (st208 : Int × Int) (b209 : Nat) : Rat × (Int × Int) := ((T__law_drawn st208 ).1, (T__law_drawn st208 ).2)
def SC__law_row_c1  (st208 : Int × Int) (b209 : Nat) : Prop := (SC__law_drawn st208 )
def T__law_row (state_ : (Int × Int)) (n_ : Nat) : (List Rat) × (Int × Int) := ((Tv.drawS (T__law_row_c1) (List.range n_) state_).1, (Tv.drawS (T__law_row_c1) (List.range n_) state_).2)
def SC__law_row (state_ : (Int × Int)) (n_ : Nat) : Prop := (n_ ≤ lim) ∧ (Tv.AllS (SC__law_row_c1) (T__law_row_c1) (List.range n_) state_)
theorem t__law_row (state_ : (Int × Int)) (n_ : Nat) (h : SC__law_row state_ n_) : F__law_row (some (eSt state_, 1)) [eN n_] = .ok ((eT eQ) (T__law_row state_ n_).1, 0) (some (eSt (T__law_row state_ n_).2, 1)) :=
  ji_of (E := fun x => ((eT eQ) x, 0)) (es := fun s => (eSt s, 1)) (v := T__law_row state_ n_) (show JK _ ([.ex (eSt state_) 1, .ex (eN n_) 0, .un] : Gm) g__law_row _ from (jk_last (ji_ret (p := (eSt (Tv.drawS (T__law_row_c1) (List.range n_) state_).2, 1)) (j_op1 (jo_v (j_v (j_compS (s0 := state_) (S := SC__law_row_c1) eN eQ (T__law_row_c1) (fun st208 => ([.ex (eSt st208) 1, .ex (eN n_) 0, .un] : Gm)) (ji_rg1 (ja_cons (j_nm rfl) ja_nil) (i_rgN h.1)) (.cons .same (.cons .same (.cons .same .nil))) (len_range h.1) h.2 (fun st208 b209 => (jg_name rfl)) (fun st208 b209 h210 => (j_e (j_v (j_callI rfl ja_nil rfl rfl (t__law_drawn st208  h210))))) (fun st208 b209 => (.cons .same (.cons .same (.cons .same .nil))))))) hq0 (g_tupL _ (Tv.drawS (T__law_row_c1) (List.range n_) state_).1)) rfl rfl)))
def T__law_nonzero (state_ : (Int × Int)) : Rat × (Int × Int) := (Let ((T__law_drawn state_ ).1) fun c211 => (Let ((T__law_drawn state_ ).2) fun st213 => (cond (!decide (c211.num = (0 : Int))) (c211, st213) (((((((1 : Nat) + (Tv.tkV st213 (3 : Nat))) : Nat) : Int) : Int) : Rat), (Tv.tkS st213 (3 : Nat))))))
def SC__law_nonzero (state_ : (Int × Int)) : Prop := (SC__law_drawn state_ )
theorem t__law_nonzero (state_ : (Int × Int)) (h : SC__law_nonzero state_) : F__law_nonzero (some (eSt state_, 1)) [] = .ok (eQ (T__law_nonzero state_).1, 0) (some (eSt (T__law_nonzero state_).2, 1)) :=
  ji_of (E := fun x => (eQ x, 0)) (es := fun s => (eSt s, 1)) (v := T__law_nonzero state_) (show JK _ ([.ex (eSt state_) 1, .un] : Gm) g__law_nonzero _ from (jk_set (S := fun _ => True) eQ (j_callI rfl ja_nil rfl rfl (t__law_drawn state_  h)) rfl trivial fun c211 _ => (jk_abs (S := fun _ => True) (G := (fun (st213 : (Int × Int)) => ([.ex (eSt st213) 1, .ex (eQ c211) 0] : Gm))) trivial (.cons .same (.cons .same .nil)) fun st213 _ => (jk_last (jk_retIte (jk_if (jt_tst (j_op2 (jo_v (j_v (j_op2 (jo_nm rfl) (jo_v j_int) hq0 hq0 g_p0))) (jo_v j_int) hq0 hq0 (g_neI c211.num (0 : Int)))) (fun hb215 => (ji_ret (p := (eSt st213, 1)) (j_e (j_nm rfl)) rfl rfl)) (fun hb215 => (ji_ret (p := (eSt (Tv.tkS st213 (3 : Nat)), 1)) (j_e (j_tup (ja_cons (j_v (j_op2 (jo_v j_int) (jo_v (j_v (j_callI rfl (ja_cons j_int ja_nil) rfl rfl (take_ok _ (by decide) (by decide))))) hq0 hq0 (g_addN (1 : Nat) (Tv.tkV st213 (3 : Nat))))) (ja_cons j_int ja_nil)) rfl)) rfl rfl))))))))
def T__law_path_moments_c1  (b223 : Nat) : Rat := (((0 : Int) : Rat))
def T__law_path_moments_l1 (a_ : (List Rat)) (b_ : (List Rat)) (s221 : ((List Rat) × (List Rat))) (s228 : (List Rat)) (b227 : Nat) : (List Rat) := (Let (s228.set (b227 + (1 : Nat)) ((Tv.nth s228 (b227 + (1 : Nat))) + (Tv.nth s221.1 b227))) fun later229 => (Let (cond (decide (b227 < a_.length)) (Let (later229.set b227 ((Tv.nth later229 b227) + ((Tv.nth s221.1 b227) * (Tv.nth a_ b227)))) fun later233 => later233) later229) fun s231 => (cond ((decide ((0 : Nat) < b227)) && (decide ((b227 - (1 : Nat)) < b_.length))) (Let (s231.set (b227 - (1 : Nat)) ((Tv.nth s231 (b227 - (1 : Nat))) + ((Tv.nth s221.1 b227) * (Tv.nth b_ (b227 - (1 : Nat)))))) fun later239 => later239) s231)))
def SC__law_path_moments_l1 (a_ : (List Rat)) (b_ : (List Rat)) (s221 : ((List Rat) × (List Rat))) (s228 : (List Rat)) (b227 : Nat) : Prop := ((b227 + (1 : Nat)) < s228.length) ∧ (b227 < s221.1.length) ∧ (Sm (Tv.nth s228 (b227 + (1 : Nat)))) ∧ (Sm (Tv.nth s221.1 b227)) ∧ (Let (s228.set (b227 + (1 : Nat)) ((Tv.nth s228 (b227 + (1 : Nat))) + (Tv.nth s221.1 b227))) fun later229 => ((decide (b227 < a_.length)) = true → (b227 < later229.length) ∧ (b227 < s221.1.length) ∧ (b227 < a_.length) ∧ (Sm (Tv.nth s221.1 b227)) ∧ (Sm (Tv.nth a_ b227)) ∧ (Sm (Tv.nth later229 b227)) ∧ (Sm ((Tv.nth s221.1 b227) * (Tv.nth a_ b227)))) ∧ (Let (cond (decide (b227 < a_.length)) (Let (later229.set b227 ((Tv.nth later229 b227) + ((Tv.nth s221.1 b227) * (Tv.nth a_ b227)))) fun later233 => later233) later229) fun s231 => ((decide ((0 : Nat) < b227)) = true → ((1 : Nat) ≤ b227)) ∧ (((decide ((0 : Nat) < b227)) && (decide ((b227 - (1 : Nat)) < b_.length))) = true → ((1 : Nat) ≤ b227) ∧ ((b227 - (1 : Nat)) < s231.length) ∧ (b227 < s221.1.length) ∧ ((b227 - (1 : Nat)) < b_.length) ∧ (Sm (Tv.nth s221.1 b227)) ∧ (Sm (Tv.nth b_ (b227 - (1 : Nat)))) ∧ (Sm (Tv.nth s231 (b227 - (1 : Nat)))) ∧ (Sm ((Tv.nth s221.1 b227) * (Tv.nth b_ (b227 - (1 : Nat))))))))
def T__law_path_moments_l2 (a_ : (List Rat)) (b_ : (List Rat)) (s221 : ((List Rat) × (List Rat))) (b220 : Nat) : ((List Rat) × (List Rat)) := (Let ((List.range (s221.1.length + (1 : Nat))).map (T__law_path_moments_c1)) fun later225 => (Let ((List.range s221.1.length).foldl (T__law_path_moments_l1 a_ b_ s221) later225) fun s228 => (Let s228 fun row243 => (Let (s221.2 ++ [(Tv.nth row243 (0 : Nat))]) fun found245 => (row243, found245)))))
def SC__law_path_moments_l2 (a_ : (List Rat)) (b_ : (List Rat)) (s221 : ((List Rat) × (List Rat))) (b220 : Nat) : Prop := ((s221.1.length + (1 : Nat)) ≤ lim) ∧ (Let ((List.range (s221.1.length + (1 : Nat))).map (T__law_path_moments_c1)) fun later225 => (s221.1.length ≤ lim) ∧ (AllF (SC__law_path_moments_l1 a_ b_ s221) (T__law_path_moments_l1 a_ b_ s221) (List.range s221.1.length) later225) ∧ (Let ((List.range s221.1.length).foldl (T__law_path_moments_l1 a_ b_ s221) later225) fun s228 => (Let s228 fun row243 => ((0 : Nat) < row243.length) ∧ (s221.2.length < lim))))
def T__law_path_moments (a_ : (List Rat)) (b_ : (List Rat)) (n_ : Nat) : (List Rat) := (Let ([(((1 : Int) : Rat))]) fun row216 => (Let ([] : (List Rat)) fun found218 => (Let ((List.range n_).foldl (T__law_path_moments_l2 a_ b_) (row216, found218)) fun s221 => s221.2)))
def SC__law_path_moments (a_ : (List Rat)) (b_ : (List Rat)) (n_ : Nat) : Prop := (Let ([(((1 : Int) : Rat))]) fun row216 => (Let ([] : (List Rat)) fun found218 => (n_ ≤ lim) ∧ (AllF (SC__law_path_moments_l2 a_ b_) (T__law_path_moments_l2 a_ b_) (List.range n_) (row216, found218))))
theorem t__law_path_moments (a_ : (List Rat)) (b_ : (List Rat)) (n_ : Nat) (h : SC__law_path_moments a_ b_ n_) : F__law_path_moments none [(eT eQ) a_, (eT eQ) b_, eN n_] = .ok ((eT eQ) (T__law_path_moments a_ b_ n_), 0) none :=
  jf_of (E := fun x => ((eT eQ) x, 0)) (v := T__law_path_moments a_ b_ n_) (show JK _ ([.ex ((eT eQ) a_) 0, .ex ((eT eQ) b_) 0, .ex (eN n_) 0, .un, .un, .un, .un, .un] : Gm) g__law_path_moments _ from (jk_set (eL eQ) (j_lst (ja_cons (j_tup (ja_cons j_int (ja_cons j_int ja_nil)) rfl) ja_nil) rfl) rfl h fun row216 h217 => (jk_set (eL eQ) (j_lst ja_nil rfl) rfl h217 fun found218 h219 => (jk_for (S := fun _ => True) (step := T__law_path_moments_l2 a_ b_) (s0 := (row216, found218)) (SB := SC__law_path_moments_l2 a_ b_) (fun (s221 : ((List Rat) × (List Rat))) => ([.ex ((eT eQ) a_) 0, .ex ((eT eQ) b_) 0, .ex (eN n_) 0, .ex ((eL eQ) s221.1) 1, .ex ((eL eQ) s221.2) 1, .un, .un, .un] : Gm)) eN (ji_rg1 (ja_cons (j_nm rfl) ja_nil) (i_rgN h219.1)) (.cons .same (.cons .same (.cons .same (.cons .same (.cons .same (.cons .same (.cons .same (.cons .same .nil)))))))) h219.2 (fun s221 b220 => (jg_name rfl)) (fun s221 b220 h247 => (jl_weak (jk_set (eL eQ) (j_comp (S := fun _ => True) eN eQ (T__law_path_moments_c1) ([.ex ((eT eQ) a_) 0, .ex ((eT eQ) b_) 0, .ex (eN n_) 0, .ex ((eL eQ) s221.1) 1, .ex ((eL eQ) s221.2) 1, .ex (eN b220) 0, .un, .un] : Gm) (ji_rg1 (ja_cons (j_v (j_op2 (jo_v (j_v (j_op1 (jo_nm1 rfl) (hq1 rfl) (g_lenL _ s221.1)))) (jo_v j_int) hq0 hq0 (g_addN s221.1.length (1 : Nat)))) ja_nil) (i_rgN h247.1)) (.cons .same (.cons .same (.cons .same (.cons .same (.cons .same (.cons .same (.cons .same (.cons .same .nil)))))))) (len_range h247.1) (fun _ _ => trivial) (fun b223 => (jg_name rfl)) (fun b223 _ => (j_e (j_tup (ja_cons j_int (ja_cons j_int ja_nil)) rfl))) (fun b223 => (.cons .same (.cons .same (.cons .same (.cons .same (.cons .same (.cons .same (.cons .same (.cons .same .nil)))))))))) rfl h247.2 fun later225 h226 => (jk_for (step := T__law_path_moments_l1 a_ b_ s221) (s0 := later225) (SB := SC__law_path_moments_l1 a_ b_ s221) (fun (s228 : (List Rat)) => ([.ex ((eT eQ) a_) 0, .ex ((eT eQ) b_) 0, .ex (eN n_) 0, .ex ((eL eQ) s221.1) 1, .ex ((eL eQ) s221.2) 1, .ex (eN b220) 0, .ex ((eL eQ) s228) 1, .un] : Gm)) eN (ji_rg1 (ja_cons (j_v (j_op1 (jo_nm1 rfl) (hq1 rfl) (g_lenL _ s221.1))) ja_nil) (i_rgN h226.1)) (.cons .same (.cons .same (.cons .same (.cons .same (.cons .same (.cons .same (.cons .same (.cons .same .nil)))))))) h226.2.1 (fun s228 b227 => (jg_name rfl)) (fun s228 b227 h241 => (jl_weak (jk_sub eQ (j := (((b227 + (1 : Nat)) : Nat) : Int)) (j_v (j_call (ja_cons (j_v (j_op2 (jo_nm1 rfl) (jo_v (j_v (j_op2 (jo_nm rfl) (jo_v j_int) hq0 hq0 (g_addN b227 (1 : Nat))))) (hq1 rfl) hq0 (g_idxL (f := eQ) h241.1))) (ja_cons (j_v (j_op2 (jo_nm1 rfl) (jo_nm rfl) (hq1 rfl) hq0 (g_idxL (f := eQ) h241.2.1))) ja_nil)) rfl (t__law_add (Tv.nth s228 (b227 + (1 : Nat))) (Tv.nth s221.1 b227) h241.2.2.1 h241.2.2.2.1))) rfl (j_v (j_op2 (jo_nm rfl) (jo_v j_int) hq0 hq0 (g_addN b227 (1 : Nat)))) rfl (ixn h241.1) h241.2.2.2.2 fun later229 h230 => (jk_ifn (fun (s231 : (List Rat)) => ([.ex ((eT eQ) a_) 0, .ex ((eT eQ) b_) 0, .ex (eN n_) 0, .ex ((eL eQ) s221.1) 1, .ex ((eL eQ) s221.2) 1, .ex (eN b220) 0, .ex ((eL eQ) s231) 1, .ex (eN b227) 0] : Gm)) (jt_tst (j_op2 (jo_nm rfl) (jo_v (j_v (j_op1 (jo_nm rfl) hq0 (g_lenT _ a_)))) hq0 hq0 (g_ltN b227 a_.length))) (fun hb232 => (jk_last (jk_sub (S := fun _ => True) eQ (j := ((b227 : Nat) : Int)) (j_v (j_call (ja_cons (j_v (j_op2 (jo_nm1 rfl) (jo_nm rfl) (hq1 rfl) hq0 (g_idxL (f := eQ) (h230.1 hb232).1))) (ja_cons (j_v (j_call (ja_cons (j_v (j_op2 (jo_nm1 rfl) (jo_nm rfl) (hq1 rfl) hq0 (g_idxL (f := eQ) (h230.1 hb232).2.1))) (ja_cons (j_v (j_op2 (jo_nm rfl) (jo_nm rfl) hq0 hq0 (g_idxT (f := eQ) (h230.1 hb232).2.2.1))) ja_nil)) rfl (t__law_times (Tv.nth s221.1 b227) (Tv.nth a_ b227) (h230.1 hb232).2.2.2.1 (h230.1 hb232).2.2.2.2.1))) ja_nil)) rfl (t__law_add (Tv.nth later229 b227) ((Tv.nth s221.1 b227) * (Tv.nth a_ b227)) (h230.1 hb232).2.2.2.2.2.1 (h230.1 hb232).2.2.2.2.2.2))) rfl (j_nm rfl) rfl (ixn (h230.1 hb232).1) trivial fun later233 _ => (jk_nx (.cons .same (.cons .same (.cons .same (.cons .same (.cons .same (.cons .same (.cons .same (.cons .same .nil)))))))))))) (fun hb232 => (jk_nx (.cons .same (.cons .same (.cons .same (.cons .same (.cons .same (.cons .same (.cons .same (.cons .same .nil)))))))))) h230.2 fun s231 h235 => (jk_last (jk_if (jt_and (jt_tst (j_op2 (jo_nm rfl) (jo_v j_int) hq0 hq0 (g_gtN b227 (0 : Nat)))) fun hb236 => (jt_tst (j_op2 (jo_v (j_v (j_op2 (jo_nm rfl) (jo_v j_int) hq0 hq0 (g_subN (h235.1 hb236))))) (jo_v (j_v (j_op1 (jo_nm rfl) hq0 (g_lenT _ b_)))) hq0 hq0 (g_ltN (b227 - (1 : Nat)) b_.length)))) (fun hb238 => (jk_sub (S := fun _ => True) eQ (j := (((b227 - (1 : Nat)) : Nat) : Int)) (j_v (j_call (ja_cons (j_v (j_op2 (jo_nm1 rfl) (jo_v (j_v (j_op2 (jo_nm rfl) (jo_v j_int) hq0 hq0 (g_subN (h235.2 hb238).1)))) (hq1 rfl) hq0 (g_idxL (f := eQ) (h235.2 hb238).2.1))) (ja_cons (j_v (j_call (ja_cons (j_v (j_op2 (jo_nm1 rfl) (jo_nm rfl) (hq1 rfl) hq0 (g_idxL (f := eQ) (h235.2 hb238).2.2.1))) (ja_cons (j_v (j_op2 (jo_nm rfl) (jo_v (j_v (j_op2 (jo_nm rfl) (jo_v j_int) hq0 hq0 (g_subN (h235.2 hb238).1)))) hq0 hq0 (g_idxT (f := eQ) (h235.2 hb238).2.2.2.1))) ja_nil)) rfl (t__law_times (Tv.nth s221.1 b227) (Tv.nth b_ (b227 - (1 : Nat))) (h235.2 hb238).2.2.2.2.1 (h235.2 hb238).2.2.2.2.2.1))) ja_nil)) rfl (t__law_add (Tv.nth s231 (b227 - (1 : Nat))) ((Tv.nth s221.1 b227) * (Tv.nth b_ (b227 - (1 : Nat)))) (h235.2 hb238).2.2.2.2.2.2.1 (h235.2 hb238).2.2.2.2.2.2.2))) rfl (j_v (j_op2 (jo_nm rfl) (jo_v j_int) hq0 hq0 (g_subN (h235.2 hb238).1))) rfl (ixn (h235.2 hb238).2.1) trivial fun later239 _ => (jk_nx (.cons .same (.cons .same (.cons .same (.cons .same (.cons .same (.cons .same (.cons .same (.cons .un .nil))))))))))) (fun hb238 => (jk_pass (jk_nx (.cons .same (.cons .same (.cons .same (.cons .same (.cons .same (.cons .same (.cons .same (.cons .un .nil))))))))))))))))) h226.2.2 fun s228 h242 => (jk_set (eL eQ) (j_op1 (jo_nm1 rfl) (hq1 rfl) (g_lisL _ s228)) rfl h242 fun row243 h244 => (jk_last (jk_app (S := fun _ => True) eQ rfl (j_v (j_op2 (jo_nm1 rfl) (jo_v j_int) (hq1 rfl) hq0 (g_idxL (f := eQ) h244.1))) rfl h244.2 trivial fun found245 _ => (jk_nx (.cons .same (.cons .same (.cons .same (.cons .same (.cons .same (.cons .un (.cons .un (.cons .same .nil)))))))))))))))) trivial fun s221 _ => (jk_last (jk_ret (j_op1 (jo_nm1 rfl) (hq1 rfl) (g_tupL _ s221.2))))))))
def T__law_plain (a0 : Pv.D) : Pv.D := okD (F__law_plain none [eD a0])
def SC__law_plain (a0 : Pv.D) : Prop := F__law_plain none [eD a0] = .ok (okD (F__law_plain none [eD a0]), 0) none
theorem t__law_plain (a0 : Pv.D) (h : SC__law_plain a0) : F__law_plain none [eD a0] = .ok (eD (T__law_plain a0), 0) none := h
def T__law_told (a0 : Nat) (a1 : Pv.D) (a2 : Pv.D) : Pv.D := okD (F__law_told none [eN a0, eD a1, eD a2])
def SC__law_told (a0 : Nat) (a1 : Pv.D) (a2 : Pv.D) : Prop := F__law_told none [eN a0, eD a1, eD a2] = .ok (okD (F__law_told none [eN a0, eD a1, eD a2]), 0) none
theorem t__law_told (a0 : Nat) (a1 : Pv.D) (a2 : Pv.D) (h : SC__law_told a0 a1 a2) : F__law_told none [eN a0, eD a1, eD a2] = .ok (eD (T__law_told a0 a1 a2), 0) none := h
def T__law_recursion_l1 (a_ : (List Rat)) (b_ : (List Rat)) (x249 : (List Rat)) (s255 : ((List (List Rat)) × (List (List Rat)))) (b254 : Nat) : ((List (List Rat)) × (List (List Rat))) := (Let (T__law_poly_add x249 (T__law_poly_scaled ([(((1 : Int) : Rat))] : (List Rat)) ((((0 : Int) : Rat)) - (Tv.nth a_ b254)))) fun step256 => (Let (T__law_poly_times step256 (Tv.nth s255.1 b254)) fun first258 => (Let (cond (decide (b254 = (0 : Nat))) ([(((1 : Int) : Rat))] : (List Rat)) (T__law_poly_times step256 (Tv.nth s255.2 b254))) fun second261 => (Let (cond (decide ((0 : Nat) < b254)) (Let ((((0 : Int) : Rat)) - (Tv.nth b_ (b254 - (1 : Nat)))) fun c265 => (Let (T__law_poly_add first258 (T__law_poly_scaled (Tv.nth s255.1 (b254 - (1 : Nat))) c265)) fun first267 => (Let (T__law_poly_add second261 (T__law_poly_scaled (Tv.nth s255.2 (b254 - (1 : Nat))) c265)) fun second268 => (first267, second268)))) (first258, second261)) fun s263 => (Let (s255.1 ++ [s263.1]) fun one271 => (Let (s255.2 ++ [s263.2]) fun two273 => (one271, two273)))))))
def SC__law_recursion_l1 (a_ : (List Rat)) (b_ : (List Rat)) (x249 : (List Rat)) (s255 : ((List (List Rat)) × (List (List Rat)))) (b254 : Nat) : Prop := (b254 < a_.length) ∧ (Sm (((0 : Int) : Rat))) ∧ (Sm (Tv.nth a_ b254)) ∧ (SC__law_poly_scaled ([(((1 : Int) : Rat))] : (List Rat)) ((((0 : Int) : Rat)) - (Tv.nth a_ b254))) ∧ (SC__law_poly_add x249 (T__law_poly_scaled ([(((1 : Int) : Rat))] : (List Rat)) ((((0 : Int) : Rat)) - (Tv.nth a_ b254)))) ∧ (Let (T__law_poly_add x249 (T__law_poly_scaled ([(((1 : Int) : Rat))] : (List Rat)) ((((0 : Int) : Rat)) - (Tv.nth a_ b254)))) fun step256 => (b254 < s255.1.length) ∧ (SC__law_poly_times step256 (Tv.nth s255.1 b254)) ∧ (Let (T__law_poly_times step256 (Tv.nth s255.1 b254)) fun first258 => ((decide (b254 = (0 : Nat))) = false → (b254 < s255.2.length) ∧ (SC__law_poly_times step256 (Tv.nth s255.2 b254))) ∧ (Let (cond (decide (b254 = (0 : Nat))) ([(((1 : Int) : Rat))] : (List Rat)) (T__law_poly_times step256 (Tv.nth s255.2 b254))) fun second261 => ((decide ((0 : Nat) < b254)) = true → ((1 : Nat) ≤ b254) ∧ ((b254 - (1 : Nat)) < b_.length) ∧ (Sm (((0 : Int) : Rat))) ∧ (Sm (Tv.nth b_ (b254 - (1 : Nat)))) ∧ (Let ((((0 : Int) : Rat)) - (Tv.nth b_ (b254 - (1 : Nat)))) fun c265 => ((1 : Nat) ≤ b254) ∧ ((b254 - (1 : Nat)) < s255.1.length) ∧ (SC__law_poly_scaled (Tv.nth s255.1 (b254 - (1 : Nat))) c265) ∧ (SC__law_poly_add first258 (T__law_poly_scaled (Tv.nth s255.1 (b254 - (1 : Nat))) c265)) ∧ ((b254 - (1 : Nat)) < s255.2.length) ∧ (SC__law_poly_scaled (Tv.nth s255.2 (b254 - (1 : Nat))) c265) ∧ (SC__law_poly_add second261 (T__law_poly_scaled (Tv.nth s255.2 (b254 - (1 : Nat))) c265)))) ∧ (Let (cond (decide ((0 : Nat) < b254)) (Let ((((0 : Int) : Rat)) - (Tv.nth b_ (b254 - (1 : Nat)))) fun c265 => (Let (T__law_poly_add first258 (T__law_poly_scaled (Tv.nth s255.1 (b254 - (1 : Nat))) c265)) fun first267 => (Let (T__law_poly_add second261 (T__law_poly_scaled (Tv.nth s255.2 (b254 - (1 : Nat))) c265)) fun second268 => (first267, second268)))) (first258, second261)) fun s263 => (s255.1.length < lim) ∧ (Let (s255.1 ++ [s263.1]) fun one271 => (s255.2.length < lim))))))
def T__law_recursion (a_ : (List Rat)) (b_ : (List Rat)) : ((List (List Rat)) × (List (List Rat))) := (Let ([(((0 : Int) : Rat)), (((1 : Int) : Rat))] : (List Rat)) fun x249 => (Let ([([(((1 : Int) : Rat))] : (List Rat))]) fun one251 => (Let ([([] : (List Rat))]) fun two252 => (Let ((List.range a_.length).foldl (T__law_recursion_l1 a_ b_ x249) (one251, two252)) fun s255 => (s255.1, s255.2)))))
def SC__law_recursion (a_ : (List Rat)) (b_ : (List Rat)) : Prop := (Let ([(((0 : Int) : Rat)), (((1 : Int) : Rat))] : (List Rat)) fun x249 => ((Let ([([(((1 : Int) : Rat))] : (List Rat))]) fun one251 => (Let ([([] : (List Rat))]) fun two252 => (a_.length ≤ lim) ∧ (AllF (SC__law_recursion_l1 a_ b_ x249) (T__law_recursion_l1 a_ b_ x249) (List.range a_.length) (one251, two252))))))
theorem t__law_recursion (a_ : (List Rat)) (b_ : (List Rat)) (h : SC__law_recursion a_ b_) : F__law_recursion none [(eT eQ) a_, (eT eQ) b_] = .ok ((e2 (eT (eT eQ)) (eT (eT eQ))) (T__law_recursion a_ b_), 0) none :=
  jf_of (E := fun x => ((e2 (eT (eT eQ)) (eT (eT eQ))) x, 0)) (v := T__law_recursion a_ b_) (show JK _ ([.ex ((eT eQ) a_) 0, .ex ((eT eQ) b_) 0, .un, .un, .un, .un, .un, .un, .un, .un] : Gm) g__law_recursion _ from (jk_set (eT eQ) (j_e (j_tup (ja_cons (j_tup (ja_cons j_int (ja_cons j_int ja_nil)) rfl) (ja_cons (j_tup (ja_cons j_int (ja_cons j_int ja_nil)) rfl) ja_nil)) rfl)) rfl h fun x249 h250 => (jk_par (eL (eT eQ)) (eL (eT eQ)) (jl_cons (j_lst (ja_cons (j_tup (ja_cons (j_tup (ja_cons j_int (ja_cons j_int ja_nil)) rfl) ja_nil) rfl) ja_nil) rfl) (jl_cons (j_lst (ja_cons (j_tup ja_nil rfl) ja_nil) rfl) jl_nil)) rfl rfl h250 fun one251 two252 h253 => (jk_for (S := fun _ => True) (step := T__law_recursion_l1 a_ b_ x249) (s0 := (one251, two252)) (SB := SC__law_recursion_l1 a_ b_ x249) (fun (s255 : ((List (List Rat)) × (List (List Rat)))) => ([.ex ((eT eQ) a_) 0, .ex ((eT eQ) b_) 0, .ex ((eT eQ) x249) 0, .un, .ex ((eL (eT eQ)) s255.1) 1, .ex ((eL (eT eQ)) s255.2) 1, .un, .un, .un, .un] : Gm)) eN (ji_rg1 (ja_cons (j_v (j_op1 (jo_nm rfl) hq0 (g_lenT _ a_))) ja_nil) (i_rgN h253.1)) (.cons .same (.cons .same (.cons .same (.cons .same (.cons .same (.cons .same (.cons .same (.cons .same (.cons .same (.cons .same .nil)))))))))) h253.2 (fun s255 b254 => (jg_name rfl)) (fun s255 b254 h275 => (jl_weak (jk_set (eT eQ) (j_call (ja_cons (j_nm rfl) (ja_cons (j_v (j_call (ja_cons (j_tup (ja_cons (j_tup (ja_cons j_int (ja_cons j_int ja_nil)) rfl) ja_nil) rfl) (ja_cons (j_v (j_call (ja_cons (j_tup (ja_cons j_int (ja_cons j_int ja_nil)) rfl) (ja_cons (j_v (j_op2 (jo_nm rfl) (jo_nm rfl) hq0 hq0 (g_idxT (f := eQ) h275.1))) ja_nil)) rfl (t__law_less (((0 : Int) : Rat)) (Tv.nth a_ b254) h275.2.1 h275.2.2.1))) ja_nil)) rfl (t__law_poly_scaled ([(((1 : Int) : Rat))] : (List Rat)) ((((0 : Int) : Rat)) - (Tv.nth a_ b254)) h275.2.2.2.1))) ja_nil)) rfl (t__law_poly_add x249 (T__law_poly_scaled ([(((1 : Int) : Rat))] : (List Rat)) ((((0 : Int) : Rat)) - (Tv.nth a_ b254))) h275.2.2.2.2.1)) rfl h275.2.2.2.2.2 fun step256 h257 => (jk_set (eT eQ) (j_call (ja_cons (j_nm rfl) (ja_cons (j_v (j_op2 (jo_nm1 rfl) (jo_nm rfl) (hq1 rfl) hq0 (g_idxL (f := (eT eQ)) h257.1))) ja_nil)) rfl (t__law_poly_times step256 (Tv.nth s255.1 b254) h257.2.1)) rfl h257.2.2 fun first258 h259 => (jk_set (eT eQ) (j_ite (E := fun x => ((eT eQ) x, 0)) (v1 := ([(((1 : Int) : Rat))] : (List Rat))) (v2 := (T__law_poly_times step256 (Tv.nth s255.2 b254))) (jt_tst (j_op2 (jo_nm rfl) (jo_v j_int) hq0 hq0 (g_eqN b254 (0 : Nat)))) (fun hb260 => (j_e (j_tup (ja_cons (j_tup (ja_cons j_int (ja_cons j_int ja_nil)) rfl) ja_nil) rfl))) (fun hb260 => (j_call (ja_cons (j_nm rfl) (ja_cons (j_v (j_op2 (jo_nm1 rfl) (jo_nm rfl) (hq1 rfl) hq0 (g_idxL (f := (eT eQ)) (h259.1 hb260).1))) ja_nil)) rfl (t__law_poly_times step256 (Tv.nth s255.2 b254) (h259.1 hb260).2)))) rfl h259.2 fun second261 h262 => (jk_ifn (fun (s263 : ((List Rat) × (List Rat))) => ([.ex ((eT eQ) a_) 0, .ex ((eT eQ) b_) 0, .ex ((eT eQ) x249) 0, .ex (eN b254) 0, .ex ((eL (eT eQ)) s255.1) 1, .ex ((eL (eT eQ)) s255.2) 1, .ex ((eT eQ) step256) 0, .ex ((eT eQ) s263.1) 0, .ex ((eT eQ) s263.2) 0, .un] : Gm)) (jt_tst (j_op2 (jo_nm rfl) (jo_v j_int) hq0 hq0 (g_gtN b254 (0 : Nat)))) (fun hb264 => (jk_set eQ (j_call (ja_cons (j_tup (ja_cons j_int (ja_cons j_int ja_nil)) rfl) (ja_cons (j_v (j_op2 (jo_nm rfl) (jo_v (j_v (j_op2 (jo_nm rfl) (jo_v j_int) hq0 hq0 (g_subN (h262.1 hb264).1)))) hq0 hq0 (g_idxT (f := eQ) (h262.1 hb264).2.1))) ja_nil)) rfl (t__law_less (((0 : Int) : Rat)) (Tv.nth b_ (b254 - (1 : Nat))) (h262.1 hb264).2.2.1 (h262.1 hb264).2.2.2.1)) rfl (h262.1 hb264).2.2.2.2 fun c265 h266 => (jk_last (jk_par (S := fun _ _ => True) (eT eQ) (eT eQ) (jl_cons (j_call (ja_cons (j_nm rfl) (ja_cons (j_v (j_call (ja_cons (j_v (j_op2 (jo_nm1 rfl) (jo_v (j_v (j_op2 (jo_nm rfl) (jo_v j_int) hq0 hq0 (g_subN h266.1)))) (hq1 rfl) hq0 (g_idxL (f := (eT eQ)) h266.2.1))) (ja_cons (j_nm rfl) ja_nil)) rfl (t__law_poly_scaled (Tv.nth s255.1 (b254 - (1 : Nat))) c265 h266.2.2.1))) ja_nil)) rfl (t__law_poly_add first258 (T__law_poly_scaled (Tv.nth s255.1 (b254 - (1 : Nat))) c265) h266.2.2.2.1)) (jl_cons (j_call (ja_cons (j_nm rfl) (ja_cons (j_v (j_call (ja_cons (j_v (j_op2 (jo_nm1 rfl) (jo_v (j_v (j_op2 (jo_nm rfl) (jo_v j_int) hq0 hq0 (g_subN h266.1)))) (hq1 rfl) hq0 (g_idxL (f := (eT eQ)) h266.2.2.2.2.1))) (ja_cons (j_nm rfl) ja_nil)) rfl (t__law_poly_scaled (Tv.nth s255.2 (b254 - (1 : Nat))) c265 h266.2.2.2.2.2.1))) ja_nil)) rfl (t__law_poly_add second261 (T__law_poly_scaled (Tv.nth s255.2 (b254 - (1 : Nat))) c265) h266.2.2.2.2.2.2)) jl_nil)) rfl rfl trivial fun first267 second268 _ => (jk_nx (.cons .same (.cons .same (.cons .same (.cons .same (.cons .same (.cons .same (.cons .same (.cons .same (.cons .same (.cons .un .nil))))))))))))))) (fun hb264 => (jk_nx (.cons .same (.cons .same (.cons .same (.cons .same (.cons .same (.cons .same (.cons .same (.cons .same (.cons .same (.cons .same .nil)))))))))))) h262.2 fun s263 h270 => (jk_app (eT eQ) rfl (j_nm rfl) rfl h270.1 h270.2 fun one271 h272 => (jk_last (jk_app (S := fun _ => True) (eT eQ) rfl (j_nm rfl) rfl h272 trivial fun two273 _ => (jk_nx (.cons .same (.cons .same (.cons .same (.cons .un (.cons .same (.cons .same (.cons .un (.cons .un (.cons .un (.cons .same .nil)))))))))))))))))))) trivial fun s255 _ => (jk_last (jk_ret (j_e (j_tup (ja_cons (j_v (j_op1 (jo_nm1 rfl) (hq1 rfl) (g_tupL _ s255.1))) (ja_cons (j_v (j_op1 (jo_nm1 rfl) (hq1 rfl) (g_tupL _ s255.2))) ja_nil)) rfl))))))))
def T__law_mean_c1 (f_ : (List Rat)) (whole277 : (List Rat)) (b280 : Nat) : Rat := ((Tv.nth f_ b280) * (Tv.nth whole277 b280))
def SC__law_mean_c1 (f_ : (List Rat)) (whole277 : (List Rat)) (b280 : Nat) : Prop := (b280 < f_.length) ∧ (b280 < whole277.length) ∧ (Sm (Tv.nth f_ b280)) ∧ (Sm (Tv.nth whole277 b280))
def T__law_mean (row_ : (List Rat)) (f_ : (List Rat)) : Rat := (Let ([(((1 : Int) : Rat))] ++ row_) fun whole277 => (T__law_total ((List.range f_.length).map (T__law_mean_c1 f_ whole277))))
def SC__law_mean (row_ : (List Rat)) (f_ : (List Rat)) : Prop := (([(((1 : Int) : Rat))]).length + row_.length ≤ lim) ∧ (Let ([(((1 : Int) : Rat))] ++ row_) fun whole277 => (f_.length ≤ lim) ∧ (∀ b ∈ (List.range f_.length), SC__law_mean_c1 f_ whole277 b) ∧ (SC__law_total ((List.range f_.length).map (T__law_mean_c1 f_ whole277))))
theorem t__law_mean (row_ : (List Rat)) (f_ : (List Rat)) (h : SC__law_mean row_ f_) : F__law_mean none [(eT eQ) row_, (eT eQ) f_] = .ok (eQ (T__law_mean row_ f_), 0) none :=
  jf_of (E := fun x => (eQ x, 0)) (v := T__law_mean row_ f_) (show JK _ ([.ex ((eT eQ) row_) 0, .ex ((eT eQ) f_) 0, .un, .un] : Gm) g__law_mean _ from (jk_set (eT eQ) (j_op2 (jo_v (j_tup (ja_cons (j_tup (ja_cons j_int (ja_cons j_int ja_nil)) rfl) ja_nil) rfl)) (jo_nm rfl) hq0 hq0 (g_catT (f := eQ) h.1)) rfl h.2 fun whole277 h278 => (jk_last (jk_ret (j_call (ja_cons (j_v (j_comp (S := SC__law_mean_c1 f_ whole277) eN eQ (T__law_mean_c1 f_ whole277) ([.ex ((eT eQ) row_) 0, .ex ((eT eQ) f_) 0, .ex ((eT eQ) whole277) 0, .un] : Gm) (ji_rg1 (ja_cons (j_v (j_op1 (jo_nm rfl) hq0 (g_lenT _ f_))) ja_nil) (i_rgN h278.1)) (.cons .same (.cons .same (.cons .same (.cons .same .nil)))) (len_range h278.1) h278.2.1 (fun b280 => (jg_name rfl)) (fun b280 h281 => (j_e (j_v (j_call (ja_cons (j_v (j_op2 (jo_nm rfl) (jo_nm rfl) hq0 hq0 (g_idxT (f := eQ) h281.1))) (ja_cons (j_v (j_op2 (jo_nm rfl) (jo_nm rfl) hq0 hq0 (g_idxT (f := eQ) h281.2.1))) ja_nil)) rfl (t__law_times (Tv.nth f_ b280) (Tv.nth whole277 b280) h281.2.2.1 h281.2.2.2))))) (fun b280 => (.cons .same (.cons .same (.cons .same (.cons .same .nil))))))) ja_nil) rfl (t__law_total ((List.range f_.length).map (T__law_mean_c1 f_ whole277)) h278.2.2))))))
def T__law_begins_c1  (b285 : Nat) : Rat := (((0 : Int) : Rat))
def T__law_begins_c2 (down289 : (List Rat)) (c294 : Rat) (rest298 : (List Rat)) (b301 : Nat) : Rat := ((Tv.nth rest298 b301) - (c294 * (Tv.nth down289 b301)))
def SC__law_begins_c2 (down289 : (List Rat)) (c294 : Rat) (rest298 : (List Rat)) (b301 : Nat) : Prop := (b301 < rest298.length) ∧ (b301 < down289.length) ∧ (Sm c294) ∧ (Sm (Tv.nth down289 b301)) ∧ (Sm (Tv.nth rest298 b301)) ∧ (Sm (c294 * (Tv.nth down289 b301)))
def T__law_begins_l1 (row_ : (List Rat)) (k282 : Nat) (down289 : (List Rat)) (s292 : (List Rat)) (b291 : Nat) : (Stp (List Rat) Bool) := (Let (cond (decide ((0 : Nat) < s292.length)) (Tv.nth s292 (0 : Nat)) (((0 : Int) : Rat))) fun c294 => (cond (!Tv.eqb c294 (cond (decide (b291 = (0 : Nat))) (((1 : Int) : Rat)) (Tv.nth row_ (b291 - (1 : Nat))))) (.ret false) (Let (s292 ++ (List.replicate ((k282 + (1 : Nat)) - s292.length) ([(((0 : Int) : Rat))])).flatten) fun rest298 => (Let ((Tv.rng (1 : Nat) (k282 + (1 : Nat))).map (T__law_begins_c2 down289 c294 rest298)) fun rest303 => (.go rest303)))))
def SC__law_begins_l1 (row_ : (List Rat)) (k282 : Nat) (down289 : (List Rat)) (s292 : (List Rat)) (b291 : Nat) : Prop := ((decide ((0 : Nat) < s292.length)) = true → ((0 : Nat) < s292.length)) ∧ (Let (cond (decide ((0 : Nat) < s292.length)) (Tv.nth s292 (0 : Nat)) (((0 : Int) : Rat))) fun c294 => ((decide (b291 = (0 : Nat))) = false → ((1 : Nat) ≤ b291) ∧ ((b291 - (1 : Nat)) < row_.length)) ∧ ((!Tv.eqb c294 (cond (decide (b291 = (0 : Nat))) (((1 : Int) : Rat)) (Tv.nth row_ (b291 - (1 : Nat))))) = false → (s292.length ≤ (k282 + (1 : Nat))) ∧ (([(((0 : Int) : Rat))]).length * ((k282 + (1 : Nat)) - s292.length) ≤ lim ∧ ((k282 + (1 : Nat)) - s292.length) ≤ lim) ∧ (s292.length + ((List.replicate ((k282 + (1 : Nat)) - s292.length) ([(((0 : Int) : Rat))])).flatten).length ≤ lim) ∧ (Let (s292 ++ (List.replicate ((k282 + (1 : Nat)) - s292.length) ([(((0 : Int) : Rat))])).flatten) fun rest298 => ((1 : Nat) ≤ lim ∧ (k282 + (1 : Nat)) ≤ lim) ∧ (∀ b ∈ (Tv.rng (1 : Nat) (k282 + (1 : Nat))), SC__law_begins_c2 down289 c294 rest298 b) ∧ ((Tv.rng (1 : Nat) (k282 + (1 : Nat))).length ≤ lim))))
def T__law_begins (p_ : (List Rat)) (q_ : (List Rat)) (row_ : (List Rat)) : Bool := (Let (p_.length - (1 : Nat)) fun k282 => (Let (((List.range (k282 - q_.length)).map (T__law_begins_c1)) ++ (q_.reverse)) fun rest287 => (Let (p_.reverse) fun down289 => (LetX (loopT (T__law_begins_l1 row_ k282 down289) (List.range ((2 : Nat) * k282)) rest287) (fun r => r) fun s292 => true))))
def SC__law_begins (p_ : (List Rat)) (q_ : (List Rat)) (row_ : (List Rat)) : Prop := ((1 : Nat) ≤ p_.length) ∧ (Let (p_.length - (1 : Nat)) fun k282 => (q_.length ≤ k282) ∧ ((k282 - q_.length) ≤ lim) ∧ (((List.range (k282 - q_.length)).map (T__law_begins_c1)).length + (q_.reverse).length ≤ lim) ∧ (Let (((List.range (k282 - q_.length)).map (T__law_begins_c1)) ++ (q_.reverse)) fun rest287 => (Let (p_.reverse) fun down289 => (((2 : Nat) * k282) ≤ lim) ∧ (AllX (SC__law_begins_l1 row_ k282 down289) (T__law_begins_l1 row_ k282 down289) (List.range ((2 : Nat) * k282)) rest287))))
theorem t__law_begins (p_ : (List Rat)) (q_ : (List Rat)) (row_ : (List Rat)) (h : SC__law_begins p_ q_ row_) : F__law_begins none [(eT eQ) p_, (eT eQ) q_, (eT eQ) row_] = .ok (eB (T__law_begins p_ q_ row_), 0) none :=
  jf_of (E := fun x => (eB x, 0)) (v := T__law_begins p_ q_ row_) (show JK _ ([.ex ((eT eQ) p_) 0, .ex ((eT eQ) q_) 0, .ex ((eT eQ) row_) 0, .un, .un, .un, .un, .un, .un] : Gm) g__law_begins _ from (jk_set eN (j_op2 (jo_v (j_v (j_op1 (jo_nm rfl) hq0 (g_lenT _ p_)))) (jo_v j_int) hq0 hq0 (g_subN h.1)) rfl h.2 fun k282 h283 => (jk_set (eL eQ) (j_op2 (jo_v (j_v (j_comp (S := fun _ => True) eN eQ (T__law_begins_c1) ([.ex ((eT eQ) p_) 0, .ex ((eT eQ) q_) 0, .ex ((eT eQ) row_) 0, .ex (eN k282) 0, .un, .un, .un, .un, .un] : Gm) (ji_rg1 (ja_cons (j_v (j_op2 (jo_nm rfl) (jo_v (j_v (j_op1 (jo_nm rfl) hq0 (g_lenT _ q_)))) hq0 hq0 (g_subN h283.1))) ja_nil) (i_rgN h283.2.1)) (.cons .same (.cons .same (.cons .same (.cons .same (.cons .same (.cons .same (.cons .same (.cons .same (.cons .same .nil))))))))) (len_range h283.2.1) (fun _ _ => trivial) (fun b285 => (jg_name rfl)) (fun b285 _ => (j_e (j_tup (ja_cons j_int (ja_cons j_int ja_nil)) rfl))) (fun b285 => (.cons .same (.cons .same (.cons .same (.cons .same (.cons .same (.cons .same (.cons .same (.cons .same (.cons .same .nil))))))))))))) (jo_v (j_v (j_op1 (jo_v (j_v (j_op1 (jo_nm rfl) hq0 (g_lisT _ q_)))) hq0 (g_revL _ q_)))) hq0 hq0 (g_catL (f := eQ) h283.2.2.1)) rfl h283.2.2.2 fun rest287 h288 => (jk_set (eL eQ) (j_op1 (jo_v (j_v (j_op1 (jo_nm rfl) hq0 (g_lisT _ p_)))) hq0 (g_revL _ p_)) rfl h288 fun down289 h290 => (jk_forX (S := fun _ => True) (step := T__law_begins_l1 row_ k282 down289) (s0 := rest287) (SB := SC__law_begins_l1 row_ k282 down289) (fun (s292 : (List Rat)) => ([.ex ((eT eQ) p_) 0, .ex ((eT eQ) q_) 0, .ex ((eT eQ) row_) 0, .ex (eN k282) 0, .ex ((eL eQ) s292) 1, .ex ((eL eQ) down289) 1, .un, .un, .un] : Gm)) eN (fun x => (eB x, 0)) pf_ret (ji_rg1 (ja_cons (j_v (j_op2 (jo_v j_int) (jo_nm rfl) hq0 hq0 (g_mulN (a := (2 : Nat)) (b := k282) (mulOk_lN (a := 2) (by decide))))) ja_nil) (i_rgN h290.1)) (.cons .same (.cons .same (.cons .same (.cons .same (.cons .same (.cons .same (.cons .same (.cons .same (.cons .same .nil))))))))) h290.2 (fun s292 b291 => (jg_name rfl)) (fun s292 b291 h305 => (jx_weak (jk_set eQ (j_ite (E := fun x => (eQ x, 0)) (v1 := (Tv.nth s292 (0 : Nat))) (v2 := (((0 : Int) : Rat))) (jt_tst (j_op2 (jo_v (j_v (j_op1 (jo_nm1 rfl) (hq1 rfl) (g_lenL _ s292)))) (jo_v j_int) hq0 hq0 (g_gtN s292.length (0 : Nat)))) (fun hb293 => (j_op2 (jo_nm1 rfl) (jo_v j_int) (hq1 rfl) hq0 (g_idxL (f := eQ) (h305.1 hb293)))) (fun hb293 => (j_e (j_tup (ja_cons j_int (ja_cons j_int ja_nil)) rfl)))) rfl h305.2 fun c294 h295 => (jk_if (jt_tst (j_op2 (jo_nm rfl) (jo_v (j_v (j_ite (E := fun x => (eQ x, 0)) (v1 := (((1 : Int) : Rat))) (v2 := (Tv.nth row_ (b291 - (1 : Nat)))) (jt_tst (j_op2 (jo_nm rfl) (jo_v j_int) hq0 hq0 (g_eqN b291 (0 : Nat)))) (fun hb296 => (j_e (j_tup (ja_cons j_int (ja_cons j_int ja_nil)) rfl))) (fun hb296 => (j_op2 (jo_nm rfl) (jo_v (j_v (j_op2 (jo_nm rfl) (jo_v j_int) hq0 hq0 (g_subN (h295.1 hb296).1)))) hq0 hq0 (g_idxT (f := eQ) (h295.1 hb296).2)))))) hq0 hq0 (g_ne pl_Q rfl c294 (cond (decide (b291 = (0 : Nat))) (((1 : Int) : Rat)) (Tv.nth row_ (b291 - (1 : Nat))))))) (fun hb297 => (jxs_ret (j_e j_bl))) (fun hb297 => (jk_pass (jk_set (eL eQ) (j_op2 (jo_nm1 rfl) (jo_v (j_v (j_op2 (jo_v (j_v (j_lst (ja_cons (j_tup (ja_cons j_int (ja_cons j_int ja_nil)) rfl) ja_nil) rfl))) (jo_v (j_v (j_op2 (jo_v (j_v (j_op2 (jo_nm rfl) (jo_v j_int) hq0 hq0 (g_addN k282 (1 : Nat))))) (jo_v (j_v (j_op1 (jo_nm1 rfl) (hq1 rfl) (g_lenL _ s292)))) hq0 hq0 (g_subN (h295.2 hb297).1)))) hq0 hq0 (g_mulL (f := eQ) (h295.2 hb297).2.1)))) (hq1 rfl) hq0 (g_catL (f := eQ) (h295.2 hb297).2.2.1)) rfl (h295.2 hb297).2.2.2 fun rest298 h299 => (jk_last (jk_set (S := fun _ => True) (eL eQ) (j_comp (S := SC__law_begins_c2 down289 c294 rest298) eN eQ (T__law_begins_c2 down289 c294 rest298) ([.ex ((eT eQ) p_) 0, .ex ((eT eQ) q_) 0, .ex ((eT eQ) row_) 0, .ex (eN k282) 0, .ex ((eL eQ) rest298) 1, .ex ((eL eQ) down289) 1, .ex (eN b291) 0, .ex (eQ c294) 0, .un] : Gm) (ji_rg2 (ja_cons j_int (ja_cons (j_v (j_op2 (jo_nm rfl) (jo_v j_int) hq0 hq0 (g_addN k282 (1 : Nat)))) ja_nil)) (i_rg2N h299.1)) (.cons .same (.cons .same (.cons .same (.cons .same (.cons .same (.cons .same (.cons .same (.cons .same (.cons .same .nil))))))))) h299.2.2 h299.2.1 (fun b301 => (jg_name rfl)) (fun b301 h302 => (j_e (j_v (j_call (ja_cons (j_v (j_op2 (jo_nm1 rfl) (jo_nm rfl) (hq1 rfl) hq0 (g_idxL (f := eQ) h302.1))) (ja_cons (j_v (j_call (ja_cons (j_nm rfl) (ja_cons (j_v (j_op2 (jo_nm1 rfl) (jo_nm rfl) (hq1 rfl) hq0 (g_idxL (f := eQ) h302.2.1))) ja_nil)) rfl (t__law_times c294 (Tv.nth down289 b301) h302.2.2.1 h302.2.2.2.1))) ja_nil)) rfl (t__law_less (Tv.nth rest298 b301) (c294 * (Tv.nth down289 b301)) h302.2.2.2.2.1 h302.2.2.2.2.2))))) (fun b301 => (.cons .same (.cons .same (.cons .same (.cons .same (.cons .same (.cons .same (.cons .same (.cons .same (.cons .same .nil))))))))))) rfl trivial fun rest303 _ => (jxs_go (.cons .same (.cons .same (.cons .same (.cons .same (.cons .same (.cons .same (.cons .un (.cons .un (.cons .same .nil))))))))))))))))))) (by unfold LetP; split <;> trivial) fun s292 _ => (jk_last (jk_ret (j_e j_bl))))))))
def T_law_c1  (st314 : Int × Int) (b315 : Nat) : Rat × (Int × Int) := ((T__law_nonzero st314 ).1, (T__law_nonzero st314 ).2)
def SC_law_c1  (st314 : Int × Int) (b315 : Nat) : Prop := (SC__law_nonzero st314 )
def T_law_l1 (k309 : Nat) (b318 : (List Rat)) (p322 : ((List (List Rat)) × (List (List Rat)))) (row325 : (List Rat)) (b328 : Nat) (s331 : Unit) (b330 : Nat) : (Stp Unit Bool) := (Let (T__law_poly_times (Tv.nth p322.1 b328) (Tv.nth p322.1 b330)) fun product332 => (cond ((decide ((b328 + b330) < (((2 : Nat) * k309) + (1 : Nat)))) && (!eqDD (eD (T__law_told (1 : Nat) ((eT eQ) row325) ((eT eQ) product332))) (eQ (T__law_mean row325 product332)))) (.ret false) (cond ((decide ((b328 + b330) < ((2 : Nat) * k309))) && ((!decide (b328 = b330)) && (!decide ((T__law_mean row325 product332).num = (0 : Int))))) (.ret false) (cond ((decide (b328 = b330)) && ((decide (b328 < k309)) && (!Tv.eqb (T__law_mean row325 product332) (T__law_product_of (b318.take b328))))) (.ret false) (.go ())))))
def SC_law_l1 (k309 : Nat) (b318 : (List Rat)) (p322 : ((List (List Rat)) × (List (List Rat)))) (row325 : (List Rat)) (b328 : Nat) (s331 : Unit) (b330 : Nat) : Prop := (b328 < p322.1.length) ∧ (b330 < p322.1.length) ∧ (SC__law_poly_times (Tv.nth p322.1 b328) (Tv.nth p322.1 b330)) ∧ (Let (T__law_poly_times (Tv.nth p322.1 b328) (Tv.nth p322.1 b330)) fun product332 => ((decide ((b328 + b330) < (((2 : Nat) * k309) + (1 : Nat)))) = true → (SC__law_told (1 : Nat) ((eT eQ) row325) ((eT eQ) product332)) ∧ (SC__law_mean row325 product332) ∧ (EqOk (eD (T__law_told (1 : Nat) ((eT eQ) row325) ((eT eQ) product332))) (eQ (T__law_mean row325 product332)))) ∧ (((decide ((b328 + b330) < (((2 : Nat) * k309) + (1 : Nat)))) && (!eqDD (eD (T__law_told (1 : Nat) ((eT eQ) row325) ((eT eQ) product332))) (eQ (T__law_mean row325 product332)))) = false → ((decide ((b328 + b330) < ((2 : Nat) * k309))) = true → ((!decide (b328 = b330)) = true → (SC__law_mean row325 product332))) ∧ (((decide ((b328 + b330) < ((2 : Nat) * k309))) && ((!decide (b328 = b330)) && (!decide ((T__law_mean row325 product332).num = (0 : Int))))) = false → ((decide (b328 = b330)) = true → ((decide (b328 < k309)) = true → (SC__law_mean row325 product332) ∧ (SC__law_product_of (b318.take b328)))))))
def T_law_l2 (k309 : Nat) (b318 : (List Rat)) (p322 : ((List (List Rat)) × (List (List Rat)))) (row325 : (List Rat)) (s329 : Unit) (b328 : Nat) : (Stp Unit Bool) := (LetX (loopT (T_law_l1 k309 b318 p322 row325 b328) (List.range (k309 + (1 : Nat))) ()) (fun r => .ret r) fun s331 => (.go ()))
def SC_law_l2 (k309 : Nat) (b318 : (List Rat)) (p322 : ((List (List Rat)) × (List (List Rat)))) (row325 : (List Rat)) (s329 : Unit) (b328 : Nat) : Prop := ((k309 + (1 : Nat)) ≤ lim) ∧ (AllX (SC_law_l1 k309 b318 p322 row325 b328) (T_law_l1 k309 b318 p322 row325 b328) (List.range (k309 + (1 : Nat))) ())
def T_law_l3 (p322 : ((List (List Rat)) × (List (List Rat)))) (row325 : (List Rat)) (s350 : Unit) (b349 : Nat) : (Stp Unit Bool) := (cond (!(T__law_begins (Tv.nth p322.1 b349) (Tv.nth p322.2 b349) row325)) (.ret false) (.go ()))
def SC_law_l3 (p322 : ((List (List Rat)) × (List (List Rat)))) (row325 : (List Rat)) (s350 : Unit) (b349 : Nat) : Prop := (b349 < p322.1.length) ∧ (b349 < p322.2.length) ∧ (SC__law_begins (Tv.nth p322.1 b349) (Tv.nth p322.2 b349) row325)
def T_law_c2 (moments358 : (List Rat)) (b378 : Pv.D) : Pv.D := (T__law_told (1 : Nat) ((eT eQ) moments358) b378)
def SC_law_c2 (moments358 : (List Rat)) (b378 : Pv.D) : Prop := (SC__law_told (1 : Nat) ((eT eQ) moments358) b378)
def T_law (script_ : (List Int)) : Bool := (Let (stT script_) fun state307 => (Let (Tv.tkV state307 (7 : Nat)) fun k309 => (Let (Tv.tkS state307 (7 : Nat)) fun st311 => (Let ((T__law_row st311 k309).1) fun a317 => (Let ((Tv.drawS (T_law_c1) (List.range (((max (((k309 : Nat) : Int) - (1 : Int)) (0 : Int)) + (((Tv.tkV (T__law_row st311 k309).2 (2 : Nat)) : Nat) : Int))).toNat) (Tv.tkS (T__law_row st311 k309).2 (2 : Nat))).1) fun b318 => (Let ((Tv.drawS (T_law_c1) (List.range (((max (((k309 : Nat) : Int) - (1 : Int)) (0 : Int)) + (((Tv.tkV (T__law_row st311 k309).2 (2 : Nat)) : Nat) : Int))).toNat) (Tv.tkS (T__law_row st311 k309).2 (2 : Nat))).2) fun st320 => (Let (T__law_recursion a317 b318) fun p322 => (cond (!eqDD (eD (T__law_told (0 : Nat) ((eT eQ) a317) ((eT eQ) b318))) ((e2 (eT (eT eQ)) (eT (eT eQ))) (p322.1, p322.2))) false (Let (T__law_path_moments a317 b318 ((2 : Nat) * k309)) fun row325 => (cond (!eqDD (eD (T__law_plain ((eT eQ) (T_path_moments a317 b318 ((2 : Nat) * k309))))) ((eT eQ) row325)) false (LetX (loopT (T_law_l2 k309 b318 p322 row325) (List.range (k309 + (1 : Nat))) ()) (fun r => r) fun s329 => (LetX (loopT (T_law_l3 p322 row325) (Tv.rng (1 : Nat) (k309 + (1 : Nat))) ()) (fun r => r) fun s350 => (Let (T__law_trimmed_t ((T__law_row (Tv.tkS st320 (12 : Nat)) ((1 : Nat) + (Tv.tkV st320 (12 : Nat)))).1)) fun f354 => (Let ((T__law_row (Tv.tkS st320 (12 : Nat)) ((1 : Nat) + (Tv.tkV st320 (12 : Nat)))).2) fun st356 => (Let ((T__law_row st356 (12 : Nat)).1) fun moments358 => (Let ((T__law_row st356 (12 : Nat)).2) fun st360 => (cond ((!eqDD (eD (T__law_told (1 : Nat) ((eT eQ) moments358) ((eT eQ) f354))) (eQ (T__law_mean moments358 f354))) || (!eqDD (eD (T__law_told (1 : Nat) ((eT eQ) moments358) (D.tup []))) ((e2 eN eN) ((0 : Nat), (1 : Nat))))) false (cond ((decide ((1 : Nat) < f354.length)) && (!eqDD (eD (T__law_told (1 : Nat) ((eT eQ) (moments358.take (f354.length - (2 : Nat)))) ((eT eQ) f354))) (eS (PySem.Str.ofString "malformed")))) false (cond (!eqDD ((eL eD) [(T__law_told (0 : Nat) (eU ()) ((eT eQ) b318)), (T__law_told (0 : Nat) ((eT eQ) a317) (eU ())), (T__law_told (1 : Nat) (eU ()) ((eT eQ) f354))]) ((eL eS) (List.replicate (3 : Nat) ([(PySem.Str.ofString "malformed")])).flatten)) false (cond (!eqDD ((eL eD) [(T__law_told (0 : Nat) (eN (5 : Nat)) ((eT eQ) b318)), (T__law_told (0 : Nat) ((eT eQ) a317) (eN (5 : Nat))), (T__law_told (1 : Nat) (eN (5 : Nat)) ((eT eQ) f354))]) ((eL eS) (List.replicate (3 : Nat) ([(PySem.Str.ofString "malformed")])).flatten)) false (cond (!eqDD ((eL eD) [(T__law_told (0 : Nat) ((eL (e2 eN eN)) [((1 : Nat), (1 : Nat))]) ((eT eQ) b318)), (T__law_told (0 : Nat) ((eT eQ) a317) ((eL (e2 eN eN)) [((1 : Nat), (1 : Nat))])), (T__law_told (1 : Nat) ((eL (e2 eN eN)) [((1 : Nat), (1 : Nat))]) ((eT eQ) f354))]) ((eL eS) (List.replicate (3 : Nat) ([(PySem.Str.ofString "malformed")])).flatten)) false (cond (!eqDD ((eL eD) [(T__law_told (0 : Nat) ((eT (e2 eN eN)) [((2 : Nat), (4 : Nat))]) ((eT eQ) b318)), (T__law_told (0 : Nat) ((eT eQ) a317) ((eT (e2 eN eN)) [((2 : Nat), (4 : Nat))])), (T__law_told (1 : Nat) ((eT (e2 eN eN)) [((2 : Nat), (4 : Nat))]) ((eT eQ) f354))]) ((eL eS) (List.replicate (3 : Nat) ([(PySem.Str.ofString "malformed")])).flatten)) false (cond (!eqDD ((eL eD) [(T__law_told (0 : Nat) ((eT eN) [(1 : Nat)]) ((eT eQ) b318)), (T__law_told (0 : Nat) ((eT eQ) a317) ((eT eN) [(1 : Nat)])), (T__law_told (1 : Nat) ((eT eN) [(1 : Nat)]) ((eT eQ) f354))]) ((eL eS) (List.replicate (3 : Nat) ([(PySem.Str.ofString "malformed")])).flatten)) false (cond (!eqDD ((eL eD) [(T__law_told (0 : Nat) ((eT (e2 eN eN)) (List.replicate (13 : Nat) ([((1 : Nat), (1 : Nat))])).flatten) ((eT eQ) b318)), (T__law_told (0 : Nat) ((eT eQ) a317) ((eT (e2 eN eN)) (List.replicate (13 : Nat) ([((1 : Nat), (1 : Nat))])).flatten)), (T__law_told (1 : Nat) ((eT (e2 eN eN)) (List.replicate (13 : Nat) ([((1 : Nat), (1 : Nat))])).flatten) ((eT eQ) f354))]) ((eL eS) (List.replicate (3 : Nat) ([(PySem.Str.ofString "malformed")])).flatten)) false (cond ((decide ((1 : Nat) < k309)) && (!eqDD (eD (T__law_told (0 : Nat) ((eT eQ) a317) ((eT eQ) (b318.take (k309 - (2 : Nat)))))) (eS (PySem.Str.ofString "malformed")))) false (eqDD ((eL eD) (([(eU ()), (eN (5 : Nat)), ((eT (e2 eN eN)) [((0 : Nat), (1 : Nat))]), ((eT (e2 eN eN)) [((1 : Nat), (1 : Nat)), ((0 : Nat), (1 : Nat))]), ((eL (e2 eN eN)) [((1 : Nat), (1 : Nat))]), ((eT (e2 eN eN)) [((2 : Nat), (4 : Nat))])]).map (T_law_c2 moments358))) ((eL eS) (List.replicate (6 : Nat) ([(PySem.Str.ofString "malformed")])).flatten)))))))))))))))))))))))))))
def SC_law (script_ : (List Int)) : Prop := (Let (stT script_) fun state307 => (Let (Tv.tkV state307 (7 : Nat)) fun k309 => (Let (Tv.tkS state307 (7 : Nat)) fun st311 => (SC__law_row st311 k309) ∧ (((max (((k309 : Nat) : Int) - (1 : Int)) (0 : Int)) + (((Tv.tkV (T__law_row st311 k309).2 (2 : Nat)) : Nat) : Int)) ≤ 16000000 ∧ -16000000 ≤ ((max (((k309 : Nat) : Int) - (1 : Int)) (0 : Int)) + (((Tv.tkV (T__law_row st311 k309).2 (2 : Nat)) : Nat) : Int))) ∧ (Tv.AllS (SC_law_c1) (T_law_c1) (List.range (((max (((k309 : Nat) : Int) - (1 : Int)) (0 : Int)) + (((Tv.tkV (T__law_row st311 k309).2 (2 : Nat)) : Nat) : Int))).toNat) (Tv.tkS (T__law_row st311 k309).2 (2 : Nat))) ∧ ((List.range (((max (((k309 : Nat) : Int) - (1 : Int)) (0 : Int)) + (((Tv.tkV (T__law_row st311 k309).2 (2 : Nat)) : Nat) : Int))).toNat).length ≤ lim) ∧ ((Let ((T__law_row st311 k309).1) fun a317 => (Let ((Tv.drawS (T_law_c1) (List.range (((max (((k309 : Nat) : Int) - (1 : Int)) (0 : Int)) + (((Tv.tkV (T__law_row st311 k309).2 (2 : Nat)) : Nat) : Int))).toNat) (Tv.tkS (T__law_row st311 k309).2 (2 : Nat))).1) fun b318 => (Let ((Tv.drawS (T_law_c1) (List.range (((max (((k309 : Nat) : Int) - (1 : Int)) (0 : Int)) + (((Tv.tkV (T__law_row st311 k309).2 (2 : Nat)) : Nat) : Int))).toNat) (Tv.tkS (T__law_row st311 k309).2 (2 : Nat))).2) fun st320 => (SC__law_recursion a317 b318) ∧ (Let (T__law_recursion a317 b318) fun p322 => (SC__law_told (0 : Nat) ((eT eQ) a317) ((eT eQ) b318)) ∧ (EqOk (eD (T__law_told (0 : Nat) ((eT eQ) a317) ((eT eQ) b318))) ((e2 (eT (eT eQ)) (eT (eT eQ))) (p322.1, p322.2))) ∧ ((!eqDD (eD (T__law_told (0 : Nat) ((eT eQ) a317) ((eT eQ) b318))) ((e2 (eT (eT eQ)) (eT (eT eQ))) (p322.1, p322.2))) = false → (SC__law_path_moments a317 b318 ((2 : Nat) * k309)) ∧ (Let (T__law_path_moments a317 b318 ((2 : Nat) * k309)) fun row325 => (SC_path_moments a317 b318 ((2 : Nat) * k309)) ∧ (SC__law_plain ((eT eQ) (T_path_moments a317 b318 ((2 : Nat) * k309)))) ∧ (EqOk (eD (T__law_plain ((eT eQ) (T_path_moments a317 b318 ((2 : Nat) * k309))))) ((eT eQ) row325)) ∧ ((!eqDD (eD (T__law_plain ((eT eQ) (T_path_moments a317 b318 ((2 : Nat) * k309))))) ((eT eQ) row325)) = false → ((k309 + (1 : Nat)) ≤ lim) ∧ (AllX (SC_law_l2 k309 b318 p322 row325) (T_law_l2 k309 b318 p322 row325) (List.range (k309 + (1 : Nat))) ()) ∧ (LetP (loopT (T_law_l2 k309 b318 p322 row325) (List.range (k309 + (1 : Nat))) ()) fun s329 => ((1 : Nat) ≤ lim ∧ (k309 + (1 : Nat)) ≤ lim) ∧ (AllX (SC_law_l3 p322 row325) (T_law_l3 p322 row325) (Tv.rng (1 : Nat) (k309 + (1 : Nat))) ()) ∧ (LetP (loopT (T_law_l3 p322 row325) (Tv.rng (1 : Nat) (k309 + (1 : Nat))) ()) fun s350 => (SC__law_row (Tv.tkS st320 (12 : Nat)) ((1 : Nat) + (Tv.tkV st320 (12 : Nat)))) ∧ (SC__law_trimmed_t ((T__law_row (Tv.tkS st320 (12 : Nat)) ((1 : Nat) + (Tv.tkV st320 (12 : Nat)))).1)) ∧ (Let (T__law_trimmed_t ((T__law_row (Tv.tkS st320 (12 : Nat)) ((1 : Nat) + (Tv.tkV st320 (12 : Nat)))).1)) fun f354 => (Let ((T__law_row (Tv.tkS st320 (12 : Nat)) ((1 : Nat) + (Tv.tkV st320 (12 : Nat)))).2) fun st356 => (SC__law_row st356 (12 : Nat)) ∧ (Let ((T__law_row st356 (12 : Nat)).1) fun moments358 => (Let ((T__law_row st356 (12 : Nat)).2) fun st360 => (SC__law_told (1 : Nat) ((eT eQ) moments358) ((eT eQ) f354)) ∧ (SC__law_mean moments358 f354) ∧ (EqOk (eD (T__law_told (1 : Nat) ((eT eQ) moments358) ((eT eQ) f354))) (eQ (T__law_mean moments358 f354))) ∧ ((!eqDD (eD (T__law_told (1 : Nat) ((eT eQ) moments358) ((eT eQ) f354))) (eQ (T__law_mean moments358 f354))) = false → (SC__law_told (1 : Nat) ((eT eQ) moments358) (D.tup [])) ∧ (EqOk (eD (T__law_told (1 : Nat) ((eT eQ) moments358) (D.tup []))) ((e2 eN eN) ((0 : Nat), (1 : Nat))))) ∧ (((!eqDD (eD (T__law_told (1 : Nat) ((eT eQ) moments358) ((eT eQ) f354))) (eQ (T__law_mean moments358 f354))) || (!eqDD (eD (T__law_told (1 : Nat) ((eT eQ) moments358) (D.tup []))) ((e2 eN eN) ((0 : Nat), (1 : Nat))))) = false → ((decide ((1 : Nat) < f354.length)) = true → ((2 : Nat) ≤ f354.length) ∧ (SC__law_told (1 : Nat) ((eT eQ) (moments358.take (f354.length - (2 : Nat)))) ((eT eQ) f354)) ∧ (EqOk (eD (T__law_told (1 : Nat) ((eT eQ) (moments358.take (f354.length - (2 : Nat)))) ((eT eQ) f354))) (eS (PySem.Str.ofString "malformed")))) ∧ (((decide ((1 : Nat) < f354.length)) && (!eqDD (eD (T__law_told (1 : Nat) ((eT eQ) (moments358.take (f354.length - (2 : Nat)))) ((eT eQ) f354))) (eS (PySem.Str.ofString "malformed")))) = false → (([((1 : Nat), (1 : Nat))]).length * (13 : Nat) ≤ lim ∧ (13 : Nat) ≤ lim) ∧ (SC__law_told (0 : Nat) (eU ()) ((eT eQ) b318)) ∧ (SC__law_told (0 : Nat) ((eT eQ) a317) (eU ())) ∧ (SC__law_told (1 : Nat) (eU ()) ((eT eQ) f354)) ∧ (([(PySem.Str.ofString "malformed")]).length * (3 : Nat) ≤ lim ∧ (3 : Nat) ≤ lim) ∧ (EqOk ((eL eD) [(T__law_told (0 : Nat) (eU ()) ((eT eQ) b318)), (T__law_told (0 : Nat) ((eT eQ) a317) (eU ())), (T__law_told (1 : Nat) (eU ()) ((eT eQ) f354))]) ((eL eS) (List.replicate (3 : Nat) ([(PySem.Str.ofString "malformed")])).flatten)) ∧ ((!eqDD ((eL eD) [(T__law_told (0 : Nat) (eU ()) ((eT eQ) b318)), (T__law_told (0 : Nat) ((eT eQ) a317) (eU ())), (T__law_told (1 : Nat) (eU ()) ((eT eQ) f354))]) ((eL eS) (List.replicate (3 : Nat) ([(PySem.Str.ofString "malformed")])).flatten)) = false → (SC__law_told (0 : Nat) (eN (5 : Nat)) ((eT eQ) b318)) ∧ (SC__law_told (0 : Nat) ((eT eQ) a317) (eN (5 : Nat))) ∧ (SC__law_told (1 : Nat) (eN (5 : Nat)) ((eT eQ) f354)) ∧ (([(PySem.Str.ofString "malformed")]).length * (3 : Nat) ≤ lim ∧ (3 : Nat) ≤ lim) ∧ (EqOk ((eL eD) [(T__law_told (0 : Nat) (eN (5 : Nat)) ((eT eQ) b318)), (T__law_told (0 : Nat) ((eT eQ) a317) (eN (5 : Nat))), (T__law_told (1 : Nat) (eN (5 : Nat)) ((eT eQ) f354))]) ((eL eS) (List.replicate (3 : Nat) ([(PySem.Str.ofString "malformed")])).flatten)) ∧ ((!eqDD ((eL eD) [(T__law_told (0 : Nat) (eN (5 : Nat)) ((eT eQ) b318)), (T__law_told (0 : Nat) ((eT eQ) a317) (eN (5 : Nat))), (T__law_told (1 : Nat) (eN (5 : Nat)) ((eT eQ) f354))]) ((eL eS) (List.replicate (3 : Nat) ([(PySem.Str.ofString "malformed")])).flatten)) = false → (SC__law_told (0 : Nat) ((eL (e2 eN eN)) [((1 : Nat), (1 : Nat))]) ((eT eQ) b318)) ∧ (SC__law_told (0 : Nat) ((eT eQ) a317) ((eL (e2 eN eN)) [((1 : Nat), (1 : Nat))])) ∧ (SC__law_told (1 : Nat) ((eL (e2 eN eN)) [((1 : Nat), (1 : Nat))]) ((eT eQ) f354)) ∧ (([(PySem.Str.ofString "malformed")]).length * (3 : Nat) ≤ lim ∧ (3 : Nat) ≤ lim) ∧ (EqOk ((eL eD) [(T__law_told (0 : Nat) ((eL (e2 eN eN)) [((1 : Nat), (1 : Nat))]) ((eT eQ) b318)), (T__law_told (0 : Nat) ((eT eQ) a317) ((eL (e2 eN eN)) [((1 : Nat), (1 : Nat))])), (T__law_told (1 : Nat) ((eL (e2 eN eN)) [((1 : Nat), (1 : Nat))]) ((eT eQ) f354))]) ((eL eS) (List.replicate (3 : Nat) ([(PySem.Str.ofString "malformed")])).flatten)) ∧ ((!eqDD ((eL eD) [(T__law_told (0 : Nat) ((eL (e2 eN eN)) [((1 : Nat), (1 : Nat))]) ((eT eQ) b318)), (T__law_told (0 : Nat) ((eT eQ) a317) ((eL (e2 eN eN)) [((1 : Nat), (1 : Nat))])), (T__law_told (1 : Nat) ((eL (e2 eN eN)) [((1 : Nat), (1 : Nat))]) ((eT eQ) f354))]) ((eL eS) (List.replicate (3 : Nat) ([(PySem.Str.ofString "malformed")])).flatten)) = false → (SC__law_told (0 : Nat) ((eT (e2 eN eN)) [((2 : Nat), (4 : Nat))]) ((eT eQ) b318)) ∧ (SC__law_told (0 : Nat) ((eT eQ) a317) ((eT (e2 eN eN)) [((2 : Nat), (4 : Nat))])) ∧ (SC__law_told (1 : Nat) ((eT (e2 eN eN)) [((2 : Nat), (4 : Nat))]) ((eT eQ) f354)) ∧ (([(PySem.Str.ofString "malformed")]).length * (3 : Nat) ≤ lim ∧ (3 : Nat) ≤ lim) ∧ (EqOk ((eL eD) [(T__law_told (0 : Nat) ((eT (e2 eN eN)) [((2 : Nat), (4 : Nat))]) ((eT eQ) b318)), (T__law_told (0 : Nat) ((eT eQ) a317) ((eT (e2 eN eN)) [((2 : Nat), (4 : Nat))])), (T__law_told (1 : Nat) ((eT (e2 eN eN)) [((2 : Nat), (4 : Nat))]) ((eT eQ) f354))]) ((eL eS) (List.replicate (3 : Nat) ([(PySem.Str.ofString "malformed")])).flatten)) ∧ ((!eqDD ((eL eD) [(T__law_told (0 : Nat) ((eT (e2 eN eN)) [((2 : Nat), (4 : Nat))]) ((eT eQ) b318)), (T__law_told (0 : Nat) ((eT eQ) a317) ((eT (e2 eN eN)) [((2 : Nat), (4 : Nat))])), (T__law_told (1 : Nat) ((eT (e2 eN eN)) [((2 : Nat), (4 : Nat))]) ((eT eQ) f354))]) ((eL eS) (List.replicate (3 : Nat) ([(PySem.Str.ofString "malformed")])).flatten)) = false → (SC__law_told (0 : Nat) ((eT eN) [(1 : Nat)]) ((eT eQ) b318)) ∧ (SC__law_told (0 : Nat) ((eT eQ) a317) ((eT eN) [(1 : Nat)])) ∧ (SC__law_told (1 : Nat) ((eT eN) [(1 : Nat)]) ((eT eQ) f354)) ∧ (([(PySem.Str.ofString "malformed")]).length * (3 : Nat) ≤ lim ∧ (3 : Nat) ≤ lim) ∧ (EqOk ((eL eD) [(T__law_told (0 : Nat) ((eT eN) [(1 : Nat)]) ((eT eQ) b318)), (T__law_told (0 : Nat) ((eT eQ) a317) ((eT eN) [(1 : Nat)])), (T__law_told (1 : Nat) ((eT eN) [(1 : Nat)]) ((eT eQ) f354))]) ((eL eS) (List.replicate (3 : Nat) ([(PySem.Str.ofString "malformed")])).flatten)) ∧ ((!eqDD ((eL eD) [(T__law_told (0 : Nat) ((eT eN) [(1 : Nat)]) ((eT eQ) b318)), (T__law_told (0 : Nat) ((eT eQ) a317) ((eT eN) [(1 : Nat)])), (T__law_told (1 : Nat) ((eT eN) [(1 : Nat)]) ((eT eQ) f354))]) ((eL eS) (List.replicate (3 : Nat) ([(PySem.Str.ofString "malformed")])).flatten)) = false → (SC__law_told (0 : Nat) ((eT (e2 eN eN)) (List.replicate (13 : Nat) ([((1 : Nat), (1 : Nat))])).flatten) ((eT eQ) b318)) ∧ (SC__law_told (0 : Nat) ((eT eQ) a317) ((eT (e2 eN eN)) (List.replicate (13 : Nat) ([((1 : Nat), (1 : Nat))])).flatten)) ∧ (SC__law_told (1 : Nat) ((eT (e2 eN eN)) (List.replicate (13 : Nat) ([((1 : Nat), (1 : Nat))])).flatten) ((eT eQ) f354)) ∧ (([(PySem.Str.ofString "malformed")]).length * (3 : Nat) ≤ lim ∧ (3 : Nat) ≤ lim) ∧ (EqOk ((eL eD) [(T__law_told (0 : Nat) ((eT (e2 eN eN)) (List.replicate (13 : Nat) ([((1 : Nat), (1 : Nat))])).flatten) ((eT eQ) b318)), (T__law_told (0 : Nat) ((eT eQ) a317) ((eT (e2 eN eN)) (List.replicate (13 : Nat) ([((1 : Nat), (1 : Nat))])).flatten)), (T__law_told (1 : Nat) ((eT (e2 eN eN)) (List.replicate (13 : Nat) ([((1 : Nat), (1 : Nat))])).flatten) ((eT eQ) f354))]) ((eL eS) (List.replicate (3 : Nat) ([(PySem.Str.ofString "malformed")])).flatten)) ∧ ((!eqDD ((eL eD) [(T__law_told (0 : Nat) ((eT (e2 eN eN)) (List.replicate (13 : Nat) ([((1 : Nat), (1 : Nat))])).flatten) ((eT eQ) b318)), (T__law_told (0 : Nat) ((eT eQ) a317) ((eT (e2 eN eN)) (List.replicate (13 : Nat) ([((1 : Nat), (1 : Nat))])).flatten)), (T__law_told (1 : Nat) ((eT (e2 eN eN)) (List.replicate (13 : Nat) ([((1 : Nat), (1 : Nat))])).flatten) ((eT eQ) f354))]) ((eL eS) (List.replicate (3 : Nat) ([(PySem.Str.ofString "malformed")])).flatten)) = false → ((decide ((1 : Nat) < k309)) = true → ((2 : Nat) ≤ k309) ∧ (SC__law_told (0 : Nat) ((eT eQ) a317) ((eT eQ) (b318.take (k309 - (2 : Nat))))) ∧ (EqOk (eD (T__law_told (0 : Nat) ((eT eQ) a317) ((eT eQ) (b318.take (k309 - (2 : Nat)))))) (eS (PySem.Str.ofString "malformed")))) ∧ (((decide ((1 : Nat) < k309)) && (!eqDD (eD (T__law_told (0 : Nat) ((eT eQ) a317) ((eT eQ) (b318.take (k309 - (2 : Nat)))))) (eS (PySem.Str.ofString "malformed")))) = false → (∀ b ∈ [(eU ()), (eN (5 : Nat)), ((eT (e2 eN eN)) [((0 : Nat), (1 : Nat))]), ((eT (e2 eN eN)) [((1 : Nat), (1 : Nat)), ((0 : Nat), (1 : Nat))]), ((eL (e2 eN eN)) [((1 : Nat), (1 : Nat))]), ((eT (e2 eN eN)) [((2 : Nat), (4 : Nat))])], SC_law_c2 moments358 b) ∧ (([(eU ()), (eN (5 : Nat)), ((eT (e2 eN eN)) [((0 : Nat), (1 : Nat))]), ((eT (e2 eN eN)) [((1 : Nat), (1 : Nat)), ((0 : Nat), (1 : Nat))]), ((eL (e2 eN eN)) [((1 : Nat), (1 : Nat))]), ((eT (e2 eN eN)) [((2 : Nat), (4 : Nat))])]).length ≤ lim) ∧ (([(PySem.Str.ofString "malformed")]).length * (6 : Nat) ≤ lim ∧ (6 : Nat) ≤ lim) ∧ (EqOk ((eL eD) (([(eU ()), (eN (5 : Nat)), ((eT (e2 eN eN)) [((0 : Nat), (1 : Nat))]), ((eT (e2 eN eN)) [((1 : Nat), (1 : Nat)), ((0 : Nat), (1 : Nat))]), ((eL (e2 eN eN)) [((1 : Nat), (1 : Nat))]), ((eT (e2 eN eN)) [((2 : Nat), (4 : Nat))])]).map (T_law_c2 moments358))) ((eL eS) (List.replicate (6 : Nat) ([(PySem.Str.ofString "malformed")])).flatten))))))))))))))))))))))))))))
theorem t_law (script_ : (List Int)) (h : SC_law script_) : F_law none [D.scr script_] = .ok (eB (T_law script_), 0) none :=
  jf_of (E := fun x => (eB x, 0)) (v := T_law script_) (show JK _ ([.ex (D.scr script_) 0, .un, .un, .un, .un, .un, .un, .un, .un, .un, .un, .un, .un, .un] : Gm) g_law _ from (jk_set eSt (j_call (ja_cons (j_nm rfl) ja_nil) rfl (st_ok script_)) rfl h fun state307 h308 => (jk_set eN (j_callI rfl (ja_cons j_int ja_nil) rfl rfl (take_ok _ (by decide) (by decide))) rfl h308 fun k309 h310 => (jk_abs (G := (fun (st311 : (Int × Int)) => ([.ex (D.scr script_) 0, .ex (eSt st311) 1, .ex (eN k309) 0, .un, .un, .un, .un, .un, .un, .un, .un, .un, .un, .un] : Gm))) h310 (.cons .same (.cons .same (.cons .same (.cons .same (.cons .same (.cons .same (.cons .same (.cons .same (.cons .same (.cons .same (.cons .same (.cons .same (.cons .same (.cons .same .nil)))))))))))))) fun st311 h312 => (jk_par (eT eQ) (eT eQ) (jl_cons (j_callI rfl (ja_cons (j_nm rfl) ja_nil) rfl rfl (t__law_row st311 k309 h312.1)) (jl_cons (j_op1 (jo_v (j_v (j_compS (s0 := (Tv.tkS (T__law_row st311 k309).2 (2 : Nat))) (S := SC_law_c1) eN eQ (T_law_c1) (fun st314 => ([.ex (D.scr script_) 0, .ex (eSt st314) 1, .ex (eN k309) 0, .un, .un, .un, .un, .un, .un, .un, .un, .un, .un, .un] : Gm)) (ji_rg1 (ja_cons (j_v (j_op2 (jo_v (j_v (j_op2 (jo_v (j_v (j_op2 (jo_nm rfl) (jo_v j_int) hq0 hq0 (g_subI ((k309 : Nat) : Int) (1 : Int))))) (jo_v j_int) hq0 hq0 (g_max2I (((k309 : Nat) : Int) - (1 : Int)) (0 : Int))))) (jo_v (j_v (j_callI rfl (ja_cons j_int ja_nil) rfl rfl (take_ok _ (by decide) (by decide))))) hq0 hq0 (g_addI (max (((k309 : Nat) : Int) - (1 : Int)) (0 : Int)) (((Tv.tkV (T__law_row st311 k309).2 (2 : Nat)) : Nat) : Int)))) ja_nil) (i_rgI h312.2.1)) (.cons .same (.cons .same (.cons .same (.cons .same (.cons .same (.cons .same (.cons .same (.cons .same (.cons .same (.cons .same (.cons .same (.cons .same (.cons .same (.cons .same .nil)))))))))))))) h312.2.2.2.1 h312.2.2.1 (fun st314 b315 => (jg_name rfl)) (fun st314 b315 h316 => (j_e (j_v (j_callI rfl ja_nil rfl rfl (t__law_nonzero st314  h316))))) (fun st314 b315 => (.cons .same (.cons .same (.cons .same (.cons .same (.cons .same (.cons .same (.cons .same (.cons .same (.cons .same (.cons .same (.cons .same (.cons .same (.cons .same (.cons .same .nil)))))))))))))))))) hq0 (g_tupL _ (Tv.drawS (T_law_c1) (List.range (((max (((k309 : Nat) : Int) - (1 : Int)) (0 : Int)) + (((Tv.tkV (T__law_row st311 k309).2 (2 : Nat)) : Nat) : Int))).toNat) (Tv.tkS (T__law_row st311 k309).2 (2 : Nat))).1)) jl_nil)) rfl rfl h312.2.2.2.2 fun a317 b318 h319 => (jk_abs (G := (fun (st320 : (Int × Int)) => ([.ex (D.scr script_) 0, .ex (eSt st320) 1, .ex (eN k309) 0, .un, .un, .un, .un, .un, .ex ((eT eQ) a317) 0, .ex ((eT eQ) b318) 0, .un, .un, .un, .un] : Gm))) h319 (.cons .same (.cons .same (.cons .same (.cons .same (.cons .same (.cons .same (.cons .same (.cons .same (.cons .same (.cons .same (.cons .same (.cons .same (.cons .same (.cons .same .nil)))))))))))))) fun st320 h321 => (jk_asg (e2 (eT (eT eQ)) (eT (eT eQ))) (j_v (j_call (ja_cons (j_nm rfl) (ja_cons (j_nm rfl) ja_nil)) rfl (t__law_recursion a317 b318 h321.1))) h321.2 (fun p322 => (jg_tup rfl (jg_cons (jg_name rfl) (jg_cons (jg_name rfl) jg_nil)))) fun p322 h323 => (jk_if (jt_tst (j_op2 (jo_v (j_v (j_call (ja_cons j_int (ja_cons (j_nm rfl) (ja_cons (j_nm rfl) ja_nil))) rfl (t__law_told (0 : Nat) ((eT eQ) a317) ((eT eQ) b318) h323.1)))) (jo_v (j_tup (ja_cons (j_nm rfl) (ja_cons (j_nm rfl) ja_nil)) rfl)) hq0 hq0 (g_neDD h323.2.1))) (fun hb324 => (jk_ret (j_e j_bl))) (fun hb324 => (jk_pass (jk_set (eT eQ) (j_call (ja_cons (j_nm rfl) (ja_cons (j_nm rfl) (ja_cons (j_v (j_op2 (jo_v j_int) (jo_nm rfl) hq0 hq0 (g_mulN (a := (2 : Nat)) (b := k309) (mulOk_lN (a := 2) (by decide))))) ja_nil))) rfl (t__law_path_moments a317 b318 ((2 : Nat) * k309) (h323.2.2 hb324).1)) rfl (h323.2.2 hb324).2 fun row325 h326 => (jk_if (jt_tst (j_op2 (jo_v (j_v (j_call (ja_cons (j_v (j_call (ja_cons (j_nm rfl) (ja_cons (j_nm rfl) (ja_cons (j_v (j_op2 (jo_v j_int) (jo_nm rfl) hq0 hq0 (g_mulN (a := (2 : Nat)) (b := k309) (mulOk_lN (a := 2) (by decide))))) ja_nil))) rfl (t_path_moments a317 b318 ((2 : Nat) * k309) h326.1))) ja_nil) rfl (t__law_plain ((eT eQ) (T_path_moments a317 b318 ((2 : Nat) * k309))) h326.2.1)))) (jo_nm rfl) hq0 hq0 (g_neDD h326.2.2.1))) (fun hb327 => (jk_ret (j_e j_bl))) (fun hb327 => (jk_pass (jk_forX (step := T_law_l2 k309 b318 p322 row325) (s0 := ()) (SB := SC_law_l2 k309 b318 p322 row325) (fun (s329 : Unit) => ([.ex (D.scr script_) 0, .ex (eSt st320) 1, .ex (eN k309) 0, .ex ((eT eQ) row325) 0, .un, .un, .un, .un, .ex ((eT eQ) a317) 0, .ex ((eT eQ) b318) 0, .ex ((eT (eT eQ)) p322.1) 0, .ex ((eT (eT eQ)) p322.2) 0, .un, .un] : Gm)) eN (fun x => (eB x, 0)) pf_ret (ji_rg1 (ja_cons (j_v (j_op2 (jo_nm rfl) (jo_v j_int) hq0 hq0 (g_addN k309 (1 : Nat)))) ja_nil) (i_rgN (h326.2.2.2 hb327).1)) (.cons .same (.cons .same (.cons .same (.cons .same (.cons .same (.cons .same (.cons .same (.cons .same (.cons .same (.cons .same (.cons .same (.cons .same (.cons .same (.cons .same .nil)))))))))))))) (h326.2.2.2 hb327).2.1 (fun s329 b328 => (jg_name rfl)) (fun s329 b328 h347 => (jx_weak (jk_last (jk_forX (S := fun _ => True) (step := T_law_l1 k309 b318 p322 row325 b328) (s0 := ()) (SB := SC_law_l1 k309 b318 p322 row325 b328) (fun (s331 : Unit) => ([.ex (D.scr script_) 0, .ex (eSt st320) 1, .ex (eN k309) 0, .ex ((eT eQ) row325) 0, .ex (eN b328) 0, .un, .un, .un, .ex ((eT eQ) a317) 0, .ex ((eT eQ) b318) 0, .ex ((eT (eT eQ)) p322.1) 0, .ex ((eT (eT eQ)) p322.2) 0, .un, .un] : Gm)) eN (fun x => (eB x, 0)) pxs_ret (ji_rg1 (ja_cons (j_v (j_op2 (jo_nm rfl) (jo_v j_int) hq0 hq0 (g_addN k309 (1 : Nat)))) ja_nil) (i_rgN h347.1)) (.cons .same (.cons .same (.cons .same (.cons .same (.cons .same (.cons .same (.cons .same (.cons .same (.cons .same (.cons .same (.cons .same (.cons .same (.cons .same (.cons .same .nil)))))))))))))) h347.2 (fun s331 b330 => (jg_name rfl)) (fun s331 b330 h345 => (jx_weak (jk_set (eT eQ) (j_call (ja_cons (j_v (j_op2 (jo_nm rfl) (jo_nm rfl) hq0 hq0 (g_idxT (f := (eT eQ)) h345.1))) (ja_cons (j_v (j_op2 (jo_nm rfl) (jo_nm rfl) hq0 hq0 (g_idxT (f := (eT eQ)) h345.2.1))) ja_nil)) rfl (t__law_poly_times (Tv.nth p322.1 b328) (Tv.nth p322.1 b330) h345.2.2.1)) rfl h345.2.2.2 fun product332 h333 => (jk_if (jt_and (jt_tst (j_op2 (jo_v (j_v (j_op2 (jo_nm rfl) (jo_nm rfl) hq0 hq0 (g_addN b328 b330)))) (jo_v (j_v (j_op2 (jo_v (j_v (j_op2 (jo_v j_int) (jo_nm rfl) hq0 hq0 (g_mulN (a := (2 : Nat)) (b := k309) (mulOk_lN (a := 2) (by decide)))))) (jo_v j_int) hq0 hq0 (g_addN ((2 : Nat) * k309) (1 : Nat))))) hq0 hq0 (g_ltN (b328 + b330) (((2 : Nat) * k309) + (1 : Nat))))) fun hb334 => (jt_tst (j_op2 (jo_v (j_v (j_call (ja_cons j_int (ja_cons (j_nm rfl) (ja_cons (j_nm rfl) ja_nil))) rfl (t__law_told (1 : Nat) ((eT eQ) row325) ((eT eQ) product332) (h333.1 hb334).1)))) (jo_v (j_v (j_call (ja_cons (j_nm rfl) (ja_cons (j_nm rfl) ja_nil)) rfl (t__law_mean row325 product332 (h333.1 hb334).2.1)))) hq0 hq0 (g_neDD (h333.1 hb334).2.2)))) (fun hb336 => (jxs_ret (j_e j_bl))) (fun hb336 => (jk_pass (jk_if (jt_and (jt_tst (j_op2 (jo_v (j_v (j_op2 (jo_nm rfl) (jo_nm rfl) hq0 hq0 (g_addN b328 b330)))) (jo_v (j_v (j_op2 (jo_v j_int) (jo_nm rfl) hq0 hq0 (g_mulN (a := (2 : Nat)) (b := k309) (mulOk_lN (a := 2) (by decide)))))) hq0 hq0 (g_ltN (b328 + b330) ((2 : Nat) * k309)))) fun hb337 => (jt_and (jt_tst (j_op2 (jo_nm rfl) (jo_nm rfl) hq0 hq0 (g_neN b328 b330))) fun hb338 => (jt_tst (j_op2 (jo_v (j_v (j_op2 (jo_v (j_v (j_call (ja_cons (j_nm rfl) (ja_cons (j_nm rfl) ja_nil)) rfl (t__law_mean row325 product332 (((h333.2 hb336).1 hb337) hb338))))) (jo_v j_int) hq0 hq0 g_p0))) (jo_v j_int) hq0 hq0 (g_neI (T__law_mean row325 product332).num (0 : Int)))))) (fun hb340 => (jxs_ret (j_e j_bl))) (fun hb340 => (jk_pass (jk_last (jk_if (jt_and (jt_tst (j_op2 (jo_nm rfl) (jo_nm rfl) hq0 hq0 (g_eqN b328 b330))) fun hb341 => (jt_and (jt_tst (j_op2 (jo_nm rfl) (jo_nm rfl) hq0 hq0 (g_ltN b328 k309))) fun hb342 => (jt_tst (j_op2 (jo_v (j_v (j_call (ja_cons (j_nm rfl) (ja_cons (j_nm rfl) ja_nil)) rfl (t__law_mean row325 product332 ((((h333.2 hb336).2 hb340) hb341) hb342).1)))) (jo_v (j_v (j_call (ja_cons (j_v (j_slice (jo_nm rfl) jp_none (jp_some (j_nm rfl)) hq0 (g_takeT _ b318 b328))) ja_nil) rfl (t__law_product_of (b318.take b328) ((((h333.2 hb336).2 hb340) hb341) hb342).2)))) hq0 hq0 (g_ne pl_Q rfl (T__law_mean row325 product332) (T__law_product_of (b318.take b328))))))) (fun hb344 => (jxs_ret (j_e j_bl))) (fun hb344 => (jk_pass (jxs_go (.cons .same (.cons .same (.cons .same (.cons .same (.cons .same (.cons .same (.cons .same (.cons .same (.cons .same (.cons .same (.cons .same (.cons .same (.cons .un (.cons .un .nil)))))))))))))))))))))))))))) (by unfold LetP; split <;> trivial) fun s331 _ => (jxs_go (.cons .same (.cons .same (.cons .same (.cons .same (.cons .un (.cons .same (.cons .same (.cons .same (.cons .same (.cons .same (.cons .same (.cons .same (.cons .same (.cons .same .nil))))))))))))))))))) (h326.2.2.2 hb327).2.2 fun s329 h348 => (jk_forX (step := T_law_l3 p322 row325) (s0 := ()) (SB := SC_law_l3 p322 row325) (fun (s350 : Unit) => ([.ex (D.scr script_) 0, .ex (eSt st320) 1, .ex (eN k309) 0, .ex ((eT eQ) row325) 0, .un, .un, .un, .un, .ex ((eT eQ) a317) 0, .ex ((eT eQ) b318) 0, .ex ((eT (eT eQ)) p322.1) 0, .ex ((eT (eT eQ)) p322.2) 0, .un, .un] : Gm)) eN (fun x => (eB x, 0)) pf_ret (ji_rg2 (ja_cons j_int (ja_cons (j_v (j_op2 (jo_nm rfl) (jo_v j_int) hq0 hq0 (g_addN k309 (1 : Nat)))) ja_nil)) (i_rg2N h348.1)) (.cons .same (.cons .same (.cons .same (.cons .same (.cons .same (.cons .same (.cons .same (.cons .same (.cons .same (.cons .same (.cons .same (.cons .same (.cons .same (.cons .same .nil)))))))))))))) h348.2.1 (fun s350 b349 => (jg_name rfl)) (fun s350 b349 h352 => (jx_weak (jk_last (jk_if (jt_not (jt_tru (jo_v (j_v (j_call (ja_cons (j_v (j_op2 (jo_nm rfl) (jo_nm rfl) hq0 hq0 (g_idxT (f := (eT eQ)) h352.1))) (ja_cons (j_v (j_op2 (jo_nm rfl) (jo_nm rfl) hq0 hq0 (g_idxT (f := (eT eQ)) h352.2.1))) (ja_cons (j_nm rfl) ja_nil))) rfl (t__law_begins (Tv.nth p322.1 b349) (Tv.nth p322.2 b349) row325 h352.2.2)))) hq0 (tr_B (T__law_begins (Tv.nth p322.1 b349) (Tv.nth p322.2 b349) row325)))) (fun hb351 => (jxs_ret (j_e j_bl))) (fun hb351 => (jk_pass (jxs_go (.cons .same (.cons .same (.cons .same (.cons .same (.cons .un (.cons .same (.cons .same (.cons .same (.cons .same (.cons .same (.cons .same (.cons .same (.cons .same (.cons .same .nil))))))))))))))))))))) h348.2.2 fun s350 h353 => (jk_set (eT eQ) (j_call (ja_cons (j_v (j_callI' rfl (ja_cons (j_v (j_op2 (jo_v j_int) (jo_v (j_v (j_callI rfl (ja_cons j_int ja_nil) rfl rfl (take_ok _ (by decide) (by decide))))) hq0 hq0 (g_addN (1 : Nat) (Tv.tkV st320 (12 : Nat))))) ja_nil) rfl rfl (t__law_row (Tv.tkS st320 (12 : Nat)) ((1 : Nat) + (Tv.tkV st320 (12 : Nat))) h353.1))) ja_nil) rfl (t__law_trimmed_t ((T__law_row (Tv.tkS st320 (12 : Nat)) ((1 : Nat) + (Tv.tkV st320 (12 : Nat)))).1) h353.2.1)) rfl h353.2.2 fun f354 h355 => (jk_abs (G := (fun (st356 : (Int × Int)) => ([.ex (D.scr script_) 0, .ex (eSt st356) 1, .ex (eN k309) 0, .ex ((eT eQ) row325) 0, .un, .ex ((eT eQ) f354) 0, .un, .un, .ex ((eT eQ) a317) 0, .ex ((eT eQ) b318) 0, .ex ((eT (eT eQ)) p322.1) 0, .ex ((eT (eT eQ)) p322.2) 0, .un, .un] : Gm))) h355 (.cons .same (.cons .same (.cons .same (.cons .same (.cons .same (.cons .same (.cons .same (.cons .same (.cons .same (.cons .same (.cons .same (.cons .same (.cons .same (.cons .same .nil)))))))))))))) fun st356 h357 => (jk_set (eT eQ) (j_callI rfl (ja_cons j_int ja_nil) rfl rfl (t__law_row st356 (12 : Nat) h357.1)) rfl h357.2 fun moments358 h359 => (jk_abs (G := (fun (st360 : (Int × Int)) => ([.ex (D.scr script_) 0, .ex (eSt st360) 1, .ex (eN k309) 0, .ex ((eT eQ) row325) 0, .un, .ex ((eT eQ) f354) 0, .ex ((eT eQ) moments358) 0, .un, .ex ((eT eQ) a317) 0, .ex ((eT eQ) b318) 0, .ex ((eT (eT eQ)) p322.1) 0, .ex ((eT (eT eQ)) p322.2) 0, .un, .un] : Gm))) h359 (.cons .same (.cons .same (.cons .same (.cons .same (.cons .same (.cons .same (.cons .same (.cons .same (.cons .same (.cons .same (.cons .same (.cons .same (.cons .same (.cons .same .nil)))))))))))))) fun st360 h361 => (jk_if (jt_or (jt_tst (j_op2 (jo_v (j_v (j_call (ja_cons j_int (ja_cons (j_nm rfl) (ja_cons (j_nm rfl) ja_nil))) rfl (t__law_told (1 : Nat) ((eT eQ) moments358) ((eT eQ) f354) h361.1)))) (jo_v (j_v (j_call (ja_cons (j_nm rfl) (ja_cons (j_nm rfl) ja_nil)) rfl (t__law_mean moments358 f354 h361.2.1)))) hq0 hq0 (g_neDD h361.2.2.1))) fun hb362 => (jt_tst (j_op2 (jo_v (j_v (j_call (ja_cons j_int (ja_cons (j_nm rfl) (ja_cons (j_tup ja_nil rfl) ja_nil))) rfl (t__law_told (1 : Nat) ((eT eQ) moments358) (D.tup []) (h361.2.2.2.1 hb362).1)))) (jo_v (j_tup (ja_cons j_int (ja_cons j_int ja_nil)) rfl)) hq0 hq0 (g_neDD (h361.2.2.2.1 hb362).2)))) (fun hb364 => (jk_ret (j_e j_bl))) (fun hb364 => (jk_pass (jk_if (jt_and (jt_tst (j_op2 (jo_v (j_v (j_op1 (jo_nm rfl) hq0 (g_lenT _ f354)))) (jo_v j_int) hq0 hq0 (g_gtN f354.length (1 : Nat)))) fun hb365 => (jt_tst (j_op2 (jo_v (j_v (j_call (ja_cons j_int (ja_cons (j_v (j_slice (jo_nm rfl) jp_none (jp_some (j_v (j_op2 (jo_v (j_v (j_op1 (jo_nm rfl) hq0 (g_lenT _ f354)))) (jo_v j_int) hq0 hq0 (g_subN ((h361.2.2.2.2 hb364).1 hb365).1)))) hq0 (g_takeT _ moments358 (f354.length - (2 : Nat))))) (ja_cons (j_nm rfl) ja_nil))) rfl (t__law_told (1 : Nat) ((eT eQ) (moments358.take (f354.length - (2 : Nat)))) ((eT eQ) f354) ((h361.2.2.2.2 hb364).1 hb365).2.1)))) (jo_v j_str) hq0 hq0 (g_neDD ((h361.2.2.2.2 hb364).1 hb365).2.2)))) (fun hb367 => (jk_ret (j_e j_bl))) (fun hb367 => (jk_pass (jk_forU (ds := [(eU ()), (eN (5 : Nat)), ((eL (e2 eN eN)) [((1 : Nat), (1 : Nat))]), ((eT (e2 eN eN)) [((2 : Nat), (4 : Nat))]), ((eT eN) [(1 : Nat)]), ((eT (e2 eN eN)) (List.replicate (13 : Nat) ([((1 : Nat), (1 : Nat))])).flatten)]) (ji_seq (j_v (j_lst (ja_cons j_non (ja_cons j_int (ja_cons (j_v (j_lst (ja_cons (j_tup (ja_cons j_int (ja_cons j_int ja_nil)) rfl) ja_nil) rfl)) (ja_cons (j_tup (ja_cons (j_tup (ja_cons j_int (ja_cons j_int ja_nil)) rfl) ja_nil) rfl) (ja_cons (j_tup (ja_cons j_int ja_nil) rfl) (ja_cons (j_v (j_op2 (jo_v (j_tup (ja_cons (j_tup (ja_cons j_int (ja_cons j_int ja_nil)) rfl) ja_nil) rfl)) (jo_v j_int) hq0 hq0 (g_repT (f := (e2 eN eN)) ((h361.2.2.2.2 hb364).2 hb367).1))) ja_nil)))))) rfl)) rfl) (jk_uCons pf_nbc (jg_name rfl) (jk_if (jt_tst (j_op2 (jo_v (j_v (j_lst (ja_cons (j_v (j_call (ja_cons j_int (ja_cons (j_nm rfl) (ja_cons (j_nm rfl) ja_nil))) rfl (t__law_told (0 : Nat) (eU ()) ((eT eQ) b318) ((h361.2.2.2.2 hb364).2 hb367).2.1))) (ja_cons (j_v (j_call (ja_cons j_int (ja_cons (j_nm rfl) (ja_cons (j_nm rfl) ja_nil))) rfl (t__law_told (0 : Nat) ((eT eQ) a317) (eU ()) ((h361.2.2.2.2 hb364).2 hb367).2.2.1))) (ja_cons (j_v (j_call (ja_cons j_int (ja_cons (j_nm rfl) (ja_cons (j_nm rfl) ja_nil))) rfl (t__law_told (1 : Nat) (eU ()) ((eT eQ) f354) ((h361.2.2.2.2 hb364).2 hb367).2.2.2.1))) ja_nil))) rfl))) (jo_v (j_v (j_op2 (jo_v (j_v (j_lst (ja_cons j_str ja_nil) rfl))) (jo_v j_int) hq0 hq0 (g_mulL (f := eS) ((h361.2.2.2.2 hb364).2 hb367).2.2.2.2.1)))) hq0 hq0 (g_neDD ((h361.2.2.2.2 hb364).2 hb367).2.2.2.2.2.1))) (fun hb368 => (jk_ret (j_e j_bl))) (fun hb368 => (jk_pass (jk_norm ([.ex (D.scr script_) 0, .ex (eSt st360) 1, .ex (eN k309) 0, .ex ((eT eQ) row325) 0, .un, .ex ((eT eQ) f354) 0, .ex ((eT eQ) moments358) 0, .ex (eU ()) 0, .ex ((eT eQ) a317) 0, .ex ((eT eQ) b318) 0, .ex ((eT (eT eQ)) p322.1) 0, .ex ((eT (eT eQ)) p322.2) 0, .un, .un] : Gm) (.cons .same (.cons .same (.cons .same (.cons .same (.cons .same (.cons .same (.cons .same (.cons .same (.cons .same (.cons .same (.cons .same (.cons .same (.cons .same (.cons .same .nil)))))))))))))) (jk_uCons pf_nbc (jg_name rfl) (jk_if (jt_tst (j_op2 (jo_v (j_v (j_lst (ja_cons (j_v (j_call (ja_cons j_int (ja_cons (j_nm rfl) (ja_cons (j_nm rfl) ja_nil))) rfl (t__law_told (0 : Nat) (eN (5 : Nat)) ((eT eQ) b318) (((h361.2.2.2.2 hb364).2 hb367).2.2.2.2.2.2 hb368).1))) (ja_cons (j_v (j_call (ja_cons j_int (ja_cons (j_nm rfl) (ja_cons (j_nm rfl) ja_nil))) rfl (t__law_told (0 : Nat) ((eT eQ) a317) (eN (5 : Nat)) (((h361.2.2.2.2 hb364).2 hb367).2.2.2.2.2.2 hb368).2.1))) (ja_cons (j_v (j_call (ja_cons j_int (ja_cons (j_nm rfl) (ja_cons (j_nm rfl) ja_nil))) rfl (t__law_told (1 : Nat) (eN (5 : Nat)) ((eT eQ) f354) (((h361.2.2.2.2 hb364).2 hb367).2.2.2.2.2.2 hb368).2.2.1))) ja_nil))) rfl))) (jo_v (j_v (j_op2 (jo_v (j_v (j_lst (ja_cons j_str ja_nil) rfl))) (jo_v j_int) hq0 hq0 (g_mulL (f := eS) (((h361.2.2.2.2 hb364).2 hb367).2.2.2.2.2.2 hb368).2.2.2.1)))) hq0 hq0 (g_neDD (((h361.2.2.2.2 hb364).2 hb367).2.2.2.2.2.2 hb368).2.2.2.2.1))) (fun hb369 => (jk_ret (j_e j_bl))) (fun hb369 => (jk_pass (jk_norm ([.ex (D.scr script_) 0, .ex (eSt st360) 1, .ex (eN k309) 0, .ex ((eT eQ) row325) 0, .un, .ex ((eT eQ) f354) 0, .ex ((eT eQ) moments358) 0, .ex (eN (5 : Nat)) 0, .ex ((eT eQ) a317) 0, .ex ((eT eQ) b318) 0, .ex ((eT (eT eQ)) p322.1) 0, .ex ((eT (eT eQ)) p322.2) 0, .un, .un] : Gm) (.cons .same (.cons .same (.cons .same (.cons .same (.cons .same (.cons .same (.cons .same (.cons .same (.cons .same (.cons .same (.cons .same (.cons .same (.cons .same (.cons .same .nil)))))))))))))) (jk_uCons pf_nbc (jg_name rfl) (jk_if (jt_tst (j_op2 (jo_v (j_v (j_lst (ja_cons (j_v (j_call (ja_cons j_int (ja_cons (j_nm rfl) (ja_cons (j_nm rfl) ja_nil))) rfl (t__law_told (0 : Nat) ((eL (e2 eN eN)) [((1 : Nat), (1 : Nat))]) ((eT eQ) b318) ((((h361.2.2.2.2 hb364).2 hb367).2.2.2.2.2.2 hb368).2.2.2.2.2 hb369).1))) (ja_cons (j_v (j_call (ja_cons j_int (ja_cons (j_nm rfl) (ja_cons (j_nm rfl) ja_nil))) rfl (t__law_told (0 : Nat) ((eT eQ) a317) ((eL (e2 eN eN)) [((1 : Nat), (1 : Nat))]) ((((h361.2.2.2.2 hb364).2 hb367).2.2.2.2.2.2 hb368).2.2.2.2.2 hb369).2.1))) (ja_cons (j_v (j_call (ja_cons j_int (ja_cons (j_nm rfl) (ja_cons (j_nm rfl) ja_nil))) rfl (t__law_told (1 : Nat) ((eL (e2 eN eN)) [((1 : Nat), (1 : Nat))]) ((eT eQ) f354) ((((h361.2.2.2.2 hb364).2 hb367).2.2.2.2.2.2 hb368).2.2.2.2.2 hb369).2.2.1))) ja_nil))) rfl))) (jo_v (j_v (j_op2 (jo_v (j_v (j_lst (ja_cons j_str ja_nil) rfl))) (jo_v j_int) hq0 hq0 (g_mulL (f := eS) ((((h361.2.2.2.2 hb364).2 hb367).2.2.2.2.2.2 hb368).2.2.2.2.2 hb369).2.2.2.1)))) hq0 hq0 (g_neDD ((((h361.2.2.2.2 hb364).2 hb367).2.2.2.2.2.2 hb368).2.2.2.2.2 hb369).2.2.2.2.1))) (fun hb370 => (jk_ret (j_e j_bl))) (fun hb370 => (jk_pass (jk_norm ([.ex (D.scr script_) 0, .ex (eSt st360) 1, .ex (eN k309) 0, .ex ((eT eQ) row325) 0, .un, .ex ((eT eQ) f354) 0, .ex ((eT eQ) moments358) 0, .ex ((eL (e2 eN eN)) [((1 : Nat), (1 : Nat))]) 0, .ex ((eT eQ) a317) 0, .ex ((eT eQ) b318) 0, .ex ((eT (eT eQ)) p322.1) 0, .ex ((eT (eT eQ)) p322.2) 0, .un, .un] : Gm) (.cons .same (.cons .same (.cons .same (.cons .same (.cons .same (.cons .same (.cons .same (.cons .same (.cons .same (.cons .same (.cons .same (.cons .same (.cons .same (.cons .same .nil)))))))))))))) (jk_uCons pf_nbc (jg_name rfl) (jk_if (jt_tst (j_op2 (jo_v (j_v (j_lst (ja_cons (j_v (j_call (ja_cons j_int (ja_cons (j_nm rfl) (ja_cons (j_nm rfl) ja_nil))) rfl (t__law_told (0 : Nat) ((eT (e2 eN eN)) [((2 : Nat), (4 : Nat))]) ((eT eQ) b318) (((((h361.2.2.2.2 hb364).2 hb367).2.2.2.2.2.2 hb368).2.2.2.2.2 hb369).2.2.2.2.2 hb370).1))) (ja_cons (j_v (j_call (ja_cons j_int (ja_cons (j_nm rfl) (ja_cons (j_nm rfl) ja_nil))) rfl (t__law_told (0 : Nat) ((eT eQ) a317) ((eT (e2 eN eN)) [((2 : Nat), (4 : Nat))]) (((((h361.2.2.2.2 hb364).2 hb367).2.2.2.2.2.2 hb368).2.2.2.2.2 hb369).2.2.2.2.2 hb370).2.1))) (ja_cons (j_v (j_call (ja_cons j_int (ja_cons (j_nm rfl) (ja_cons (j_nm rfl) ja_nil))) rfl (t__law_told (1 : Nat) ((eT (e2 eN eN)) [((2 : Nat), (4 : Nat))]) ((eT eQ) f354) (((((h361.2.2.2.2 hb364).2 hb367).2.2.2.2.2.2 hb368).2.2.2.2.2 hb369).2.2.2.2.2 hb370).2.2.1))) ja_nil))) rfl))) (jo_v (j_v (j_op2 (jo_v (j_v (j_lst (ja_cons j_str ja_nil) rfl))) (jo_v j_int) hq0 hq0 (g_mulL (f := eS) (((((h361.2.2.2.2 hb364).2 hb367).2.2.2.2.2.2 hb368).2.2.2.2.2 hb369).2.2.2.2.2 hb370).2.2.2.1)))) hq0 hq0 (g_neDD (((((h361.2.2.2.2 hb364).2 hb367).2.2.2.2.2.2 hb368).2.2.2.2.2 hb369).2.2.2.2.2 hb370).2.2.2.2.1))) (fun hb371 => (jk_ret (j_e j_bl))) (fun hb371 => (jk_pass (jk_norm ([.ex (D.scr script_) 0, .ex (eSt st360) 1, .ex (eN k309) 0, .ex ((eT eQ) row325) 0, .un, .ex ((eT eQ) f354) 0, .ex ((eT eQ) moments358) 0, .ex ((eT (e2 eN eN)) [((2 : Nat), (4 : Nat))]) 0, .ex ((eT eQ) a317) 0, .ex ((eT eQ) b318) 0, .ex ((eT (eT eQ)) p322.1) 0, .ex ((eT (eT eQ)) p322.2) 0, .un, .un] : Gm) (.cons .same (.cons .same (.cons .same (.cons .same (.cons .same (.cons .same (.cons .same (.cons .same (.cons .same (.cons .same (.cons .same (.cons .same (.cons .same (.cons .same .nil)))))))))))))) (jk_uCons pf_nbc (jg_name rfl) (jk_if (jt_tst (j_op2 (jo_v (j_v (j_lst (ja_cons (j_v (j_call (ja_cons j_int (ja_cons (j_nm rfl) (ja_cons (j_nm rfl) ja_nil))) rfl (t__law_told (0 : Nat) ((eT eN) [(1 : Nat)]) ((eT eQ) b318) ((((((h361.2.2.2.2 hb364).2 hb367).2.2.2.2.2.2 hb368).2.2.2.2.2 hb369).2.2.2.2.2 hb370).2.2.2.2.2 hb371).1))) (ja_cons (j_v (j_call (ja_cons j_int (ja_cons (j_nm rfl) (ja_cons (j_nm rfl) ja_nil))) rfl (t__law_told (0 : Nat) ((eT eQ) a317) ((eT eN) [(1 : Nat)]) ((((((h361.2.2.2.2 hb364).2 hb367).2.2.2.2.2.2 hb368).2.2.2.2.2 hb369).2.2.2.2.2 hb370).2.2.2.2.2 hb371).2.1))) (ja_cons (j_v (j_call (ja_cons j_int (ja_cons (j_nm rfl) (ja_cons (j_nm rfl) ja_nil))) rfl (t__law_told (1 : Nat) ((eT eN) [(1 : Nat)]) ((eT eQ) f354) ((((((h361.2.2.2.2 hb364).2 hb367).2.2.2.2.2.2 hb368).2.2.2.2.2 hb369).2.2.2.2.2 hb370).2.2.2.2.2 hb371).2.2.1))) ja_nil))) rfl))) (jo_v (j_v (j_op2 (jo_v (j_v (j_lst (ja_cons j_str ja_nil) rfl))) (jo_v j_int) hq0 hq0 (g_mulL (f := eS) ((((((h361.2.2.2.2 hb364).2 hb367).2.2.2.2.2.2 hb368).2.2.2.2.2 hb369).2.2.2.2.2 hb370).2.2.2.2.2 hb371).2.2.2.1)))) hq0 hq0 (g_neDD ((((((h361.2.2.2.2 hb364).2 hb367).2.2.2.2.2.2 hb368).2.2.2.2.2 hb369).2.2.2.2.2 hb370).2.2.2.2.2 hb371).2.2.2.2.1))) (fun hb372 => (jk_ret (j_e j_bl))) (fun hb372 => (jk_pass (jk_norm ([.ex (D.scr script_) 0, .ex (eSt st360) 1, .ex (eN k309) 0, .ex ((eT eQ) row325) 0, .un, .ex ((eT eQ) f354) 0, .ex ((eT eQ) moments358) 0, .ex ((eT eN) [(1 : Nat)]) 0, .ex ((eT eQ) a317) 0, .ex ((eT eQ) b318) 0, .ex ((eT (eT eQ)) p322.1) 0, .ex ((eT (eT eQ)) p322.2) 0, .un, .un] : Gm) (.cons .same (.cons .same (.cons .same (.cons .same (.cons .same (.cons .same (.cons .same (.cons .same (.cons .same (.cons .same (.cons .same (.cons .same (.cons .same (.cons .same .nil)))))))))))))) (jk_uCons pf_nbc (jg_name rfl) (jk_if (jt_tst (j_op2 (jo_v (j_v (j_lst (ja_cons (j_v (j_call (ja_cons j_int (ja_cons (j_nm rfl) (ja_cons (j_nm rfl) ja_nil))) rfl (t__law_told (0 : Nat) ((eT (e2 eN eN)) (List.replicate (13 : Nat) ([((1 : Nat), (1 : Nat))])).flatten) ((eT eQ) b318) (((((((h361.2.2.2.2 hb364).2 hb367).2.2.2.2.2.2 hb368).2.2.2.2.2 hb369).2.2.2.2.2 hb370).2.2.2.2.2 hb371).2.2.2.2.2 hb372).1))) (ja_cons (j_v (j_call (ja_cons j_int (ja_cons (j_nm rfl) (ja_cons (j_nm rfl) ja_nil))) rfl (t__law_told (0 : Nat) ((eT eQ) a317) ((eT (e2 eN eN)) (List.replicate (13 : Nat) ([((1 : Nat), (1 : Nat))])).flatten) (((((((h361.2.2.2.2 hb364).2 hb367).2.2.2.2.2.2 hb368).2.2.2.2.2 hb369).2.2.2.2.2 hb370).2.2.2.2.2 hb371).2.2.2.2.2 hb372).2.1))) (ja_cons (j_v (j_call (ja_cons j_int (ja_cons (j_nm rfl) (ja_cons (j_nm rfl) ja_nil))) rfl (t__law_told (1 : Nat) ((eT (e2 eN eN)) (List.replicate (13 : Nat) ([((1 : Nat), (1 : Nat))])).flatten) ((eT eQ) f354) (((((((h361.2.2.2.2 hb364).2 hb367).2.2.2.2.2.2 hb368).2.2.2.2.2 hb369).2.2.2.2.2 hb370).2.2.2.2.2 hb371).2.2.2.2.2 hb372).2.2.1))) ja_nil))) rfl))) (jo_v (j_v (j_op2 (jo_v (j_v (j_lst (ja_cons j_str ja_nil) rfl))) (jo_v j_int) hq0 hq0 (g_mulL (f := eS) (((((((h361.2.2.2.2 hb364).2 hb367).2.2.2.2.2.2 hb368).2.2.2.2.2 hb369).2.2.2.2.2 hb370).2.2.2.2.2 hb371).2.2.2.2.2 hb372).2.2.2.1)))) hq0 hq0 (g_neDD (((((((h361.2.2.2.2 hb364).2 hb367).2.2.2.2.2.2 hb368).2.2.2.2.2 hb369).2.2.2.2.2 hb370).2.2.2.2.2 hb371).2.2.2.2.2 hb372).2.2.2.2.1))) (fun hb373 => (jk_ret (j_e j_bl))) (fun hb373 => (jk_pass (jk_norm ([.ex (D.scr script_) 0, .ex (eSt st360) 1, .ex (eN k309) 0, .ex ((eT eQ) row325) 0, .un, .ex ((eT eQ) f354) 0, .ex ((eT eQ) moments358) 0, .ex ((eT (e2 eN eN)) (List.replicate (13 : Nat) ([((1 : Nat), (1 : Nat))])).flatten) 0, .ex ((eT eQ) a317) 0, .ex ((eT eQ) b318) 0, .ex ((eT (eT eQ)) p322.1) 0, .ex ((eT (eT eQ)) p322.2) 0, .un, .un] : Gm) (.cons .same (.cons .same (.cons .same (.cons .same (.cons .same (.cons .same (.cons .same (.cons .same (.cons .same (.cons .same (.cons .same (.cons .same (.cons .same (.cons .same .nil)))))))))))))) (jk_uNil (jk_if (jt_and (jt_tst (j_op2 (jo_nm rfl) (jo_v j_int) hq0 hq0 (g_gtN k309 (1 : Nat)))) fun hb374 => (jt_tst (j_op2 (jo_v (j_v (j_call (ja_cons j_int (ja_cons (j_nm rfl) (ja_cons (j_v (j_slice (jo_nm rfl) jp_none (jp_some (j_v (j_op2 (jo_nm rfl) (jo_v j_int) hq0 hq0 (g_subN (((((((((h361.2.2.2.2 hb364).2 hb367).2.2.2.2.2.2 hb368).2.2.2.2.2 hb369).2.2.2.2.2 hb370).2.2.2.2.2 hb371).2.2.2.2.2 hb372).2.2.2.2.2 hb373).1 hb374).1)))) hq0 (g_takeT _ b318 (k309 - (2 : Nat))))) ja_nil))) rfl (t__law_told (0 : Nat) ((eT eQ) a317) ((eT eQ) (b318.take (k309 - (2 : Nat)))) (((((((((h361.2.2.2.2 hb364).2 hb367).2.2.2.2.2.2 hb368).2.2.2.2.2 hb369).2.2.2.2.2 hb370).2.2.2.2.2 hb371).2.2.2.2.2 hb372).2.2.2.2.2 hb373).1 hb374).2.1)))) (jo_v j_str) hq0 hq0 (g_neDD (((((((((h361.2.2.2.2 hb364).2 hb367).2.2.2.2.2.2 hb368).2.2.2.2.2 hb369).2.2.2.2.2 hb370).2.2.2.2.2 hb371).2.2.2.2.2 hb372).2.2.2.2.2 hb373).1 hb374).2.2)))) (fun hb376 => (jk_ret (j_e j_bl))) (fun hb376 => (jk_pass (jk_last (jk_ret (j_op2 (jo_v (j_v (j_comp (S := SC_law_c2 moments358) eD eD (T_law_c2 moments358) ([.ex (D.scr script_) 0, .ex (eSt st360) 1, .ex (eN k309) 0, .ex ((eT eQ) row325) 0, .un, .ex ((eT eQ) f354) 0, .ex ((eT eQ) moments358) 0, .un, .ex ((eT eQ) a317) 0, .ex ((eT eQ) b318) 0, .ex ((eT (eT eQ)) p322.1) 0, .ex ((eT (eT eQ)) p322.2) 0, .un, .un] : Gm) (ji_seq (j_v (j_lst (ja_cons j_non (ja_cons j_int (ja_cons (j_tup (ja_cons (j_tup (ja_cons j_int (ja_cons j_int ja_nil)) rfl) ja_nil) rfl) (ja_cons (j_tup (ja_cons (j_tup (ja_cons j_int (ja_cons j_int ja_nil)) rfl) (ja_cons (j_tup (ja_cons j_int (ja_cons j_int ja_nil)) rfl) ja_nil)) rfl) (ja_cons (j_v (j_lst (ja_cons (j_tup (ja_cons j_int (ja_cons j_int ja_nil)) rfl) ja_nil) rfl)) (ja_cons (j_tup (ja_cons (j_tup (ja_cons j_int (ja_cons j_int ja_nil)) rfl) ja_nil) rfl) ja_nil)))))) rfl)) (i_L eD ([(eU ()), (eN (5 : Nat)), ((eT (e2 eN eN)) [((0 : Nat), (1 : Nat))]), ((eT (e2 eN eN)) [((1 : Nat), (1 : Nat)), ((0 : Nat), (1 : Nat))]), ((eL (e2 eN eN)) [((1 : Nat), (1 : Nat))]), ((eT (e2 eN eN)) [((2 : Nat), (4 : Nat))])]))) (.cons .same (.cons .same (.cons .same (.cons .same (.cons .same (.cons .same (.cons .same (.cons .same (.cons .same (.cons .same (.cons .same (.cons .same (.cons .same (.cons .same .nil)))))))))))))) (((((((((h361.2.2.2.2 hb364).2 hb367).2.2.2.2.2.2 hb368).2.2.2.2.2 hb369).2.2.2.2.2 hb370).2.2.2.2.2 hb371).2.2.2.2.2 hb372).2.2.2.2.2 hb373).2 hb376).2.1 (((((((((h361.2.2.2.2 hb364).2 hb367).2.2.2.2.2.2 hb368).2.2.2.2.2 hb369).2.2.2.2.2 hb370).2.2.2.2.2 hb371).2.2.2.2.2 hb372).2.2.2.2.2 hb373).2 hb376).1 (fun b378 => (jg_name rfl)) (fun b378 h379 => (j_e (j_v (j_call (ja_cons j_int (ja_cons (j_nm rfl) (ja_cons (j_nm rfl) ja_nil))) rfl (t__law_told (1 : Nat) ((eT eQ) moments358) b378 h379))))) (fun b378 => (.cons .same (.cons .same (.cons .same (.cons .same (.cons .same (.cons .same (.cons .same (.cons .same (.cons .same (.cons .same (.cons .same (.cons .same (.cons .same (.cons .same .nil)))))))))))))))))) (jo_v (j_v (j_op2 (jo_v (j_v (j_lst (ja_cons j_str ja_nil) rfl))) (jo_v j_int) hq0 hq0 (g_mulL (f := eS) (((((((((h361.2.2.2.2 hb364).2 hb367).2.2.2.2.2.2 hb368).2.2.2.2.2 hb369).2.2.2.2.2 hb370).2.2.2.2.2 hb371).2.2.2.2.2 hb372).2.2.2.2.2 hb373).2 hb376).2.2.1)))) hq0 hq0 (g_eqDD (((((((((h361.2.2.2.2 hb364).2 hb367).2.2.2.2.2.2 hb368).2.2.2.2.2 hb369).2.2.2.2.2 hb370).2.2.2.2.2 hb371).2.2.2.2.2 hb372).2.2.2.2.2 hb373).2 hb376).2.2.2)))))))))))))))))))))))))))))))))))))))))))))))))))))))))))))))))
end
end L37
end

section
set_option Elab.async false
set_option linter.all false
set_option maxRecDepth 100000
set_option maxHeartbeats 4000000
open PySem Pv Tv
namespace L37
open L04 (row row_len row_get row_nth row_app row_cg row_self row_map row_flat loop_ix sumN sumN_cg sumN_head sumN_zero sumN_rev sumN_bd enumT_row mem_row num_0 Gt stO stI_0 stI_n stI_s)
open FPS PL
noncomputable section
theorem hlim : (lim : Nat) = 16000000 := rfl
theorem trim_ok {s : List Rat} (h : s.length < 200) : SC_trimmed s ∧ T_trimmed s = tr s := tr_while 200 s h
theorem ltrim_ok {s : List Rat} (h : s.length < 200) : SC__law_trimmed s ∧ T__law_trimmed s = tr s := tr_while 200 s h
def sumP (f g : List Rat) : List Rat := tr (row (max f.length g.length) fun k => nth f k + nth g k)
theorem zip_row {α β : Type} (n : Nat) (a : Nat → α) (b : Nat → β) : (row n a).zip (row n b) = row n fun t => (a t, b t) := by
  refine List.ext_getElem (by simp [row_len]) fun i a1 a2 => ?_
  rw [List.getElem_zip, row_get, row_get, row_get]
theorem add_ok {f g : List Rat} (hf : ∀ i, Sm (nth f i)) (hg : ∀ i, Sm (nth g i)) (n : f.length < 200) (n' : g.length < 200) : SC_added f g ∧ T_added f g = sumP f g := by
  have hL := hlim
  have e1 := row_nths (f := f) (N := max f.length g.length) (Nat.le_max_left _ _)
  have e2 := row_nths (f := g) (N := max f.length g.length) (Nat.le_max_right _ _)
  have hm : max f.length g.length < 200 := by omega
  have e3 : ((row (max f.length g.length) (nth f)).zip (row (max f.length g.length) (nth g))).map T_added_c1 = row (max f.length g.length) fun k => nth f k + nth g k := by
    rw [zip_row, row_map]; rfl
  have t := trim_ok (s := row (max f.length g.length) fun k => nth f k + nth g k) (by rw [row_len]; exact hm)
  unfold SC_added T_added
  simp only [Let]
  rw [e1, e2, e3]
  refine ⟨⟨by omega, ⟨by show 1 * _ ≤ _; omega, by omega⟩, ?_, by omega, ⟨by show 1 * _ ≤ _; omega, by omega⟩, ?_, ?_, ?_, t.1⟩, t.2⟩
  · rw [row_flat, row_len]; omega
  · rw [row_flat, row_len]; omega
  · intro b hb
    rw [zip_row] at hb
    obtain ⟨k, _, e⟩ := mem_row hb
    rw [← e]; exact ⟨hf k, hg k⟩
  · rw [zip_row, row_len]; omega
theorem lsum_ok {f g : List Rat} (hf : ∀ i, Sm (nth f i)) (hg : ∀ i, Sm (nth g i)) (n : f.length < 200) (n' : g.length < 200) : SC__law_poly_add f g ∧ T__law_poly_add f g = sumP f g := by
  have hL := hlim
  have e1 := row_nths (f := f) (N := max f.length g.length) (Nat.le_max_left _ _)
  have e2 := row_nths (f := g) (N := max f.length g.length) (Nat.le_max_right _ _)
  have hm : max f.length g.length < 200 := by omega
  have e3 : (List.range (max f.length g.length)).map (T__law_poly_add_c1 (row (max f.length g.length) (nth f)) (row (max f.length g.length) (nth g))) = row (max f.length g.length) fun k => nth f k + nth g k := row_cg fun k hk => by
    show nth (row _ _) k + nth (row _ _) k = _
    rw [row_nth hk, row_nth hk]
  have t := ltrim_ok (s := row (max f.length g.length) fun k => nth f k + nth g k) (by rw [row_len]; exact hm)
  unfold SC__law_poly_add T__law_poly_add
  simp only [Let]
  rw [e1, e2, e3]
  refine ⟨⟨by omega, ⟨by show 1 * _ ≤ _; omega, by omega⟩, ?_, by omega, ⟨by show 1 * _ ≤ _; omega, by omega⟩, ?_, by omega, ?_, t.1⟩, t.2⟩
  · rw [row_flat, row_len]; omega
  · rw [row_flat, row_len]; omega
  · intro b hb
    have hb := List.mem_range.1 hb
    show _ ∧ _
    rw [row_len, row_len, row_nth hb, row_nth hb]
    exact ⟨hb, hb, hf b, hg b⟩
def scP (f : List Rat) (c : Rat) : List Rat := tr (f.map fun q => q * c)
theorem scal_ok {f : List Rat} {c : Rat} (hf : ∀ q ∈ f, Sm q) (hc : Sm c) (n : f.length < 200) : SC_scaled f c ∧ T_scaled f c = scP f c := by
  have hL := hlim
  have t := trim_ok (s := f.map fun q => q * c) (by rw [List.length_map]; exact n)
  exact ⟨⟨fun b hb => ⟨hf b hb, hc⟩, by omega, t.1⟩, t.2⟩
theorem lscal_ok {f : List Rat} {c : Rat} (hf : ∀ q ∈ f, Sm q) (hc : Sm c) (n : f.length < 200) : SC__law_poly_scaled f c ∧ T__law_poly_scaled f c = scP f c := by
  have hL := hlim
  have t := ltrim_ok (s := f.map fun q => q * c) (by rw [List.length_map]; exact n)
  exact ⟨⟨fun b hb => ⟨hf b hb, hc⟩, by omega, t.1⟩, t.2⟩
def prP (f g : List Rat) : List Rat := tr (row (f.length + g.length) (cv (nth f) (nth g)))
theorem prP_nth (f g : List Rat) (k : Nat) : nth (prP f g) k = cv (nth f) (nth g) k := by
  unfold prP
  rw [tr_nth, nth_row]
  split
  · rfl
  · rw [cv_ge (by omega)]
theorem prP_len (f g : List Rat) : (prP f g).length ≤ f.length + g.length := by
  have := tr_len (row (f.length + g.length) (cv (nth f) (nth g)))
  rw [row_len] at this
  exact this
section
variable {E M E' M' : Nat} {f g : List Rat} (H : Sz E M E' M' f g)
include H
theorem times_in {m L : Nat} (hm : m < f.length) (hL : L + 1 = f.length + g.length) : AllF (SC_times_l1 (m, nth f m)) (T_times_l1 (m, nth f m)) (enumT g) (stO (nth f) (nth g) L m) ∧ (enumT g).foldl (T_times_l1 (m, nth f m)) (stO (nth f) (nth g) L m) = stO (nth f) (nth g) L (m + 1) := by
  have := loop_ix (S := SC_times_l1 (m, nth f m)) (step := T_times_l1 (m, nth f m)) (fun J => L04.stI (nth f) (nth g) L m J) (bs := enumT g) (s := stO (nth f) (nth g) L m) (stI_0 _ _ _ _).symm fun i hi => by
    simp only [enumT_row]
    rw [enumT_row, row_len] at hi
    rw [row_get]
    have hl : (L04.stI (nth f) (nth g) L m i).length = L := row_len _ _
    exact ⟨⟨by rw [hl]; show m + i < L; omega, H.sf m, H.sg i, H.sI hm, H.sp m i⟩, stI_s (nth f) (nth g) (by omega)⟩
  rw [enumT_row, row_len, ← enumT_row, stI_end] at this
  exact this
theorem times_ok : SC_times f g ∧ T_times f g = prP f g := by
  have hn := H.n
  have hn' := H.n'
  have hL := hlim
  unfold SC_times T_times
  by_cases h0 : f.length = 0 ∨ g.length = 0
  · have hc : (decide (f.length = 0) || decide (g.length = 0)) = true := by
      rcases h0 with h | h
      · rw [decide_eq_true h]; rfl
      · rw [decide_eq_true h, Bool.or_true]
    rw [hc]
    refine ⟨fun h => (by cases h), ?_⟩
    show [] = _
    refine (tr_nil fun k => ?_).symm
    rw [nth_row]
    split
    · refine sum_z fun i hi => ?_
      rcases h0 with h | h
      · rw [nth_ge (xs := f) (by omega)]; grind
      · rw [nth_ge (xs := g) (by omega)]; grind
    · rfl
  · have h1 : f.length ≠ 0 := fun e => h0 (.inl e)
    have h2 : g.length ≠ 0 := fun e => h0 (.inr e)
    have hc : (decide (f.length = 0) || decide (g.length = 0)) = false := by
      rw [decide_eq_false h1, decide_eq_false h2]; rfl
    rw [hc]
    obtain ⟨L, hLL⟩ : ∃ L, f.length + g.length - 1 = L := ⟨_, rfl⟩
    have e0 : (List.replicate (f.length + g.length - 1) [(((0 : Int) : Rat))]).flatten = stO (nth f) (nth g) L 0 := by rw [hLL]; exact row_flat _ _
    have lp := loop_ix (S := SC_times_l2 g) (step := T_times_l2 g) (fun m => stO (nth f) (nth g) L m) (bs := enumT f) (s := stO (nth f) (nth g) L 0) rfl fun i hi => by
      simp only [enumT_row]
      rw [enumT_row, row_len] at hi
      rw [row_get]
      have t := times_in H hi (L := L) (by omega)
      exact ⟨t.1, t.2⟩
    have en := lp.2
    rw [enumT_row, row_len, ← enumT_row] at en
    have eq1 : stO (nth f) (nth g) L f.length = row L (cv (nth f) (nth g)) := row_cg fun t _ => Gt_sum t
    rw [eq1] at en
    have t := trim_ok (s := row L (cv (nth f) (nth g))) (by rw [row_len]; omega)
    have te : tr (row L (cv (nth f) (nth g))) = prP f g := tr_row (fun _ => rfl) (fun k hk => cv_ge (by omega)) (fun k hk => cv_ge (by omega))
    simp only [Let]
    rw [e0, en, hLL]
    refine ⟨fun _ => ⟨by omega, ⟨by show 1 * _ ≤ _; omega, by omega⟩, lp.1, t.1⟩, ?_⟩
    show T_trimmed _ = _
    rw [t.2, te]
theorem ltimes_in {m L : Nat} (hm : m < f.length) (hL : L = f.length + g.length) : AllF (SC__law_poly_times_l1 f g m) (T__law_poly_times_l1 f g m) (List.range g.length) (stO (nth f) (nth g) L m) ∧ (List.range g.length).foldl (T__law_poly_times_l1 f g m) (stO (nth f) (nth g) L m) = stO (nth f) (nth g) L (m + 1) := by
  have := loop_ix (S := SC__law_poly_times_l1 f g m) (step := T__law_poly_times_l1 f g m) (fun J => L04.stI (nth f) (nth g) L m J) (bs := List.range g.length) (s := stO (nth f) (nth g) L m) (stI_0 _ _ _ _).symm fun i hi => by
    rw [List.length_range] at hi
    rw [List.getElem_range]
    have hl : (L04.stI (nth f) (nth g) L m i).length = L := row_len _ _
    exact ⟨⟨by rw [hl]; omega, hm, hi, H.sf m, H.sg i, H.sI hm, H.sp m i⟩, stI_s (nth f) (nth g) (by omega)⟩
  rw [List.length_range, stI_end] at this
  exact this
theorem ltimes_ok : SC__law_poly_times f g ∧ T__law_poly_times f g = prP f g := by
  have hn := H.n
  have hn' := H.n'
  have hL := hlim
  obtain ⟨L, hLL⟩ : ∃ L, f.length + g.length = L := ⟨_, rfl⟩
  have e0 : (List.range L).map T__law_poly_times_c1 = stO (nth f) (nth g) L 0 := rfl
  have lp := loop_ix (S := SC__law_poly_times_l2 f g) (step := T__law_poly_times_l2 f g) (fun m => stO (nth f) (nth g) L m) (bs := List.range f.length) (s := stO (nth f) (nth g) L 0) rfl fun i hi => by
    rw [List.length_range] at hi
    rw [List.getElem_range]
    have t := ltimes_in H hi (L := L) hLL.symm
    exact ⟨⟨by omega, t.1⟩, t.2⟩
  have en := lp.2
  rw [List.length_range] at en
  have eq1 : stO (nth f) (nth g) L f.length = row L (cv (nth f) (nth g)) := row_cg fun t _ => Gt_sum t
  rw [eq1] at en
  have t := ltrim_ok (s := row L (cv (nth f) (nth g))) (by rw [row_len]; omega)
  unfold SC__law_poly_times T__law_poly_times prP
  simp only [Let]
  rw [hLL, e0, en]
  exact ⟨⟨by omega, by omega, lp.1, t.1⟩, t.2⟩
theorem pr_bd (k : Nat) : Bd (E * E') (90 * (M * M')) (nth (prP f g) k) := by rw [prP_nth]; exact H.bcv k
end
end
end L37
end

section
set_option Elab.async false
set_option linter.all false
set_option maxRecDepth 100000
set_option maxHeartbeats 4000000
open PySem Pv Tv
namespace L37
open L04 (row row_len row_get row_nth row_app row_cg row_self row_map row_flat loop_ix sumN sumN_cg sumN_head sumN_zero sumN_rev sumN_bd enumT_row mem_row num_0)
open FPS PL
noncomputable section
structure VOk (d : D) : Prop where
  n : nice d = true
  r : ∀ b ∈ tupOf d, ratOk b
  l : (tupOf d).length ≤ lim
theorem rat_int {b : D} (h : isRatD b = true) : isTupD b = true ∧ 0 < (tupOf b).length ∧ ∃ i : Int, (tupOf b).getD 0 D.non = .int i := by
  unfold isRatD at h
  split at h
  · rename_i i j
    exact ⟨rfl, by show 0 < 2; omega, i, rfl⟩
  · cases h
theorem eqOk_int (i : Int) : EqOk (eD (.int i)) (eN 0) := ⟨decide (i = 0), by
  have := g_eqI i 0
  exact this⟩
theorem VOk.sc {d : D} (h : VOk d) : SC_is_polynomial d := by
  refine ⟨h.n, fun ht => ?_, fun ht => ?_⟩
  · have ht : isTupD d = true := by cases q : isTupD d with | true => rfl | false => rw [q] at ht; cases ht
    exact ⟨ht, fun _ => ⟨ht, h.r, h.l⟩⟩
  · cases q : isTupD d with
    | false => rw [q] at ht; cases ht
    | true =>
      rw [q] at ht
      refine ⟨rfl, fun h0 => ?_⟩
      have h0 : (tupOf d).length ≠ 0 := of_decide_eq_false h0
      have ha : ((tupOf d).map T_is_polynomial_c1).all id = true := by
        cases r : ((tupOf d).map T_is_polynomial_c1).all id with
        | true => rfl
        | false => rw [r] at ht; simp at ht
      rw [List.all_eq_true] at ha
      have hk : (tupOf d).length - 1 < (tupOf d).length := by omega
      have e : (tupOf d).getD ((tupOf d).length - 1) D.non = (tupOf d)[(tupOf d).length - 1] := by
        rw [List.getD_eq_getElem?_getD, List.getElem?_eq_getElem hk, Option.getD_some]
      have hr : isRatD ((tupOf d)[(tupOf d).length - 1]) = true := ha (T_is_polynomial_c1 _) (List.mem_map_of_mem (List.getElem_mem hk))
      rw [e]
      obtain ⟨r1, r2, i, r3⟩ := rat_int hr
      refine ⟨rfl, by omega, r1, r2, ?_⟩
      rw [r3]
      exact eqOk_int i
structure Py (f : List Rat) : Prop where
  t : Tr f
  l : f.length ≤ 61
  s : ∀ q ∈ f, Sm q
theorem Sm.zero : Sm 0 := (Bd.zero (E := 1) (M := 1) (by decide)).sm (by decide) (by decide)
theorem sm_of_nth {f : List Rat} (h : ∀ i, Sm (nth f i)) : ∀ q ∈ f, Sm q := fun q hq => by
  obtain ⟨i, hi, e⟩ := List.getElem_of_mem hq
  rw [← e, ← nth_eq hi]; exact h i
theorem vok_Q {f : List Rat} (h : ∀ q ∈ f, Sm q) (hl : f.length ≤ lim) : VOk (eT eQ f) where
  n := rfl
  r := fun b hb => by
    obtain ⟨q, hq, e⟩ := List.mem_map.1 hb
    rw [← e]; exact ratOk_Q (h q hq)
  l := by show (f.map eQ).length ≤ _; rw [List.length_map]; exact hl
theorem last_D {f : List Rat} (h0 : 0 < f.length) : (tupOf ((tupOf (eT eQ f)).getD ((tupOf (eT eQ f)).length - 1) D.non)).getD 0 D.non = .int (nth f (f.length - 1)).num := by
  have : (tupOf (eT eQ f)).getD ((tupOf (eT eQ f)).length - 1) D.non = eQ (nth f (f.length - 1)) := by
    show (f.map eQ).getD ((f.map eQ).length - 1) D.non = _
    rw [List.length_map, List.getD_eq_getElem?_getD, List.getElem?_map, nth_at (show f.length - 1 < f.length by omega)]; rfl
  rw [this]; rfl
theorem eqDD_int (i : Int) : eqDD (eD (.int i)) (eN 0) = decide (i = 0) := by
  have := g_eqI i 0
  unfold eqDD
  show (match eqD (eI i) (eI 0) with | some (.bl c, _) => c | _ => false) = _
  rw [this]
theorem Py.vok {f : List Rat} (H : Py f) : VOk (eT eQ f) := vok_Q H.s (by have := H.l; have := hlim; omega)
theorem all_Q (f : List Rat) : ((tupOf (eT eQ f)).map T_is_polynomial_c1).all id = true := by
  rw [List.all_eq_true]
  intro b hb
  obtain ⟨d, hd, e⟩ := List.mem_map.1 hb
  obtain ⟨q, hq, e'⟩ := List.mem_map.1 hd
  rw [← e, ← e']; exact isRatD_Q q
theorem Py.is {f : List Rat} (H : Py f) : T_is_polynomial (eT eQ f) = true := by
  have hl : (tupOf (eT eQ f)).length = f.length := by show (f.map eQ).length = _; rw [List.length_map]
  unfold T_is_polynomial
  rw [all_Q, decide_eq_false (show ¬ 61 < (tupOf (eT eQ f)).length by rw [hl]; have := H.l; omega)]
  show (decide _ || _) = true
  by_cases h0 : f.length = 0
  · rw [decide_eq_true (show (tupOf (eT eQ f)).length = 0 by rw [hl]; exact h0)]; rfl
  · rw [last_D (by omega), eqDD_int, decide_eq_false fun e => H.t.last (by omega) (num_0.1 e)]
    exact Bool.or_true _
theorem chk {ds : List D} (h : ∀ d ∈ ds, VOk d) (hl : ds.length ≤ lim) (ht : ∀ d ∈ ds, T_is_polynomial d = true) : SC_check_polynomials ds := by
  refine ⟨fun b hb => (h b hb).sc, hl, ?_⟩
  have : (ds.map T_check_polynomials_c1).all id = true := by
    rw [List.all_eq_true]
    intro b hb
    obtain ⟨d, hd, e⟩ := List.mem_map.1 hb
    rw [← e]; exact ht d hd
  rw [this]; rfl
theorem chk1 {f : List Rat} (H : Py f) : SC_check_polynomials [eT eQ f] := chk (fun d hd => by rw [List.mem_singleton.1 hd]; exact H.vok) (by show 1 ≤ lim; decide) (fun d hd => by rw [List.mem_singleton.1 hd]; exact H.is)
theorem chk2 {f g : List Rat} (H : Py f) (K : Py g) : SC_check_polynomials [eT eQ f, eT eQ g] := chk (fun d hd => by
  rcases List.mem_cons.1 hd with e | e
  · rw [e]; exact H.vok
  · rw [List.mem_singleton.1 e]; exact K.vok) (by show 2 ≤ lim; decide) (fun d hd => by
  rcases List.mem_cons.1 hd with e | e
  · rw [e]; exact H.is
  · rw [List.mem_singleton.1 e]; exact K.is)
end
end L37
end

section
set_option Elab.async false
set_option linter.all false
set_option maxRecDepth 100000
set_option maxHeartbeats 4000000
namespace FPS
open L04 (sumN sumN_cg sumN_zero sumN_head sumN_rev)
abbrev rI (k : Nat) : Rat := ((k : Int) : Rat)
def SP (f c : Nat → Rat) (N n : Nat) : Rat := sumN (fun k => c k * pw f k n) N
def one (f : Nat → Rat) (n : Nat) : Rat := on n + f n
structure Lg (e l : Nat → Rat) (N : Nat) : Prop where
  e0 : e 0 = 1
  l0 : l 0 = 0
  h : ∀ n ≤ N, cv (th l) e n = th e n
structure Pw (l p : Nat → Rat) (s : Rat) (N : Nat) : Prop where
  p0 : p 0 = 1
  h : ∀ n ≤ N, th p n = s * cv (th l) p n
theorem Pw.mul {l p q : Nat → Rat} {s t : Rat} {N : Nat} (a : Pw l p s N) (b : Pw l q t N) : Pw l (cv p q) (s + t) N where
  p0 := by rw [cv_0, a.p0, b.p0]; grind
  h := fun n hn => by
    rw [th_cv]
    have e1 : cv (th p) q n = s * cv (th l) (cv p q) n := by
      rw [cv_cg (f' := fun n => s * cv (th l) p n) (g' := q) (fun k hk => a.h k (by omega)) (fun _ _ => rfl), cv_mulL, cv_assoc]
    have e2 : cv p (th q) n = t * cv (th l) (cv p q) n := by
      rw [cv_cg (f' := p) (g' := fun n => t * cv (th l) q n) (fun _ _ => rfl) (fun k hk => b.h k (by omega)), cv_mulR, ← cv_assoc, ← cv_assoc]
      congr 1
      exact cv_cg (fun k _ => cv_comm _ _ _) fun _ _ => rfl
    rw [e1, e2]; grind
theorem Lg.pw {e l : Nat → Rat} {N : Nat} (a : Lg e l N) : Pw l e 1 N := ⟨a.e0, fun n hn => by rw [a.h n hn]; grind⟩
end FPS
end

section
set_option Elab.async false
set_option linter.all false
set_option maxRecDepth 100000
set_option maxHeartbeats 4000000
namespace FPS
open L04 (sumN sumN_cg sumN_zero sumN_head sumN_rev)
end FPS
end

section
set_option Elab.async false
set_option linter.all false
set_option maxRecDepth 100000
set_option maxHeartbeats 4000000
namespace FPS
open L04 (sumN sumN_cg sumN_zero sumN_head sumN_rev)
def up (f : Nat → Rat) : Nat → Rat
  | 0 => 0
  | n + 1 => f n
def xx (n : Nat) : Rat := if n = 1 then 1 else 0
end FPS
end

section
set_option Elab.async false
set_option linter.all false
set_option maxRecDepth 100000
set_option maxHeartbeats 4000000
open Tv
namespace PO
open L04 (sumN sumN_cg sumN_zero sumN_head sumN_rev)
open FPS
noncomputable section
theorem sz {F : Nat → Rat} {n : Nat} (h : ∀ k < n, F k = 0) : sumN F n = 0 := (sumN_cg (G := fun _ => 0) h).trans (sumN_0 n)
section
variable (A B : Nat → Rat)
def W : Nat → Nat → Rat
  | 0, h => on h
  | t + 1, h => W t h * A h + (if h = 0 then 0 else W t (h - 1)) + W t (h + 1) * B h
theorem W_z : ∀ t h, t < h → W A B t h = 0
  | 0, h, l => if_neg (by omega)
  | t + 1, h, l => by
    show W A B t h * A h + (if h = 0 then 0 else W A B t (h - 1)) + W A B t (h + 1) * B h = 0
    rw [W_z t h (by omega), W_z t (h + 1) (by omega), if_neg (by omega), W_z t (h - 1) (by omega)]
    grind
def P : Nat → Nat → Rat
  | 0 => on
  | 1 => fun j => up on j - A 0 * on j
  | k + 2 => fun j => up (P (k + 1)) j - A (k + 1) * P (k + 1) j - B k * P k j
def Q : Nat → Nat → Rat
  | 0 => fun _ => 0
  | 1 => on
  | k + 2 => fun j => up (Q (k + 1)) j - A (k + 1) * Q (k + 1) j - B k * Q k j
theorem up_s (f : Nat → Rat) (j : Nat) : up f (j + 1) = f j := rfl
theorem up_0 (f : Nat → Rat) : up f 0 = 0 := rfl
theorem P_z : ∀ k j, k < j → P A B k j = 0
  | 0, j, h => if_neg (by omega)
  | 1, j, h => by
    show up on j - A 0 * on j = 0
    obtain ⟨i, rfl⟩ : ∃ i, j = i + 1 := ⟨j - 1, by omega⟩
    rw [up_s, show on i = 0 from if_neg (by omega), show on (i + 1) = 0 from if_neg (by omega)]
    grind
  | k + 2, j, h => by
    show up (P A B (k + 1)) j - A (k + 1) * P A B (k + 1) j - B k * P A B k j = 0
    obtain ⟨i, rfl⟩ : ∃ i, j = i + 1 := ⟨j - 1, by omega⟩
    rw [up_s, P_z (k + 1) i (by omega), P_z (k + 1) (i + 1) (by omega), P_z k (i + 1) (by omega)]
    grind
theorem P_1 : ∀ k, P A B k k = 1
  | 0 => rfl
  | 1 => by
    show up on 1 - A 0 * on 1 = 1
    rw [up_s, show on 0 = 1 from rfl, show on 1 = 0 from rfl]; grind
  | k + 2 => by
    show up (P A B (k + 1)) (k + 2) - A (k + 1) * P A B (k + 1) (k + 2) - B k * P A B k (k + 2) = 1
    rw [up_s, P_1 (k + 1), P_z A B (k + 1) (k + 2) (by omega), P_z A B k (k + 2) (by omega)]
    grind
theorem Q_z : ∀ k j, k ≤ j → Q A B k j = 0
  | 0, j, h => rfl
  | 1, j, h => if_neg (by omega)
  | k + 2, j, h => by
    show up (Q A B (k + 1)) j - A (k + 1) * Q A B (k + 1) j - B k * Q A B k j = 0
    obtain ⟨i, rfl⟩ : ∃ i, j = i + 1 := ⟨j - 1, by omega⟩
    rw [up_s, Q_z (k + 1) i (by omega), Q_z (k + 1) (i + 1) (by omega), Q_z k (i + 1) (by omega)]
    grind
theorem Q_1 : ∀ k, Q A B (k + 1) k = 1
  | 0 => rfl
  | k + 1 => by
    show up (Q A B (k + 1)) (k + 1) - A (k + 1) * Q A B (k + 1) (k + 1) - B k * Q A B k (k + 1) = 1
    rw [up_s, Q_1 k, Q_z A B (k + 1) (k + 1) (by omega), Q_z A B k (k + 1) (by omega)]
    grind
theorem xP (k j : Nat) : up (P A B k) j = P A B (k + 1) j + A k * P A B k j + (if k = 0 then 0 else B (k - 1) * P A B (k - 1) j) := by
  cases k with
  | zero =>
    rw [if_pos rfl]
    show up on j = (up on j - A 0 * on j) + A 0 * on j + 0
    grind
  | succ k =>
    rw [if_neg (by omega), Nat.add_sub_cancel]
    show _ = (up (P A B (k + 1)) j - A (k + 1) * P A B (k + 1) j - B k * P A B k j) + _ + _
    grind
def S (p : Nat → Rat) (N h : Nat) : Rat := sumN (fun j => p j * W A B j h) N
theorem S_N {p : Nat → Rat} {n N : Nat} (hp : ∀ j, n ≤ j → p j = 0) (hN : n ≤ N) (h : Nat) : S A B p N h = S A B p n h := sumN_zero (fun j hj => by rw [hp j hj, Rat.zero_mul]) hN
theorem S_up (p : Nat → Rat) (N h : Nat) : S A B (up p) (N + 1) h = S A B p N h * A h + (if h = 0 then 0 else S A B p N (h - 1)) + S A B p N (h + 1) * B h := by
  unfold S
  rw [sumN_head, up_0, Rat.zero_mul, Rat.zero_add]
  by_cases z : h = 0
  · subst z
    rw [if_pos rfl, Rat.add_zero, Rat.mul_comm (sumN _ N), Rat.mul_comm (sumN _ N), ← sumN_mul, ← sumN_mul, ← sumN_add]
    refine sumN_cg fun j _ => ?_
    show up p (j + 1) * (W A B j 0 * A 0 + 0 + W A B j (0 + 1) * B 0) = _
    rw [up_s]; grind
  · rw [if_neg z, Rat.mul_comm (sumN _ N), Rat.mul_comm (sumN _ N), ← sumN_mul, ← sumN_mul, ← sumN_add, ← sumN_add]
    refine sumN_cg fun j _ => ?_
    show up p (j + 1) * (W A B j h * A h + (if h = 0 then 0 else W A B j (h - 1)) + W A B j (h + 1) * B h) = _
    rw [up_s, if_neg z]; grind
theorem S_lin (p q : Nat → Rat) (c d : Rat) (r : Nat → Rat) (N h : Nat) : S A B (fun j => p j - c * q j - d * r j) N h = S A B p N h - c * S A B q N h - d * S A B r N h := by
  unfold S
  have e : sumN (fun j => (p j - c * q j - d * r j) * W A B j h) N = sumN (fun j => p j * W A B j h) N + -c * sumN (fun j => q j * W A B j h) N + -d * sumN (fun j => r j * W A B j h) N := by
    rw [← sumN_mul, ← sumN_mul, ← sumN_add, ← sumN_add]
    exact sumN_cg fun j _ => by grind
  rw [e]; grind
def ee (k h : Nat) : Rat := if h = k then 1 else 0
theorem S_P : ∀ k h, S A B (P A B k) (k + 1) h = ee k h
  | 0, h => by
    show (0 : Rat) + on 0 * on h = _
    rw [show on 0 = 1 from rfl]
    show (0 : Rat) + 1 * (if h = 0 then 1 else 0) = if h = 0 then 1 else 0
    grind
  | 1, h => by
    show S A B (fun j => up on j - A 0 * on j) 2 h = _
    have e : (fun j => up on j - A 0 * on j) = fun j => up on j - A 0 * on j - 0 * on j := funext fun j => by grind
    have s0 := S_P 0
    have z : ∀ j, 1 ≤ j → on j = 0 := fun j hj => if_neg (by omega)
    rw [e, S_lin, S_up, S_N A B z (by omega : 1 ≤ 2)]
    have a : ∀ h, S A B on 1 h = ee 0 h := s0
    simp only [a]
    unfold ee
    repeat' split
    all_goals first | (exfalso; omega) | grind
  | k + 2, h => by
    show S A B (fun j => up (P A B (k + 1)) j - A (k + 1) * P A B (k + 1) j - B k * P A B k j) (k + 3) h = _
    have s1 := S_P (k + 1)
    have s0 := S_P k
    rw [S_lin, S_up, S_N A B (p := P A B (k + 1)) (fun j hj => P_z A B (k + 1) j (by omega)) (by omega : k + 2 ≤ k + 3), S_N A B (p := P A B k) (fun j hj => P_z A B k j (by omega)) (by omega : k + 1 ≤ k + 3)]
    have a : ∀ h, S A B (P A B (k + 1)) (k + 2) h = ee (k + 1) h := s1
    simp only [a, s0]
    unfold ee
    repeat' split
    all_goals first | (exfalso; omega) | grind
def M (a k : Nat) : Rat := sumN (fun b => P A B k b * W A B (a + b) 0) (k + 1)
theorem M_N {a k N : Nat} (hN : k + 1 ≤ N) : sumN (fun b => P A B k b * W A B (a + b) 0) N = M A B a k := sumN_zero (fun b hb => by rw [P_z A B k b (by omega), Rat.zero_mul]) hN
theorem M_0 (k : Nat) : M A B 0 k = on k := by
  have h := S_P A B k 0
  unfold S at h
  unfold M
  rw [(sumN_cg fun b _ => by rw [Nat.zero_add] : sumN (fun b => P A B k b * W A B (0 + b) 0) (k + 1) = sumN (fun j => P A B k j * W A B j 0) (k + 1)), h]
  unfold ee on
  by_cases z : k = 0
  · subst z; rfl
  · rw [if_neg (by omega), if_neg z]
theorem M_s (a k : Nat) : M A B (a + 1) k = M A B a (k + 1) + A k * M A B a k + (if k = 0 then 0 else B (k - 1) * M A B a (k - 1)) := by
  have e : M A B (a + 1) k = sumN (fun b => up (P A B k) b * W A B (a + b) 0) (k + 2) := by
    rw [sumN_head, up_0, Rat.zero_mul, Rat.zero_add]
    unfold M
    exact sumN_cg fun b _ => by rw [up_s, show a + 1 + b = a + (b + 1) by omega]
  rw [e]
  by_cases z : k = 0
  · subst z
    rw [if_pos rfl, Rat.add_zero, ← M_N A B (a := a) (k := 0) (N := 2) (by omega), ← M_N A B (a := a) (k := 1) (N := 2) (by omega), ← sumN_mul, ← sumN_add]
    refine sumN_cg fun b _ => ?_
    rw [xP, if_pos rfl]; grind
  · rw [if_neg z, ← M_N A B (a := a) (k := k) (N := k + 2) (by omega), ← M_N A B (a := a) (k := k + 1) (N := k + 2) (by omega), ← M_N A B (a := a) (k := k - 1) (N := k + 2) (by omega), ← sumN_mul, ← sumN_mul, ← sumN_add, ← sumN_add]
    refine sumN_cg fun b _ => ?_
    rw [xP, if_neg z]; grind
def be : Nat → Rat
  | 0 => 1
  | h + 1 => be h * B h
theorem M_W : ∀ a k, M A B a k = be B k * W A B a k
  | 0, k => by
    rw [M_0]
    show on k = be B k * on k
    by_cases z : k = 0
    · subst z; show (1 : Rat) = 1 * 1; grind
    · rw [show on k = 0 from if_neg z, Rat.mul_zero]
  | a + 1, k => by
    rw [M_s, M_W a (k + 1), M_W a k]
    show _ = be B k * (W A B a k * A k + (if k = 0 then 0 else W A B a (k - 1)) + W A B a (k + 1) * B k)
    show be B k * B k * _ + _ + _ = _
    by_cases z : k = 0
    · subst z; rw [if_pos rfl, if_pos rfl]; grind
    · obtain ⟨i, rfl⟩ : ∃ i, k = i + 1 := ⟨k - 1, by omega⟩
      rw [if_neg z, if_neg z, Nat.add_sub_cancel, M_W a i]
      show be B i * B i * B (i + 1) * _ + A (i + 1) * (be B i * B i * _) + B i * (be B i * _) = be B i * B i * _
      grind
theorem tri (X : Nat → Nat → Rat) : ∀ N, sumN (fun t => sumN (fun a => X a (t - a)) (t + 1)) N = sumN (fun a => sumN (fun b => X a b) (N - a)) N
  | 0 => rfl
  | N + 1 => by
    show sumN (fun t => sumN (fun a => X a (t - a)) (t + 1)) N + sumN (fun a => X a (N - a)) (N + 1) = sumN (fun a => sumN (fun b => X a b) (N + 1 - a)) N + sumN (fun b => X N b) (N + 1 - N)
    rw [tri X N]
    have e : sumN (fun a => sumN (fun b => X a b) (N + 1 - a)) N = sumN (fun a => sumN (fun b => X a b) (N - a) + X a (N - a)) N := sumN_cg fun a ha => by
      rw [show N + 1 - a = N - a + 1 by omega]; rfl
    rw [e, sumN_add, show N + 1 - N = 1 by omega]
    show _ + (sumN (fun a => X a (N - a)) N + X N (N - N)) = _ + _ + (0 + X N 0)
    rw [Nat.sub_self]; grind
theorem mean_P (i j : Nat) {N : Nat} (hN : i + j + 1 ≤ N) : sumN (fun t => cv (P A B i) (P A B j) t * W A B t 0) N = if i = j then be B i else 0 := by
  have e1 : sumN (fun t => cv (P A B i) (P A B j) t * W A B t 0) N = sumN (fun t => sumN (fun a => P A B i a * P A B j (t - a) * W A B (a + (t - a)) 0) (t + 1)) N := sumN_cg fun t _ => by
    unfold cv
    rw [Rat.mul_comm, ← sumN_mul]
    refine sumN_cg fun a ha => ?_
    rw [show a + (t - a) = t by omega]; grind
  rw [e1, tri (fun a b => P A B i a * P A B j b * W A B (a + b) 0)]
  have e2 : sumN (fun a => sumN (fun b => P A B i a * P A B j b * W A B (a + b) 0) (N - a)) N = sumN (fun a => P A B i a * M A B a j) N := sumN_cg fun a ha => by
    by_cases h : i < a
    · rw [P_z A B i a h, Rat.zero_mul]
      exact sz fun b _ => by rw [Rat.zero_mul, Rat.zero_mul]
    · rw [← M_N A B (a := a) (k := j) (N := N - a) (by omega), ← sumN_mul]
      exact sumN_cg fun b _ => by grind
  rw [e2]
  have e3 : sumN (fun a => P A B i a * M A B a j) N = be B j * S A B (P A B i) N j := by
    unfold S
    rw [← sumN_mul]
    exact sumN_cg fun a _ => by rw [M_W]; grind
  rw [e3, S_N A B (p := P A B i) (n := i + 1) (fun b hb => P_z A B i b (by omega)) (by omega), S_P]
  unfold ee
  by_cases h : i = j
  · subst h; rw [if_pos rfl, if_pos rfl, Rat.mul_one]
  · rw [if_neg (by omega), if_neg h, Rat.mul_zero]
def Qf (k e : Nat) : Rat := sumN (fun l => P A B k (e + 1 + l) * W A B l 0) k
theorem Qf_N {k e N : Nat} (hN : k ≤ N + e) : sumN (fun l => P A B k (e + 1 + l) * W A B l 0) N = Qf A B k e := by
  have h : ∀ n, k ≤ n + e → sumN (fun l => P A B k (e + 1 + l) * W A B l 0) n = sumN (fun l => P A B k (e + 1 + l) * W A B l 0) (k - e) := fun n hn =>
    sumN_zero (fun l hl => by rw [P_z A B k _ (by omega), Rat.zero_mul]) (by omega)
  unfold Qf
  rw [h N hN, h k (by omega)]
theorem Qf_Q : ∀ k e, Qf A B k e = Q A B k e
  | 0, e => rfl
  | 1, e => by
    show (0 : Rat) + (up on (e + 1 + 0) - A 0 * on (e + 1 + 0)) * on 0 = on e
    rw [Nat.add_zero, up_s, show on (e + 1) = 0 from if_neg (by omega), show on 0 = 1 from rfl]; grind
  | k + 2, e => by
    have q1 := Qf_Q (k + 1)
    have q0 := Qf_Q k
    have s : Qf A B (k + 2) e = sumN (fun l => P A B (k + 1) (e + l) * W A B l 0) (k + 2) + -A (k + 1) * Q A B (k + 1) e + -B k * Q A B k e := by
      rw [← q1, ← q0, ← Qf_N A B (k := k + 1) (e := e) (N := k + 2) (by omega), ← Qf_N A B (k := k) (e := e) (N := k + 2) (by omega), ← sumN_mul, ← sumN_mul, ← sumN_add, ← sumN_add]
      unfold Qf
      refine sumN_cg fun l _ => ?_
      show (up (P A B (k + 1)) (e + 1 + l) - A (k + 1) * P A B (k + 1) (e + 1 + l) - B k * P A B k (e + 1 + l)) * W A B l 0 = _
      rw [show up (P A B (k + 1)) (e + 1 + l) = P A B (k + 1) (e + l) by rw [show e + 1 + l = e + l + 1 by omega]; rfl]
      grind
    rw [s]
    have u : sumN (fun l => P A B (k + 1) (e + l) * W A B l 0) (k + 2) = up (Q A B (k + 1)) e := by
      cases e with
      | zero =>
        rw [up_0]
        have m := M_0 A B (k + 1)
        unfold M at m
        rw [show on (k + 1) = 0 from if_neg (by omega)] at m
        rw [← m]
        exact sumN_cg fun l _ => by rw [Nat.zero_add]
      | succ e => rw [up_s, ← q1, ← Qf_N A B (k := k + 1) (e := e) (N := k + 2) (by omega)]
    rw [u]
    show _ = up (Q A B (k + 1)) e - A (k + 1) * Q A B (k + 1) e - B k * Q A B k e
    grind
def R (k t j : Nat) : Rat := sumN (fun l => P A B k (k - j + l) * W A B (t + l) 0) (j + 1)
theorem R_0 (k t : Nat) : R A B k t 0 = W A B t 0 := by
  show (0 : Rat) + P A B k (k - 0 + 0) * W A B (t + 0) 0 = _
  rw [Nat.sub_zero, Nat.add_zero, Nat.add_zero, P_1]; grind
theorem R_q {k j : Nat} (hj : j < k) : Q A B k (k - 1 - j) = R A B k 0 j := by
  rw [← Qf_Q, ← Qf_N A B (k := k) (e := k - 1 - j) (N := j + 1) (by omega)]
  unfold R
  exact sumN_cg fun l hl => by rw [show k - 1 - j + 1 + l = k - j + l by omega, Nat.zero_add]
theorem R_s {k t j : Nat} (hj : j < k) : R A B k t (j + 1) - W A B t 0 * P A B k (k - (j + 1)) = R A B k (t + 1) j := by
  unfold R
  rw [sumN_head, Nat.add_zero, Nat.add_zero]
  have e : sumN (fun l => P A B k (k - (j + 1) + (l + 1)) * W A B (t + (l + 1)) 0) (j + 1) = sumN (fun l => P A B k (k - j + l) * W A B (t + 1 + l) 0) (j + 1) := sumN_cg fun l hl => by
    rw [show k - (j + 1) + (l + 1) = k - j + l by omega, show t + (l + 1) = t + 1 + l by omega]
  rw [e]; grind
theorem R_k {k t : Nat} (h : t < k) : R A B k t k = 0 := by
  have m := M_W A B t k
  rw [W_z A B t k h, Rat.mul_zero] at m
  rw [← m]
  unfold R M
  exact sumN_cg fun l _ => by rw [Nat.sub_self, Nat.zero_add]
end
end
end PO
end

section
set_option Elab.async false
set_option linter.all false
set_option maxRecDepth 100000
set_option maxHeartbeats 4000000
open PySem Pv Tv
namespace L37
open L04 (row row_len row_get row_nth row_app row_cg row_self row_map row_flat row_set loop_ix sumN sumN_cg sumN_head sumN_zero sumN_rev sumN_bd enumT_row mem_row num_0)
open FPS PL
open PO (W W_z P P_z P_1 Q Q_z Q_1 be)
noncomputable section
theorem Let_eq {α β : Sort _} (x : α) (f : α → β) : Let x f = f x := rfl
theorem rngA (a b : Nat) : rng a b = row (b - a) fun i => a + i := rfl
theorem scP_nth (f : List Rat) (c : Rat) (k : Nat) : nth (scP f c) k = nth f k * c := by
  unfold scP
  rw [tr_nth]
  by_cases h : k < f.length
  · rw [nth_eq (by rw [List.length_map]; exact h), List.getElem_map, nth_eq h]
  · rw [nth_ge (by rw [List.length_map]; omega), nth_ge (xs := f) (by omega)]; grind
theorem sumP_nth (f g : List Rat) (k : Nat) : nth (sumP f g) k = nth f k + nth g k := by
  unfold sumP
  rw [tr_nth, nth_row]
  split
  · rfl
  · rw [nth_ge (xs := f) (by omega), nth_ge (xs := g) (by omega)]; grind
theorem scP_len (f : List Rat) (c : Rat) : (scP f c).length ≤ f.length := by
  have := tr_len (f.map fun q => q * c)
  rw [List.length_map] at this
  exact this
theorem sumP_len (f g : List Rat) : (sumP f g).length ≤ max f.length g.length := by
  have := tr_len (row (max f.length g.length) fun k => nth f k + nth g k)
  rw [row_len] at this
  exact this
theorem scP_tr (f : List Rat) (c : Rat) : Tr (scP f c) := tr_tr _
theorem sumP_tr (f g : List Rat) : Tr (sumP f g) := tr_tr _
theorem prP_tr (f g : List Rat) : Tr (prP f g) := tr_tr _
theorem eq_of {f g : List Rat} (hf : Tr f) (hg : Tr g) (h : ∀ k, nth f k = nth g k) : f = g := hf.symm.trans ((tr_ext h).trans hg)
structure Pb (f : List Rat) (n E M : Nat) : Prop where
  t : Tr f
  l : f.length ≤ n
  b : ∀ i, Bd E M (nth f i)
structure Ok (n E M : Nat) : Prop where
  n : n ≤ 30
  e : E < 2 ^ 2000
  m : M < 2 ^ 2000
section
variable {f g : List Rat} {n n' E M E' M' : Nat}
theorem Pb.sm (H : Pb f n E M) (K : Ok n E M) (i : Nat) : Sm (nth f i) := (H.b i).sm K.e K.m
theorem Pb.py (H : Pb f n E M) (K : Ok n E M) : Py f := ⟨H.t, by have := H.l; have := K.n; omega, sm_of_nth (H.sm K)⟩
theorem pscal_ok (H : Pb f n E M) (K : Ok n E M) {c : Rat} (hc : Bd 60 4 c) : SC_poly_scaled f c ∧ T_poly_scaled f c = scP f c ∧ Pb (scP f c) n (60 * E) (4 * M) := by
  have sc : Sm c := hc.sm (by decide) (by decide)
  have a := scal_ok (H.py K).s sc (by have := H.l; have := K.n; omega)
  refine ⟨⟨chk1 (H.py K), ⟨ratOk_Q sc, by rw [isRatD_Q]; rfl⟩, a.1⟩, a.2, scP_tr _ _, Nat.le_trans (scP_len _ _) H.l, fun i => ?_⟩
  rw [scP_nth, Rat.mul_comm]; exact hc.mul (H.b i)
theorem lpscal_ok (H : Pb f n E M) (K : Ok n E M) {c : Rat} (hc : Bd 60 4 c) : SC__law_poly_scaled f c ∧ T__law_poly_scaled f c = scP f c ∧ Pb (scP f c) n (60 * E) (4 * M) := by
  have sc : Sm c := hc.sm (by decide) (by decide)
  have a := lscal_ok (H.py K).s sc (by have := H.l; have := K.n; omega)
  refine ⟨a.1, a.2, scP_tr _ _, Nat.le_trans (scP_len _ _) H.l, fun i => ?_⟩
  rw [scP_nth, Rat.mul_comm]; exact hc.mul (H.b i)
theorem sum_pb (H : Pb f n E M) (G : Pb g n E M') : Pb (sumP f g) n E (M + M') := ⟨sumP_tr _ _, Nat.le_trans (sumP_len _ _) (Nat.max_le.2 ⟨H.l, G.l⟩), fun i => by rw [sumP_nth]; exact (H.b i).add (G.b i)⟩
theorem lpadd_ok (H : Pb f n E M) (G : Pb g n E M') (K : Ok n E M) (K' : Ok n E M') : SC__law_poly_add f g ∧ T__law_poly_add f g = sumP f g ∧ Pb (sumP f g) n E (M + M') := by
  have a := lsum_ok (H.sm K) (G.sm K') (by have := H.l; have := K.n; omega) (by have := G.l; have := K.n; omega)
  exact ⟨a.1, a.2, sum_pb H G⟩
theorem pless_ok (H : Pb f n E M) (G : Pb g n E M') (K : Ok n E M) (K' : Ok n E M') : SC_poly_less f g ∧ T_poly_less f g = sumP f (scP g (((-(1 : Int)) : Int) : Rat)) ∧ Pb (sumP f (scP g (((-(1 : Int)) : Int) : Rat))) n E (M + M') := by
  have ln := H.l
  have ln' := G.l
  have kn := K.n
  have sc : Sm (((-(1 : Int)) : Int) : Rat) := (Bd.int (-1)).sm (by decide) (by decide)
  have s := scal_ok (G.py K').s sc (by omega)
  have sb : Pb (scP g (((-(1 : Int)) : Int) : Rat)) n E M' := ⟨scP_tr _ _, Nat.le_trans (scP_len _ _) ln', fun i => by
    rw [scP_nth]
    have e : nth g i * (((-(1 : Int)) : Int) : Rat) = -nth g i := by
      show nth g i * (-1 : Rat) = _
      grind
    rw [e]; exact (G.b i).neg⟩
  have a := add_ok (H.sm K) (sb.sm K') (by omega) (by have := sb.l; omega)
  unfold SC_poly_less T_poly_less
  rw [s.2]
  exact ⟨⟨chk2 (H.py K) (G.py K'), s.1, a.1⟩, a.2, sum_pb H sb⟩
theorem prod_pb (H : Pb f n E M) (G : Pb g n' E' M') (K : Ok (n + n') (E * E') (100 * (M * M'))) (k : Ok n E M) (k' : Ok n' E' M') : Sz E M E' M' f g ∧ Pb (prP f g) (n + n') (E * E') (90 * (M * M')) := by
  have s : Sz E M E' M' f g := ⟨H.b, G.b, by have := H.l; have := k.n; omega, by have := G.l; have := k'.n; omega, K.e, K.m, k.e, k.m, k'.e, k'.m⟩
  exact ⟨s, prP_tr _ _, Nat.le_trans (prP_len _ _) (Nat.add_le_add H.l G.l), pr_bd s⟩
theorem pprod_ok (H : Pb f n E M) (G : Pb g n' E' M') (K : Ok (n + n') (E * E') (100 * (M * M'))) (k : Ok n E M) (k' : Ok n' E' M') : SC_poly_product f g ∧ T_poly_product f g = prP f g := by
  have s := (prod_pb H G K k k').1
  have t := times_ok s
  exact ⟨⟨chk2 (H.py k) (G.py k'), t.1⟩, t.2⟩
end
structure Ro (a b : List Rat) (k : Nat) : Prop where
  la : a.length = k
  hk : k ≤ 6
  lb : k - 1 ≤ b.length
  hb : b.length ≤ 7
  ba : ∀ i, Bd 60 4 (nth a i)
  bb : ∀ i, Bd 60 4 (nth b i)
section
variable {a b : List Rat} (ba : ∀ i, Bd 60 4 (nth a i)) (bb : ∀ i, Bd 60 4 (nth b i))
include ba bb
theorem W_bd : ∀ t h, Bd (60 ^ t) (9 ^ t) (W (nth a) (nth b) t h)
  | 0, h => by
    show Bd 1 1 (on h)
    unfold on
    split
    · exact Bd.int 1
    · exact Bd.zero (by decide)
  | t + 1, h => by
    show Bd _ _ (W (nth a) (nth b) t h * nth a h + (if h = 0 then 0 else W (nth a) (nth b) t (h - 1)) + W (nth a) (nth b) t (h + 1) * nth b h)
    have x := (W_bd t h).mul (ba h)
    have y : Bd (60 ^ t * 60) (9 ^ t) (if h = 0 then 0 else W (nth a) (nth b) t (h - 1)) := by
      split
      · exact Bd.zero (Nat.mul_pos (Nat.pow_pos (by decide)) (by decide))
      · exact (W_bd t (h - 1)).dvd (Nat.dvd_mul_right _ _) (Nat.mul_pos (Nat.pow_pos (by decide)) (by decide))
    have z := (W_bd t (h + 1)).mul (bb h)
    refine ((x.add y).add z).mono ?_
    rw [Nat.pow_succ]; omega
theorem P_bd : ∀ k j, Bd (60 ^ k) (9 ^ k) (P (nth a) (nth b) k j)
  | 0, j => by
    show Bd 1 1 (on j)
    unfold on
    split
    · exact Bd.int 1
    · exact Bd.zero (by decide)
  | 1, j => by
    have o : ∀ j, Bd 1 1 (on j) := fun j => by
      unfold on
      split
      · exact Bd.int 1
      · exact Bd.zero (by decide)
    have u : Bd 60 1 (up on j) := by
      cases j with
      | zero => exact Bd.zero (by decide)
      | succ j => exact (o j).dvd ⟨60, rfl⟩ (by decide)
    exact (u.sub ((ba 0).mul (o j))).mono (by decide)
  | k + 2, j => by
    have u : Bd (60 ^ (k + 1) * 60) (9 ^ (k + 1)) (up (P (nth a) (nth b) (k + 1)) j) := by
      cases j with
      | zero => exact Bd.zero (Nat.mul_pos (Nat.pow_pos (by decide)) (by decide))
      | succ j => exact (P_bd (k + 1) j).dvd (Nat.dvd_mul_right _ _) (Nat.mul_pos (Nat.pow_pos (by decide)) (by decide))
    have x := (ba (k + 1)).mul (P_bd (k + 1) j)
    have y := ((bb k).mul (P_bd k j)).dvd (F := 60 * 60 ^ (k + 1)) (Nat.mul_dvd_mul_left _ (Nat.pow_dvd_pow _ (Nat.le_succ k))) (Nat.mul_pos (by decide) (Nat.pow_pos (by decide)))
    rw [Nat.mul_comm 60] at x y
    refine ((u.sub x).sub y).mono ?_
    rw [Nat.pow_succ 9 (k + 1), Nat.pow_succ 9 k]; omega
theorem Q_bd : ∀ k j, Bd (60 ^ k) (9 ^ k) (Q (nth a) (nth b) k j)
  | 0, j => Bd.zero (by decide)
  | 1, j => by
    show Bd _ _ (on j)
    unfold on
    split
    · exact ((Bd.int 1).dvd (F := 60) ⟨60, rfl⟩ (by decide)).mono (by decide)
    · exact Bd.zero (by decide)
  | k + 2, j => by
    have u : Bd (60 ^ (k + 1) * 60) (9 ^ (k + 1)) (up (Q (nth a) (nth b) (k + 1)) j) := by
      cases j with
      | zero => exact Bd.zero (Nat.mul_pos (Nat.pow_pos (by decide)) (by decide))
      | succ j => exact (Q_bd (k + 1) j).dvd (Nat.dvd_mul_right _ _) (Nat.mul_pos (Nat.pow_pos (by decide)) (by decide))
    have x := (ba (k + 1)).mul (Q_bd (k + 1) j)
    have y := ((bb k).mul (Q_bd k j)).dvd (F := 60 * 60 ^ (k + 1)) (Nat.mul_dvd_mul_left _ (Nat.pow_dvd_pow _ (Nat.le_succ k))) (Nat.mul_pos (by decide) (Nat.pow_pos (by decide)))
    rw [Nat.mul_comm 60] at x y
    refine ((u.sub x).sub y).mono ?_
    rw [Nat.pow_succ 9 (k + 1), Nat.pow_succ 9 k]; omega
end
abbrev pl (a b : List Rat) (k : Nat) : List Rat := row (k + 1) (P (nth a) (nth b) k)
abbrev ql (a b : List Rat) (k : Nat) : List Rat := row k (Q (nth a) (nth b) k)
theorem pl_nth (a b : List Rat) (k j : Nat) : nth (pl a b k) j = P (nth a) (nth b) k j := by
  rw [nth_row]
  split
  · rfl
  · rw [P_z _ _ _ _ (by omega)]
theorem ql_nth (a b : List Rat) (k j : Nat) : nth (ql a b k) j = Q (nth a) (nth b) k j := by
  rw [nth_row]
  split
  · rfl
  · rw [Q_z _ _ _ _ (by omega)]
theorem pl_tr (a b : List Rat) (k : Nat) : Tr (pl a b k) := Tr.of_last (.inr (by rw [row_len, Nat.add_sub_cancel, pl_nth, P_1]; decide +kernel))
theorem ql_tr (a b : List Rat) (k : Nat) : Tr (ql a b k) := by
  cases k with
  | zero => exact Tr.of_last (.inl rfl)
  | succ k => exact Tr.of_last (.inr (by rw [row_len, Nat.add_sub_cancel, ql_nth, Q_1]; decide +kernel))
abbrev EP : Nat := 60 ^ 6
abbrev MP : Nat := 9 ^ 6
theorem okp : Ok 7 EP MP := ⟨by decide, by decide, by decide⟩
section
variable {a b : List Rat} {k : Nat} (H : Ro a b k)
include H
theorem Ro.pb {i : Nat} (hi : i ≤ k) : Pb (pl a b i) 7 EP MP := ⟨pl_tr a b i, by rw [row_len]; have := H.hk; omega, fun j => by
  have := H.hk
  rw [pl_nth]
  exact ((P_bd H.ba H.bb i j).dvd (Nat.pow_dvd_pow _ (by omega)) (by decide)).mono (Nat.pow_le_pow_right (by decide) (by omega))⟩
theorem Ro.qb {i : Nat} (hi : i ≤ k) : Pb (ql a b i) 7 EP MP := ⟨ql_tr a b i, by rw [row_len]; have := H.hk; omega, fun j => by
  have := H.hk
  rw [ql_nth]
  exact ((Q_bd H.ba H.bb i j).dvd (Nat.pow_dvd_pow _ (by omega)) (by decide)).mono (Nat.pow_le_pow_right (by decide) (by omega))⟩
end
abbrev X1 : List Rat := [(((0 : Int) : Rat)), (((1 : Int) : Rat))]
theorem X1_nth (f : List Rat) (j : Nat) : cv (nth X1) (nth f) j = up (nth f) j := by
  cases j with
  | zero => rw [cv_0]; show (0 : Rat) * _ = 0; exact Rat.zero_mul _
  | succ j =>
    rw [cv_s]
    have e : sh (nth X1) = on := funext fun i => by
      match i with
      | 0 => rfl
      | i + 1 => show nth X1 (i + 2) = on (i + 1); rw [show on (i + 1) = 0 from if_neg (by omega)]; exact nth_ge (by show 2 ≤ i + 2; omega)
    rw [e, cv_one]
    show (0 : Rat) * _ + nth f j = nth f j
    grind
theorem x1_pb : Pb X1 2 1 1 := ⟨Tr.of_last (.inr (by show (((1 : Int) : Rat)) ≠ 0; decide +kernel)), by decide, fun i => by
  match i with
  | 0 => exact Bd.int 0 |>.mono (by decide)
  | 1 => exact Bd.int 1
  | i + 2 => rw [nth_ge (by show 2 ≤ i + 2; omega)]; exact Bd.zero (by decide)⟩
theorem okx : Ok 2 1 1 := ⟨by decide, by decide, by decide⟩
section
variable {f g h : List Rat} (F : Pb f 7 EP MP) (G : Pb g 7 EP MP) {x y : Rat} (hx : Bd 60 4 x) (hy : Bd 60 4 y) (ht : Tr h) (hl : ∀ j, nth h j = up (nth f) j - x * nth f j - y * nth g j)
include F G hx hy ht hl
theorem next_ok : SC_next_polynomial f g x y ∧ T_next_polynomial f g x y = h := by
  have p := pprod_ok x1_pb F (by constructor <;> decide) okx okp
  have pb := (prod_pb x1_pb F (by constructor <;> decide) okx okp).2
  have pb' : Pb (prP X1 f) 9 (60 * EP) (90 * (1 * MP)) := ⟨pb.t, pb.l, fun i => (pb.b i).dvd (by rw [Nat.one_mul]; exact Nat.dvd_mul_left _ _) (by decide)⟩
  have s1 := pscal_ok F okp hx
  have s2 := pscal_ok G okp hy
  have s1b : Pb (scP f x) 9 (60 * EP) (4 * MP) := ⟨s1.2.2.t, by have := s1.2.2.l; omega, s1.2.2.b⟩
  have s2b : Pb (scP g y) 9 (60 * EP) (4 * MP) := ⟨s2.2.2.t, by have := s2.2.2.l; omega, s2.2.2.b⟩
  have l1 := pless_ok pb' s1b (by constructor <;> decide) (by constructor <;> decide)
  have l2 := pless_ok l1.2.2 s2b (by constructor <;> decide) (by constructor <;> decide)
  have e1 : T_poly_product X1 f = prP X1 f := p.2
  unfold SC_next_polynomial T_next_polynomial
  repeat rw [Let_eq]
  rw [e1, s1.2.1, l1.2.1, s2.2.1, l2.2.1]
  refine ⟨⟨p.1, s1.1, l1.1, s2.1, l2.1⟩, eq_of (sumP_tr _ _) ht fun j => ?_⟩
  have m1 : (((-(1 : Int)) : Int) : Rat) = -1 := rfl
  rw [hl, sumP_nth, sumP_nth, scP_nth, scP_nth, scP_nth, scP_nth, prP_nth, X1_nth, m1]
  grind
end
end
end L37
end

section
set_option Elab.async false
set_option linter.all false
set_option maxRecDepth 100000
set_option maxHeartbeats 4000000
open PySem Pv Tv
namespace L37
open L04 (row row_len row_get row_nth row_app row_cg row_self row_map row_flat row_set loop_ix sumN sumN_cg sumN_head sumN_zero sumN_rev sumN_bd enumT_row mem_row num_0)
open FPS PL
open PO (W W_z P P_z P_1 Q Q_z Q_1 be)
noncomputable section
theorem hlim' : (lim : Nat) = 16000000 := rfl
theorem irr_t {xs : List Rat} (hl : xs.length ≤ 12) (hs : ∀ q ∈ xs, Sm q) : SC_check_row (eT eQ xs) := by
  have hL := hlim'
  have v := vok_Q hs (by omega)
  have l : (tupOf (eT eQ xs)).length = xs.length := List.length_map _
  have a : ((tupOf (eT eQ xs)).map T_check_row_c1).all id = true := by
    rw [List.all_eq_true]
    intro b hb
    obtain ⟨d, hd, e⟩ := List.mem_map.1 hb
    obtain ⟨q, hq, e'⟩ := List.mem_map.1 hd
    rw [← e, ← e']; exact isRatD_Q q
  refine ⟨rfl, fun _ => ⟨rfl, fun _ => ⟨rfl, v.r, v.l⟩⟩, ?_⟩
  rw [a, decide_eq_false (show ¬ 12 < (tupOf (eT eQ xs)).length by rw [l]; omega)]
  rfl
section
variable {a b : List Rat} {k : Nat} (H : Ro a b k)
include H
theorem Ro.as : ∀ q ∈ a, Sm q := sm_of_nth fun i => (H.ba i).sm (by decide) (by decide)
theorem Ro.bs : ∀ q ∈ b, Sm q := sm_of_nth fun i => (H.bb i).sm (by decide) (by decide)
theorem Ro.ca : SC_check_row (eT eQ a) := irr_t (by have := H.la; have := H.hk; omega) H.as
theorem Ro.cb : SC_check_row (eT eQ b) := irr_t (by have := H.hb; omega) H.bs
end
section
variable {a b : List Rat} {k : Nat} (H : Ro a b k)
include H
theorem P1_l {i : Nat} (hi : i < k) : SC_polynomials_of_l1 a b (row (i + 1) (pl a b), row (i + 1) (ql a b)) i ∧ T_polynomials_of_l1 a b (row (i + 1) (pl a b), row (i + 1) (ql a b)) i = (row (i + 2) (pl a b), row (i + 2) (ql a b)) := by
  have hL := hlim'
  have hk := H.hk
  have la := H.la
  have lb := H.lb
  have np : ∀ j ≤ i, Tv.nth (row (i + 1) (pl a b)) j = pl a b j := fun j hj => row_nth (by omega)
  have nq : ∀ j ≤ i, Tv.nth (row (i + 1) (ql a b)) j = ql a b j := fun j hj => row_nth (by omega)
  unfold SC_polynomials_of_l1 T_polynomials_of_l1
  repeat rw [Let_eq]
  cases i with
  | zero =>
    have e0 : Pb ([] : List Rat) 7 EP MP := ⟨Tr.of_last (.inl rfl), by decide, fun i => by rw [nth_nil]; exact Bd.zero (by decide)⟩
    have z : Bd 60 4 (((0 : Int) : Rat)) := Bd.zero (by decide)
    have n := next_ok (f := pl a b 0) (g := []) (h := pl a b 1) (H.pb (by omega)) e0 (H.ba 0) z (pl_tr a b 1) fun j => by
      rw [pl_nth]
      have e1 : nth (pl a b 0) = on := funext fun j => pl_nth a b 0 j
      rw [e1, nth_nil]
      show up on j - nth a 0 * on j = up on j - nth a 0 * on j - _ * 0
      grind
    rw [np 0 (by omega), n.2]
    refine ⟨⟨fun _ => ⟨by rw [row_len]; omega, by omega, n.1, by rw [row_len]; omega, by rw [row_len]; omega⟩, fun h => (by cases h)⟩, ?_⟩
    show (row 1 (pl a b) ++ [pl a b 1], row 1 (ql a b) ++ [[(((1 : Int) : Rat))]]) = _
    rw [row_app (F := pl a b)]
    have : ([(((1 : Int) : Rat))] : List Rat) = ql a b 1 := rfl
    rw [this, row_app (F := ql a b)]
  | succ i =>
    have n := next_ok (f := pl a b (i + 1)) (g := pl a b i) (h := pl a b (i + 2)) (H.pb (by omega)) (H.pb (by omega)) (H.ba (i + 1)) (H.bb i) (pl_tr a b _) fun j => by
      rw [pl_nth, pl_nth, pl_nth, show nth (pl a b (i + 1)) = P (nth a) (nth b) (i + 1) from funext (pl_nth a b (i + 1))]; rfl
    have m := next_ok (f := ql a b (i + 1)) (g := ql a b i) (h := ql a b (i + 2)) (H.qb (by omega)) (H.qb (by omega)) (H.ba (i + 1)) (H.bb i) (ql_tr a b _) fun j => by
      rw [ql_nth, ql_nth, ql_nth, show nth (ql a b (i + 1)) = Q (nth a) (nth b) (i + 1) from funext (ql_nth a b (i + 1))]; rfl
    rw [np (i + 1) (by omega), np (i + 1 - 1) (by omega), nq (i + 1) (by omega), nq (i + 1 - 1) (by omega), Nat.add_sub_cancel, n.2, m.2]
    refine ⟨⟨fun h => absurd (of_decide_eq_true h) (by omega), fun _ => ⟨by rw [row_len]; omega, by omega, by rw [row_len]; omega, by omega, by omega, n.1, by rw [row_len]; omega, by rw [row_len]; omega, by omega, by rw [row_len]; omega, by omega, by omega, m.1, by rw [row_len]; omega⟩⟩, ?_⟩
    rw [decide_eq_false (show ¬ i + 1 = 0 by omega)]
    show (row (i + 1 + 1) (pl a b) ++ [pl a b (i + 2)], row (i + 1 + 1) (ql a b) ++ [ql a b (i + 2)]) = _
    rw [row_app (F := pl a b), row_app (F := ql a b)]
theorem pols_ok : SC_polynomials_of a b ∧ T_polynomials_of a b = (row (k + 1) (pl a b), row (k + 1) (ql a b)) := by
  have hL := hlim'
  have hk := H.hk
  have la := H.la
  have lp := loop_ix (S := SC_polynomials_of_l1 a b) (step := T_polynomials_of_l1 a b) (fun i => (row (i + 1) (pl a b), row (i + 1) (ql a b))) (bs := List.range a.length) (s := ([([(((1 : Int) : Rat))] : List Rat)], [([] : List Rat)])) rfl fun i hi => by
    rw [List.length_range] at hi
    rw [List.getElem_range]
    exact P1_l H (by omega)
  have en := lp.2
  rw [List.length_range] at en
  unfold SC_polynomials_of T_polynomials_of
  repeat rw [Let_eq]
  rw [en, la]
  exact ⟨⟨by omega, by rw [← la]; exact lp.1⟩, rfl⟩
theorem orth_ok : SC_orthogonal_polynomials a b ∧ T_orthogonal_polynomials a b = (row (k + 1) (pl a b), row (k + 1) (ql a b)) := by
  have p := pols_ok H
  have la := H.la
  have lb := H.lb
  exact ⟨⟨H.ca, H.cb, decide_eq_false (by omega), p.1⟩, p.2⟩
theorem st_nth (c : Rat) (f : List Rat) (s : List Rat) (hs : ∀ j, nth s j = nth X1 j + c * on j) (j : Nat) : nth (prP s f) j = up (nth f) j + c * nth f j := by
  rw [prP_nth]
  have e : nth s = fun j => nth X1 j + c * on j := funext hs
  rw [e, cv_addL (nth X1) (fun j => c * on j), cv_mulL, X1_nth, cv_one]
theorem L1_l {i : Nat} (hi : i < k) : SC__law_recursion_l1 a b X1 (row (i + 1) (pl a b), row (i + 1) (ql a b)) i ∧ T__law_recursion_l1 a b X1 (row (i + 1) (pl a b), row (i + 1) (ql a b)) i = (row (i + 2) (pl a b), row (i + 2) (ql a b)) := by
  have hL := hlim'
  have hk := H.hk
  have la := H.la
  have lb := H.lb
  have z0 : (((0 : Int) : Rat)) = 0 := rfl
  have np : ∀ j ≤ i, Tv.nth (row (i + 1) (pl a b)) j = pl a b j := fun j hj => row_nth (by omega)
  have nq : ∀ j ≤ i, Tv.nth (row (i + 1) (ql a b)) j = ql a b j := fun j hj => row_nth (by omega)
  have neg : ∀ {x : Rat}, Bd 60 4 x → Bd 60 4 ((((0 : Int) : Rat)) - x) := fun {x} h => by
    have e : (((0 : Int) : Rat)) - x = -x := by rw [z0]; grind
    rw [e]; exact h.neg
  have sz : Sm (((0 : Int) : Rat)) := Sm.zero
  have o1 : Pb ([(((1 : Int) : Rat))] : List Rat) 2 1 1 := ⟨pl_tr a b 0, by decide, fun j => by
    show Bd 1 1 (nth (pl a b 0) j)
    rw [pl_nth]
    show Bd 1 1 (on j)
    unfold on
    split
    · exact Bd.int 1
    · exact Bd.zero (by decide)⟩
  have on1 : ∀ j, nth ([(((1 : Int) : Rat))] : List Rat) j = on j := fun j => pl_nth a b 0 j
  have s1 := lpscal_ok o1 okx (neg (H.ba i))
  have x60 : Pb X1 2 60 1 := ⟨x1_pb.t, x1_pb.l, fun j => (x1_pb.b j).dvd ⟨60, rfl⟩ (by decide)⟩
  have st := lpadd_ok x60 s1.2.2 (by constructor <;> decide) (by constructor <;> decide)
  obtain ⟨st1, st2, st3⟩ := st
  have hs : ∀ j, nth (sumP X1 (scP [(((1 : Int) : Rat))] ((((0 : Int) : Rat)) - nth a i))) j = nth X1 j + -(nth a i) * on j := fun j => by
    rw [sumP_nth, scP_nth, on1, z0]; grind
  generalize sumP X1 (scP [(((1 : Int) : Rat))] ((((0 : Int) : Rat)) - nth a i)) = s at *
  have tp : ∀ {f : List Rat}, Pb f 7 EP MP → SC__law_poly_times s f ∧ T__law_poly_times s f = prP s f ∧ Pb (prP s f) 9 (60 * EP) (90 * (5 * MP)) := fun {f} F => by
    have p := prod_pb st3 F (by constructor <;> decide) (by constructor <;> decide) okp
    have t := ltimes_ok p.1
    exact ⟨t.1, t.2, p.2⟩
  have sb : ∀ {f : List Rat}, Pb f 7 EP MP → ∀ {c : Rat}, Bd 60 4 c → SC__law_poly_scaled f c ∧ T__law_poly_scaled f c = scP f c ∧ Pb (scP f c) 9 (60 * EP) (4 * MP) := fun {f} F {c} hc => by
    have t := lpscal_ok F okp hc
    exact ⟨t.1, t.2.1, t.2.2.t, by have := t.2.2.l; omega, t.2.2.b⟩
  have add : ∀ {f g : List Rat}, Pb f 9 (60 * EP) (90 * (5 * MP)) → Pb g 9 (60 * EP) (4 * MP) → SC__law_poly_add f g ∧ T__law_poly_add f g = sumP f g := fun {f g} F G => by
    have t := lpadd_ok F G (by constructor <;> decide) (by constructor <;> decide)
    exact ⟨t.1, t.2.1⟩
  have fi := tp (H.pb (i := i) (by omega))
  have qi := tp (H.qb (i := i) (by omega))
  unfold SC__law_recursion_l1 T__law_recursion_l1
  rw [s1.2.1, st2]
  repeat rw [Let_eq]
  rw [np i (by omega), nq i (by omega), fi.2.1, qi.2.1]
  repeat rw [Let_eq]
  cases i with
  | zero =>
    refine ⟨⟨by omega, sz, (H.ba 0).sm (by decide) (by decide), s1.1, st1, by rw [row_len]; omega, fi.1, fun h => (by cases h), fun h => (by cases h), by rw [row_len]; omega, by rw [row_len]; omega⟩, ?_⟩
    have e : prP s (pl a b 0) = pl a b 1 := eq_of (prP_tr _ _) (pl_tr a b 1) fun j => by
      rw [st_nth H (-(nth a 0)) _ s hs, pl_nth, pl_nth, show nth (pl a b 0) = on from funext (pl_nth a b 0)]
      show up on j + -(nth a 0) * on j = up on j - nth a 0 * on j
      grind
    show (row 1 (pl a b) ++ [prP s (pl a b 0)], row 1 (ql a b) ++ [[(((1 : Int) : Rat))]]) = _
    rw [e, row_app (F := pl a b)]
    have : ([(((1 : Int) : Rat))] : List Rat) = ql a b 1 := rfl
    rw [this, row_app (F := ql a b)]
  | succ i =>
    have c := neg (H.bb i)
    have cp := sb (H.pb (i := i) (by omega)) c
    have cq := sb (H.qb (i := i) (by omega)) c
    have a1 := add fi.2.2 cp.2.2
    have a2 := add qi.2.2 cq.2.2
    rw [decide_eq_false (show ¬ i + 1 = 0 by omega), decide_eq_true (show 0 < i + 1 by omega)]
    simp only [cond_true, cond_false]
    rw [np (i + 1 - 1) (by omega), nq (i + 1 - 1) (by omega), Nat.add_sub_cancel, cp.2.1, cq.2.1, a1.2, a2.2]
    repeat rw [Let_eq]
    have e1 : sumP (prP s (pl a b (i + 1))) (scP (pl a b i) ((((0 : Int) : Rat)) - nth b i)) = pl a b (i + 2) := eq_of (sumP_tr _ _) (pl_tr a b _) fun j => by
      rw [sumP_nth, scP_nth, st_nth H (-(nth a (i + 1))) _ s hs, pl_nth, pl_nth, pl_nth, show nth (pl a b (i + 1)) = P (nth a) (nth b) (i + 1) from funext (pl_nth a b (i + 1)), z0]
      show _ = up (P (nth a) (nth b) (i + 1)) j - nth a (i + 1) * P (nth a) (nth b) (i + 1) j - nth b i * P (nth a) (nth b) i j
      grind
    have e2 : sumP (prP s (ql a b (i + 1))) (scP (ql a b i) ((((0 : Int) : Rat)) - nth b i)) = ql a b (i + 2) := eq_of (sumP_tr _ _) (ql_tr a b _) fun j => by
      rw [sumP_nth, scP_nth, st_nth H (-(nth a (i + 1))) _ s hs, ql_nth, ql_nth, ql_nth, show nth (ql a b (i + 1)) = Q (nth a) (nth b) (i + 1) from funext (ql_nth a b (i + 1)), z0]
      show _ = up (Q (nth a) (nth b) (i + 1)) j - nth a (i + 1) * Q (nth a) (nth b) (i + 1) j - nth b i * Q (nth a) (nth b) i j
      grind
    rw [e1, e2]
    refine ⟨⟨by omega, sz, (H.ba _).sm (by decide) (by decide), s1.1, st1, by rw [row_len]; omega, fi.1, fun _ => ⟨by rw [row_len]; omega, qi.1⟩, ?_⟩, ?_⟩
    · refine ⟨fun _ => ⟨by omega, by omega, sz, (H.bb _).sm (by decide) (by decide), by omega, by rw [row_len]; omega, cp.1, a1.1, ?_⟩, by rw [row_len]; omega, by rw [row_len]; omega⟩
      exact ⟨by rw [row_len]; omega, cq.1, a2.1⟩
    · show (row (i + 1 + 1) (pl a b) ++ [pl a b (i + 2)], row (i + 1 + 1) (ql a b) ++ [ql a b (i + 2)]) = _
      rw [row_app (F := pl a b), row_app (F := ql a b)]
theorem rec_ok : SC__law_recursion a b ∧ T__law_recursion a b = (row (k + 1) (pl a b), row (k + 1) (ql a b)) := by
  have hL := hlim'
  have hk := H.hk
  have la := H.la
  have lp := loop_ix (S := SC__law_recursion_l1 a b X1) (step := T__law_recursion_l1 a b X1) (fun i => (row (i + 1) (pl a b), row (i + 1) (ql a b))) (bs := List.range a.length) (s := ([([(((1 : Int) : Rat))] : List Rat)], [([] : List Rat)])) rfl fun i hi => by
    rw [List.length_range] at hi
    rw [List.getElem_range]
    exact L1_l H (by omega)
  have en := lp.2
  rw [List.length_range] at en
  unfold SC__law_recursion T__law_recursion
  repeat rw [Let_eq]
  rw [en, la]
  exact ⟨⟨by omega, by rw [← la]; exact lp.1⟩, rfl⟩
end
end
end L37
end

section
set_option Elab.async false
set_option linter.all false
set_option maxRecDepth 100000
set_option maxHeartbeats 4000000
open PySem Pv Tv
namespace L37
open L04 (row row_len row_get row_nth row_app row_cg row_self row_map row_flat row_set loop_ix sumN sumN_cg sumN_head sumN_zero sumN_rev sumN_bd enumT_row mem_row num_0)
open FPS PL
open PO (W W_z P P_z P_1 Q Q_z Q_1 be)
noncomputable section
theorem it_ok (xs : List Rat) (k : Nat) : SC_item_at xs k ∧ T_item_at xs k = nth xs k := by
  unfold SC_item_at T_item_at
  refine ⟨fun h => of_decide_eq_true h, ?_⟩
  by_cases h : k < xs.length
  · rw [decide_eq_true h]; rfl
  · rw [decide_eq_false h, nth_ge (by omega)]; rfl
section
variable {a b : List Rat} (ba : ∀ i, Bd 60 4 (nth a i)) (bb : ∀ i, Bd 60 4 (nth b i)) {n : Nat} (hn : n ≤ 12)
include ba bb
theorem W_u {t : Nat} (ht : t ≤ 12) (h : Nat) : Bd (60 ^ 12) (9 ^ 12) (W (nth a) (nth b) t h) := ((W_bd ba bb t h).dvd (Nat.pow_dvd_pow _ ht) (by decide)).mono (Nat.pow_le_pow_right (by decide) ht)
theorem W_sm {t : Nat} (ht : t ≤ 12) (h : Nat) : Sm (W (nth a) (nth b) t h) := (W_u ba bb ht h).sm (by decide) (by decide)
theorem Wa_b {t : Nat} (ht : t ≤ 12) (h i : Nat) : Bd (60 ^ 12 * 60) (9 ^ 12 * 4) (W (nth a) (nth b) t h * nth a i) := (W_u ba bb ht h).mul (ba i)
theorem Wb_b {t : Nat} (ht : t ≤ 12) (h i : Nat) : Bd (60 ^ 12 * 60) (9 ^ 12 * 4) (W (nth a) (nth b) t h * nth b i) := (W_u ba bb ht h).mul (bb i)
theorem W_u2 {t : Nat} (ht : t ≤ 12) (h : Nat) : Bd (60 ^ 12 * 60) (9 ^ 12) (W (nth a) (nth b) t h) := (W_u ba bb ht h).dvd (Nat.dvd_mul_right _ _) (by decide)
include hn
theorem mp_in {t : Nat} (ht : t < n) (F : List Rat) : AllF (SC_moments_by_paths_l1 a b n (row (n + 1) (W (nth a) (nth b) t), F)) (T_moments_by_paths_l1 a b n (row (n + 1) (W (nth a) (nth b) t), F)) (List.range (n + 1)) [] ∧ (List.range (n + 1)).foldl (T_moments_by_paths_l1 a b n (row (n + 1) (W (nth a) (nth b) t), F)) [] = row (n + 1) (W (nth a) (nth b) (t + 1)) := by
  have hL := hlim'
  have lp := loop_ix (S := SC_moments_by_paths_l1 a b n (row (n + 1) (W (nth a) (nth b) t), F)) (step := T_moments_by_paths_l1 a b n (row (n + 1) (W (nth a) (nth b) t), F)) (fun j => row j (W (nth a) (nth b) (t + 1))) (bs := List.range (n + 1)) (s := []) rfl fun h hh => by
    rw [List.length_range] at hh
    rw [List.getElem_range]
    have nw : ∀ i ≤ n, Tv.nth (row (n + 1) (W (nth a) (nth b) t)) i = W (nth a) (nth b) t i := fun i hi => row_nth (by omega)
    have ia := it_ok a h
    have ib := it_ok b h
    have x := Wa_b ba bb (t := t) (by omega) h h
    have y : Bd (60 ^ 12 * 60) (9 ^ 12) (if h = 0 then 0 else W (nth a) (nth b) t (h - 1)) := by
      split
      · exact Bd.zero (by decide)
      · exact W_u2 ba bb (by omega) _
    have xy := x.add y
    have z := Wb_b ba bb (t := t) (by omega) (h + 1) h
    have s2 : (cond (decide (0 < h)) (W (nth a) (nth b) t h * nth a h + Tv.nth (row (n + 1) (W (nth a) (nth b) t)) (h - 1)) (W (nth a) (nth b) t h * nth a h)) = W (nth a) (nth b) t h * nth a h + (if h = 0 then 0 else W (nth a) (nth b) t (h - 1)) := by
      by_cases z : h = 0
      · subst z; rw [decide_eq_false (by omega), if_pos rfl]; simp only [cond_false]; grind
      · rw [decide_eq_true (by omega), if_neg z, nw (h - 1) (by omega)]; rfl
    unfold SC_moments_by_paths_l1 T_moments_by_paths_l1
    dsimp only
    rw [nw h (by omega), ia.2, ib.2]
    repeat rw [Let_eq]
    rw [s2]
    repeat rw [Let_eq]
    have s3 : (cond (decide (h < n)) (W (nth a) (nth b) t h * nth a h + (if h = 0 then 0 else W (nth a) (nth b) t (h - 1)) + Tv.nth (row (n + 1) (W (nth a) (nth b) t)) (h + 1) * nth b h) (W (nth a) (nth b) t h * nth a h + (if h = 0 then 0 else W (nth a) (nth b) t (h - 1)))) = W (nth a) (nth b) (t + 1) h := by
      show _ = W (nth a) (nth b) t h * nth a h + (if h = 0 then 0 else W (nth a) (nth b) t (h - 1)) + W (nth a) (nth b) t (h + 1) * nth b h
      by_cases z : h < n
      · rw [decide_eq_true z, nw (h + 1) (by omega)]; rfl
      · rw [decide_eq_false z, W_z _ _ t (h + 1) (by omega)]; simp only [cond_false]; grind
    rw [s3]
    refine ⟨⟨by rw [row_len]; omega, ia.1, W_sm ba bb (by omega) _, (ba h).sm (by decide) (by decide), fun p => ?_, fun p => ?_, by rw [row_len]; omega⟩, row_app (F := W (nth a) (nth b) (t + 1))⟩
    · have p := of_decide_eq_true p
      exact ⟨by omega, by rw [row_len]; omega, x.sm (by decide) (by decide), by rw [nw (h - 1) (by omega)]; exact W_sm ba bb (by omega) _⟩
    · have p := of_decide_eq_true p
      rw [nw (h + 1) (by omega)]
      exact ⟨by rw [row_len]; omega, ib.1, W_sm ba bb (by omega) _, (bb h).sm (by decide) (by decide), xy.sm (by decide) (by decide), z.sm (by decide) (by decide)⟩
  rw [List.length_range] at lp
  exact lp
theorem mp_ok : SC_moments_by_paths a b n ∧ T_moments_by_paths a b n = row n fun t => W (nth a) (nth b) (t + 1) 0 := by
  have hL := hlim'
  have e0 : [(((1 : Int) : Rat))] ++ (List.replicate n [(((0 : Int) : Rat))]).flatten = row (n + 1) (W (nth a) (nth b) 0) := by
    rw [row_flat]
    refine List.ext_getElem (by rw [List.length_append, row_len, row_len]; show 1 + n = n + 1; omega) fun i h1 h2 => ?_
    rw [row_get]
    cases i with
    | zero => rfl
    | succ i =>
      rw [List.getElem_append_right (by show 1 ≤ i + 1; omega), row_get]
      exact (show on (i + 1) = 0 from if_neg (by omega)).symm
  have lp := loop_ix (S := SC_moments_by_paths_l2 a b n) (step := T_moments_by_paths_l2 a b n) (fun t => (row (n + 1) (W (nth a) (nth b) t), row t fun t => W (nth a) (nth b) (t + 1) 0)) (bs := List.range n) (s := (row (n + 1) (W (nth a) (nth b) 0), [])) rfl fun t ht => by
    rw [List.length_range] at ht
    have i := mp_in ba bb hn ht (row t fun t => W (nth a) (nth b) (t + 1) 0)
    unfold SC_moments_by_paths_l2 T_moments_by_paths_l2
    repeat rw [Let_eq]
    rw [i.2]
    repeat rw [Let_eq]
    refine ⟨⟨by omega, i.1, by rw [row_len]; omega, by rw [row_len]; omega⟩, ?_⟩
    have e : Tv.nth (row (n + 1) (W (nth a) (nth b) (t + 1))) 0 = W (nth a) (nth b) (t + 1) 0 := row_nth (by omega)
    show (row (n + 1) (W (nth a) (nth b) (t + 1)), (row t fun t => W (nth a) (nth b) (t + 1) 0) ++ [Tv.nth (row (n + 1) (W (nth a) (nth b) (t + 1))) 0]) = _
    rw [e, row_app (F := fun t => W (nth a) (nth b) (t + 1) 0)]
  have en := lp.2
  rw [List.length_range] at en
  unfold SC_moments_by_paths T_moments_by_paths
  rw [e0]
  repeat rw [Let_eq]
  rw [en]
  refine ⟨⟨⟨by show 1 * n ≤ _; omega, by omega⟩, by rw [row_flat, row_len]; show 1 + n ≤ _; omega, by omega, lp.1⟩, rfl⟩
def cl (A B : Nat → Rat) (t J x : Nat) : Rat := (if x < J then W A B t x * A x else 0) + (if 1 ≤ x ∧ x ≤ J then W A B t (x - 1) else 0) + (if x + 1 < J then W A B t (x + 1) * B x else 0)
omit ba bb hn in
theorem cl_end (A B : Nat → Rat) (t x : Nat) : cl A B t (t + 1) x = W A B (t + 1) x := by
  show _ = W A B t x * A x + (if x = 0 then 0 else W A B t (x - 1)) + W A B t (x + 1) * B x
  unfold cl
  have e1 : (if x < t + 1 then W A B t x * A x else 0) = W A B t x * A x := by
    by_cases h : x < t + 1
    · rw [if_pos h]
    · rw [if_neg h, W_z A B t x (by omega), Rat.zero_mul]
  have e2 : (if 1 ≤ x ∧ x ≤ t + 1 then W A B t (x - 1) else 0) = if x = 0 then 0 else W A B t (x - 1) := by
    by_cases h : x = 0
    · subst h; rw [if_pos rfl, if_neg (by omega)]
    · rw [if_neg h]
      by_cases g : x ≤ t + 1
      · rw [if_pos ⟨by omega, g⟩]
      · rw [if_neg (by omega), W_z A B t (x - 1) (by omega)]
  have e3 : (if x + 1 < t + 1 then W A B t (x + 1) * B x else 0) = W A B t (x + 1) * B x := by
    by_cases h : x + 1 < t + 1
    · rw [if_pos h]
    · rw [if_neg h, W_z A B t (x + 1) (by omega), Rat.zero_mul]
  rw [e1, e2, e3]
omit hn in
theorem cl_b {t : Nat} (ht : t ≤ 12) (J x : Nat) : Bd (60 ^ 12 * 60) (9 ^ 13) (cl (nth a) (nth b) t J x) := by
  unfold cl
  have p : (0 : Nat) < 60 ^ 12 * 60 := by decide
  have x1 : Bd (60 ^ 12 * 60) (9 ^ 12 * 4) (if x < J then W (nth a) (nth b) t x * nth a x else 0) := by
    split
    · exact Wa_b ba bb ht _ _
    · exact Bd.zero p
  have x2 : Bd (60 ^ 12 * 60) (9 ^ 12) (if 1 ≤ x ∧ x ≤ J then W (nth a) (nth b) t (x - 1) else 0) := by
    split
    · exact W_u2 ba bb ht _
    · exact Bd.zero p
  have x3 : Bd (60 ^ 12 * 60) (9 ^ 12 * 4) (if x + 1 < J then W (nth a) (nth b) t (x + 1) * nth b x else 0) := by
    split
    · exact Wb_b ba bb ht _ _
    · exact Bd.zero p
  exact ((x1.add x2).add x3).mono (by decide)
theorem lp_in {t : Nat} (ht : t < n) (F : List Rat) {J : Nat} (hJ : J < t + 1) : SC__law_path_moments_l1 a b (row (t + 1) (W (nth a) (nth b) t), F) (row (t + 2) (cl (nth a) (nth b) t J)) J ∧ T__law_path_moments_l1 a b (row (t + 1) (W (nth a) (nth b) t), F) (row (t + 2) (cl (nth a) (nth b) t J)) J = row (t + 2) (cl (nth a) (nth b) t (J + 1)) := by
  have hL := hlim'
  have w : Tv.nth (row (t + 1) (W (nth a) (nth b) t)) J = W (nth a) (nth b) t J := row_nth hJ
  have c : ∀ x < t + 2, Tv.nth (row (t + 2) (cl (nth a) (nth b) t J)) x = cl (nth a) (nth b) t J x := fun x hx => row_nth hx
  have cs : ∀ x, Sm (cl (nth a) (nth b) t J x) := fun x => (cl_b ba bb (by omega) J x).sm (by decide) (by decide)
  have ws := W_sm ba bb (t := t) (by omega) J
  have was := (Wa_b ba bb (t := t) (by omega) J J).sm (by decide) (by decide)
  have wbs := (Wb_b ba bb (t := t) (by omega) J (J - 1)).sm (by decide) (by decide)
  -- the three stages
  have g1 : (row (t + 2) (cl (nth a) (nth b) t J)).set (J + 1) (Tv.nth (row (t + 2) (cl (nth a) (nth b) t J)) (J + 1) + W (nth a) (nth b) t J) = row (t + 2) fun x => if x = J + 1 then cl (nth a) (nth b) t J (J + 1) + W (nth a) (nth b) t J else cl (nth a) (nth b) t J x := by
    rw [c (J + 1) (by omega), row_set]
  let f1 : Nat → Rat := fun x => if x = J + 1 then cl (nth a) (nth b) t J (J + 1) + W (nth a) (nth b) t J else cl (nth a) (nth b) t J x
  let f2 : Nat → Rat := fun x => if x = J then f1 J + W (nth a) (nth b) t J * nth a J else f1 x
  have f1s : Sm (f1 J) := by show Sm (if J = J + 1 then _ else _); rw [if_neg (by omega)]; exact cs J
  have n1 : Tv.nth (row (t + 2) f1) J = f1 J := row_nth (by omega)
  have g2 : (cond (decide (J < a.length)) ((row (t + 2) f1).set J (Tv.nth (row (t + 2) f1) J + W (nth a) (nth b) t J * nth a J)) (row (t + 2) f1)) = row (t + 2) f2 := by
    by_cases h : J < a.length
    · rw [decide_eq_true h, n1]
      show List.set _ _ _ = _
      rw [row_set]
    · rw [decide_eq_false h]
      refine row_cg fun x _ => ?_
      show f1 x = if x = J then f1 J + W (nth a) (nth b) t J * nth a J else f1 x
      by_cases e : x = J
      · subst e; rw [if_pos rfl, nth_ge (by omega), Rat.mul_zero, Rat.add_zero]
      · rw [if_neg e]
  have f2v : ∀ x, f2 x = (if x < J + 1 then W (nth a) (nth b) t x * nth a x else 0) + (if 1 ≤ x ∧ x ≤ J + 1 then W (nth a) (nth b) t (x - 1) else 0) + (if x + 1 < J then W (nth a) (nth b) t (x + 1) * nth b x else 0) := fun x => by
    show (if x = J then (if J = J + 1 then _ else cl (nth a) (nth b) t J J) + W (nth a) (nth b) t J * nth a J else if x = J + 1 then cl (nth a) (nth b) t J (J + 1) + W (nth a) (nth b) t J else cl (nth a) (nth b) t J x) = _
    unfold cl
    by_cases e : x = J
    · subst e
      rw [if_pos rfl, if_neg (by omega), if_neg (show ¬ x < x by omega), if_pos (show x < x + 1 by omega), if_neg (show ¬ x + 1 < x by omega)]
      by_cases z : 1 ≤ x
      · rw [if_pos ⟨z, Nat.le_refl x⟩, if_pos ⟨z, by omega⟩]; grind
      · rw [if_neg (by omega), if_neg (by omega)]; grind
    · rw [if_neg e]
      by_cases e1 : x = J + 1
      · subst e1
        rw [if_pos rfl, if_neg (show ¬ J + 1 < J by omega), if_neg (show ¬ (1 ≤ J + 1 ∧ J + 1 ≤ J) by omega), if_neg (show ¬ J + 1 + 1 < J by omega), if_neg (show ¬ J + 1 < J + 1 by omega), if_pos ⟨by omega, Nat.le_refl _⟩, Nat.add_sub_cancel]; grind
      · rw [if_neg e1]
        by_cases l : x < J
        · rw [if_pos l, if_pos (show x < J + 1 by omega)]
          by_cases z : 1 ≤ x
          · rw [if_pos (show 1 ≤ x ∧ x ≤ J from ⟨z, by omega⟩), if_pos (show 1 ≤ x ∧ x ≤ J + 1 from ⟨z, by omega⟩)]
          · rw [if_neg (show ¬ (1 ≤ x ∧ x ≤ J) by omega), if_neg (show ¬ (1 ≤ x ∧ x ≤ J + 1) by omega)]
        · rw [if_neg l, if_neg (show ¬ x < J + 1 by omega), if_neg (show ¬ (1 ≤ x ∧ x ≤ J) by omega), if_neg (show ¬ (1 ≤ x ∧ x ≤ J + 1) by omega)]
  have f2s : ∀ x, Sm (f2 x) := fun x => by
    have p : (0 : Nat) < 60 ^ 12 * 60 := by decide
    have x1 : Bd (60 ^ 12 * 60) (9 ^ 12 * 4) (if x < J + 1 then W (nth a) (nth b) t x * nth a x else 0) := by
      split
      · exact Wa_b ba bb (by omega) _ _
      · exact Bd.zero p
    have x2 : Bd (60 ^ 12 * 60) (9 ^ 12) (if 1 ≤ x ∧ x ≤ J + 1 then W (nth a) (nth b) t (x - 1) else 0) := by
      split
      · exact W_u2 ba bb (by omega) _
      · exact Bd.zero p
    have x3 : Bd (60 ^ 12 * 60) (9 ^ 12 * 4) (if x + 1 < J then W (nth a) (nth b) t (x + 1) * nth b x else 0) := by
      split
      · exact Wb_b ba bb (by omega) _ _
      · exact Bd.zero p
    rw [f2v]
    exact ((x1.add x2).add x3).sm (by decide) (by decide)
  have n2 : ∀ x < t + 2, Tv.nth (row (t + 2) f2) x = f2 x := fun x hx => row_nth hx
  have g3 : (cond (decide (0 < J) && decide (J - 1 < b.length)) ((row (t + 2) f2).set (J - 1) (Tv.nth (row (t + 2) f2) (J - 1) + W (nth a) (nth b) t J * nth b (J - 1))) (row (t + 2) f2)) = row (t + 2) (cl (nth a) (nth b) t (J + 1)) := by
    have fin : ∀ x, x + 1 ≠ J → f2 x = cl (nth a) (nth b) t (J + 1) x := fun x hx => by
      rw [f2v]
      unfold cl
      by_cases l : x + 1 < J
      · rw [if_pos l, if_pos (show x + 1 < J + 1 by omega)]
      · rw [if_neg l, if_neg (show ¬ x + 1 < J + 1 by omega)]
    have fj : ∀ x, x + 1 = J → f2 x + W (nth a) (nth b) t J * nth b x = cl (nth a) (nth b) t (J + 1) x := fun x hx => by
      rw [f2v]
      unfold cl
      rw [if_neg (show ¬ x + 1 < J by omega), if_pos (show x + 1 < J + 1 by omega), hx]; grind
    by_cases h : 0 < J ∧ J - 1 < b.length
    · rw [decide_eq_true h.1, decide_eq_true h.2, n2 (J - 1) (by omega)]
      show List.set _ _ _ = _
      rw [row_set]
      refine row_cg fun x _ => ?_
      by_cases e : x = J - 1
      · subst e; rw [if_pos rfl]; exact fj (J - 1) (by omega)
      · rw [if_neg e]; exact fin x (by omega)
    · have : (decide (0 < J) && decide (J - 1 < b.length)) = false := by
        by_cases h0 : 0 < J
        · rw [decide_eq_false (show ¬ J - 1 < b.length from fun q => h ⟨h0, q⟩), Bool.and_false]
        · rw [decide_eq_false h0, Bool.false_and]
      rw [this]
      refine row_cg fun x _ => ?_
      by_cases e : x + 1 = J
      · have q := fj x e
        rw [nth_ge (xs := b) (k := x) (by
          have : ¬ (0 < J ∧ J - 1 < b.length) := h
          omega), Rat.mul_zero, Rat.add_zero] at q
        exact q
      · exact fin x e
  unfold SC__law_path_moments_l1 T__law_path_moments_l1
  dsimp only
  rw [w, g1]
  repeat rw [Let_eq]
  have g2' : (cond (decide (J < a.length)) (Let ((row (t + 2) f1).set J (Tv.nth (row (t + 2) f1) J + W (nth a) (nth b) t J * nth a J)) fun later233 => later233) (row (t + 2) f1)) = row (t + 2) f2 := g2
  rw [show (row (t + 2) fun x => if x = J + 1 then cl (nth a) (nth b) t J (J + 1) + W (nth a) (nth b) t J else cl (nth a) (nth b) t J x) = row (t + 2) f1 from rfl]
  rw [g2]
  repeat rw [Let_eq]
  rw [g3]
  refine ⟨⟨by rw [row_len]; omega, by rw [row_len]; omega, by rw [c (J + 1) (by omega)]; exact cs _, ws, fun p => ?_, fun p => ?_, fun p => ?_⟩, rfl⟩
  · have p := of_decide_eq_true p
    exact ⟨by rw [row_len]; omega, by rw [row_len]; omega, p, ws, (ba J).sm (by decide) (by decide), by rw [n1]; exact f1s, was⟩
  · have p := of_decide_eq_true p
    omega
  · rw [Bool.and_eq_true, decide_eq_true_eq, decide_eq_true_eq] at p
    exact ⟨by omega, by rw [row_len]; omega, by rw [row_len]; omega, p.2, ws, (bb _).sm (by decide) (by decide), by rw [n2 _ (by omega)]; exact f2s _, wbs⟩
theorem lpm_ok : SC__law_path_moments a b n ∧ T__law_path_moments a b n = row n fun t => W (nth a) (nth b) (t + 1) 0 := by
  have hL := hlim'
  have lp := loop_ix (S := SC__law_path_moments_l2 a b) (step := T__law_path_moments_l2 a b) (fun t => (row (t + 1) (W (nth a) (nth b) t), row t fun t => W (nth a) (nth b) (t + 1) 0)) (bs := List.range n) (s := ([(((1 : Int) : Rat))], [])) rfl fun t ht => by
    rw [List.length_range] at ht
    have e0 : (List.range (t + 1 + 1)).map T__law_path_moments_c1 = row (t + 2) (cl (nth a) (nth b) t 0) := row_cg fun x _ => by
      unfold cl
      rw [if_neg (by omega), if_neg (by omega), if_neg (by omega)]
      show (0 : Rat) = 0 + 0 + 0
      grind
    have li := loop_ix (S := SC__law_path_moments_l1 a b (row (t + 1) (W (nth a) (nth b) t), row t fun t => W (nth a) (nth b) (t + 1) 0)) (step := T__law_path_moments_l1 a b (row (t + 1) (W (nth a) (nth b) t), row t fun t => W (nth a) (nth b) (t + 1) 0)) (fun J => row (t + 2) (cl (nth a) (nth b) t J)) (bs := List.range (t + 1)) (s := row (t + 2) (cl (nth a) (nth b) t 0)) rfl fun J hJ => by
      rw [List.length_range] at hJ
      rw [List.getElem_range]
      exact lp_in ba bb hn ht _ hJ
    have ei := li.2
    rw [List.length_range, (row_cg fun x _ => cl_end _ _ t x : row (t + 2) (cl (nth a) (nth b) t (t + 1)) = row (t + 2) (W (nth a) (nth b) (t + 1)))] at ei
    unfold SC__law_path_moments_l2 T__law_path_moments_l2
    dsimp only
    rw [row_len, e0]
    repeat rw [Let_eq]
    rw [ei]
    repeat rw [Let_eq]
    refine ⟨⟨by omega, by omega, li.1, by rw [row_len]; omega, by rw [row_len]; omega⟩, ?_⟩
    have e : Tv.nth (row (t + 2) (W (nth a) (nth b) (t + 1))) 0 = W (nth a) (nth b) (t + 1) 0 := row_nth (by omega)
    rw [e, row_app (F := fun t => W (nth a) (nth b) (t + 1) 0)]
  have en := lp.2
  rw [List.length_range] at en
  unfold SC__law_path_moments T__law_path_moments
  repeat rw [Let_eq]
  rw [en]
  exact ⟨⟨by omega, lp.1⟩, rfl⟩
end
def mn (m f : List Rat) : Rat := sumN (fun i => nth f i * nth ([(((1 : Int) : Rat))] ++ m) i) f.length
structure Mo (m f : List Rat) (E M E' M' : Nat) : Prop where
  bf : ∀ i, Bd E M (nth f i)
  bm : ∀ i, Bd E' M' (nth ([(((1 : Int) : Rat))] ++ m) i)
  lm : m.length ≤ 12
  lf : f.length ≤ m.length + 1
  e : E * E' < 2 ^ 2000
  m : 30 * (M * M') < 2 ^ 2000
  e1 : E < 2 ^ 2000
  m1 : M < 2 ^ 2000
  e2 : E' < 2 ^ 2000
  m2 : M' < 2 ^ 2000
namespace Mo
variable {m f : List Rat} {E M E' M' : Nat} (H : Mo m f E M E' M')
include H
theorem bp (i : Nat) : Bd (E * E') (M * M') (nth f i * nth ([(((1 : Int) : Rat))] ++ m) i) := (H.bf i).mul (H.bm i)
theorem sp (i : Nat) : Sm (nth f i * nth ([(((1 : Int) : Rat))] ++ m) i) := (H.bp i).sm H.e (Nat.lt_of_le_of_lt (Nat.le_mul_of_pos_left _ (by decide)) H.m)
theorem ss {J : Nat} (hJ : J ≤ 30) : Sm (sumN (fun i => nth f i * nth ([(((1 : Int) : Rat))] ++ m) i) J) := (sumN_bd (Nat.mul_pos (H.bf 0).1 (H.bm 0).1) fun i _ => H.bp i).sm H.e (Nat.lt_of_le_of_lt (Nat.mul_le_mul_right _ hJ) H.m)
theorem sf (i : Nat) : Sm (nth f i) := (H.bf i).sm H.e1 H.m1
theorem sm (i : Nat) : Sm (nth ([(((1 : Int) : Rat))] ++ m) i) := (H.bm i).sm H.e2 H.m2
theorem ln : ([(((1 : Int) : Rat))] ++ m).length = m.length + 1 := by rw [List.length_append]; show 1 + _ = _; omega
theorem ok : SC_mean_of m f ∧ T_mean_of m f = mn m f := by
  have hL := hlim'
  have lm := H.lm
  have lf := H.lf
  have ll := H.ln
  have lp := loop_ix (S := SC_mean_of_l1 ([(((1 : Int) : Rat))] ++ m)) (step := T_mean_of_l1 ([(((1 : Int) : Rat))] ++ m)) (fun J => sumN (fun i => nth f i * nth ([(((1 : Int) : Rat))] ++ m) i) J) (bs := enumT f) (s := (((0 : Int) : Rat))) rfl fun i hi => by
    simp only [enumT_row]
    rw [enumT_row, row_len] at hi
    rw [row_get]
    exact ⟨⟨by show i < _; omega, H.sf i, H.sm i, H.ss (by omega), H.sp i⟩, rfl⟩
  have en := lp.2
  rw [enumT_row, row_len, ← enumT_row] at en
  unfold SC_mean_of T_mean_of
  repeat rw [Let_eq]
  rw [en]
  exact ⟨⟨by show 1 + _ ≤ _; omega, lp.1⟩, rfl⟩
theorem lok : SC__law_mean m f ∧ T__law_mean m f = mn m f := by
  have hL := hlim'
  have lm := H.lm
  have lf := H.lf
  have ll := H.ln
  have em : (List.range f.length).map (T__law_mean_c1 f ([(((1 : Int) : Rat))] ++ m)) = row f.length fun i => nth f i * nth ([(((1 : Int) : Rat))] ++ m) i := rfl
  have lp := loop_ix (S := SC__law_total_l1) (step := T__law_total_l1) (fun J => sumN (fun i => nth f i * nth ([(((1 : Int) : Rat))] ++ m) i) J) (bs := row f.length fun i => nth f i * nth ([(((1 : Int) : Rat))] ++ m) i) (s := (((0 : Int) : Rat))) rfl fun i hi => by
    rw [row_len] at hi
    rw [row_get]
    exact ⟨⟨H.ss (by omega), H.sp i⟩, rfl⟩
  have en := lp.2
  rw [row_len] at en
  have t : SC__law_total (row f.length fun i => nth f i * nth ([(((1 : Int) : Rat))] ++ m) i) ∧ T__law_total (row f.length fun i => nth f i * nth ([(((1 : Int) : Rat))] ++ m) i) = mn m f := ⟨lp.1, en⟩
  unfold SC__law_mean T__law_mean
  repeat rw [Let_eq]
  rw [em]
  refine ⟨⟨by show 1 + _ ≤ _; omega, by omega, fun i hi => ?_, t.1⟩, t.2⟩
  have hi := List.mem_range.1 hi
  exact ⟨hi, by show i < _; omega, H.sf i, H.sm i⟩
theorem pm_ok (hm : ∀ q ∈ m, Sm q) (hf : Tr f) : SC_polynomial_mean m f ∧ T_polynomial_mean m f = mn m f := by
  have o := H.ok
  have lm := H.lm
  have lf := H.lf
  have py : Py f := ⟨hf, by omega, sm_of_nth H.sf⟩
  refine ⟨⟨irr_t lm hm, py.vok.sc, ?_, o.1⟩, o.2⟩
  rw [py.is, decide_eq_false (by omega)]; rfl
end Mo
end
end L37
end

section
set_option Elab.async false
set_option linter.all false
set_option maxRecDepth 100000
set_option maxHeartbeats 4000000
open PySem Pv Tv
namespace L37
open L04 (row row_len row_get row_nth row_app row_cg row_self row_map row_flat row_set loop_ix sumN sumN_cg sumN_head sumN_zero sumN_rev sumN_bd enumT_row mem_row num_0)
open FPS PL
open PO (W W_z P P_z P_1 Q Q_z Q_1 be R R_0 R_q R_s R_k)
noncomputable section
section
variable {σ β : Type} {S : σ → β → Prop} {step : σ → β → Stp σ Bool}
theorem loop_inv : ∀ (bs : List β) (I : Nat → σ → Prop), (∀ i (h : i < bs.length) s, I i s → S s bs[i] ∧ ∃ s', step s bs[i] = .go s' ∧ I (i + 1) s') → ∀ s, I 0 s → AllX S step bs s ∧ ∃ s', loopT step bs s = .go s'
  | [], I, h, s, h0 => ⟨trivial, s, rfl⟩
  | b :: bs, I, h, s, h0 => by
    obtain ⟨h1, s', e, h2⟩ := h 0 (by simp) s h0
    have r := loop_inv bs (fun i => I (i + 1)) (fun i hi s hs => h (i + 1) (by simp; omega) s hs) s' h2
    constructor
    · refine ⟨h1, ?_⟩
      have e : step s b = .go s' := e
      rw [e]; exact r.1
    · obtain ⟨s2, r2⟩ := r.2
      refine ⟨s2, ?_⟩
      have e : step s b = .go s' := e
      unfold loopT
      rw [e]; exact r2
end
section
variable {a b : List Rat} (ba : ∀ i, Bd 60 4 (nth a i)) (bb : ∀ i, Bd 60 4 (nth b i)) {k n : Nat} (k1 : 1 ≤ k) (hk : k ≤ 6) (hn : 2 * k ≤ n) (n2 : n ≤ 12)
include ba bb k1 hk hn n2
theorem begins_ok : SC__law_begins (pl a b k) (ql a b k) (row n fun t => W (nth a) (nth b) (t + 1) 0) ∧ T__law_begins (pl a b k) (ql a b k) (row n fun t => W (nth a) (nth b) (t + 1) 0) = true := by
  have hL := hlim'
  have lp : (pl a b k).length = k + 1 := row_len _ _
  have lq : (ql a b k).length = k := row_len _ _
  have dn : ∀ j ≤ k, nth (pl a b k).reverse j = P (nth a) (nth b) k (k - j) := fun j hj => by
    rw [nth_eq (by rw [List.length_reverse, lp]; omega), List.getElem_reverse, row_get]
    congr 1
    rw [lp]; omega
  have ld : (pl a b k).reverse.length = k + 1 := by rw [List.length_reverse, lp]
  have Pb' : ∀ j, Bd (60 ^ 6) (9 ^ 6) (P (nth a) (nth b) k j) := fun j => ((P_bd ba bb k j).dvd (Nat.pow_dvd_pow _ hk) (by decide)).mono (Nat.pow_le_pow_right (by decide) hk)
  have Qb' : ∀ j, Bd (60 ^ 6) (9 ^ 6) (Q (nth a) (nth b) k j) := fun j => ((Q_bd ba bb k j).dvd (Nat.pow_dvd_pow _ hk) (by decide)).mono (Nat.pow_le_pow_right (by decide) hk)
  have L := loop_inv (S := SC__law_begins_l1 (row n fun t => W (nth a) (nth b) (t + 1) 0) k (pl a b k).reverse) (step := T__law_begins_l1 (row n fun t => W (nth a) (nth b) (t + 1) 0) k (pl a b k).reverse) (List.range (2 * k)) (fun t s => s.length = k ∧ (∀ j < k, j + t < 2 * k → nth s j = R (nth a) (nth b) k t j) ∧ ∀ j, Bd (60 ^ 18) ((t + 1) * 9 ^ 18) (nth s j)) (fun t ht s hs => by
    rw [List.length_range] at ht
    rw [List.getElem_range]
    obtain ⟨sl, sv, sb⟩ := hs
    have c0 : cond (decide (0 < s.length)) (nth s 0) (((0 : Int) : Rat)) = W (nth a) (nth b) t 0 := by
      rw [decide_eq_true (by omega)]
      show nth s 0 = _
      rw [sv 0 k1 (by omega), R_0]
    have m0 : cond (decide (t = 0)) (((1 : Int) : Rat)) (nth (row n fun t => W (nth a) (nth b) (t + 1) 0) (t - 1)) = W (nth a) (nth b) t 0 := by
      by_cases z : t = 0
      · subst z; rfl
      · rw [decide_eq_false z, cond_false, row_nth (by omega), show t - 1 + 1 = t by omega]
    have pz : s ++ (List.replicate (k + 1 - s.length) [(((0 : Int) : Rat))]).flatten = row (k + 1) (nth s) := row_nths (by omega)
    have wc := W_u ba bb (t := t) (by omega) 0
    have nr : ∀ i < k + 1, nth (row (k + 1) (nth s)) i = nth s i := fun i hi => row_nth hi
    have cd : ∀ j ≤ k, Bd (60 ^ 18) (9 ^ 18) (W (nth a) (nth b) t 0 * P (nth a) (nth b) k (k - j)) := fun j _ => by
      have := wc.mul (Pb' (k - j))
      exact this
    have sbs : ∀ j, Sm (nth s j) := fun j => (sb j).sm (by decide) (Nat.lt_of_le_of_lt (Nat.mul_le_mul_right _ (show t + 1 ≤ 13 by omega)) (by decide))
    have em : (rng 1 (k + 1)).map (T__law_begins_c2 (pl a b k).reverse (W (nth a) (nth b) t 0) (row (k + 1) (nth s))) = row k fun j => nth s (j + 1) - W (nth a) (nth b) t 0 * P (nth a) (nth b) k (k - (j + 1)) := by
      rw [rngA, row_map, Nat.add_sub_cancel]
      refine row_cg fun j hj => ?_
      show nth (row _ _) (1 + j) - _ * nth _ (1 + j) = _
      rw [nr (1 + j) (by omega), dn (1 + j) (by omega), Nat.add_comm 1 j]
    unfold SC__law_begins_l1 T__law_begins_l1
    rw [c0]
    repeat rw [Let_eq]
    rw [m0, eqb_t rfl, pz]
    repeat rw [Let_eq]
    rw [em]
    refine ⟨⟨fun _ => by omega, fun p => ⟨by have := of_decide_eq_false p; omega, by rw [row_len]; have := of_decide_eq_false p; omega⟩, fun _ => ⟨by omega, ⟨by show 1 * _ ≤ _; omega, by omega⟩, ?_, ⟨by omega, by omega⟩, fun i hi => ?_, by rw [rngA, row_len]; omega⟩⟩, _, rfl, row_len _ _, fun j hj hjt => ?_, fun j => ?_⟩
    · rw [row_flat, row_len]; omega
    · rw [rngA] at hi
      obtain ⟨j, hj, e⟩ := mem_row hi
      rw [← e]
      show _ ∧ _
      rw [nr (1 + j) (by omega), dn (1 + j) (by omega)]
      exact ⟨by rw [row_len]; omega, by rw [ld]; omega, wc.sm (by decide) (by decide), (Pb' _).sm (by decide) (by decide), sbs _, (cd (1 + j) (by omega)).sm (by decide) (by decide)⟩
    · rw [row_nth hj]
      have q := R_s (nth a) (nth b) (k := k) (t := t) (j := j) hj
      rw [← q]
      congr 1
      by_cases l : j + 1 < k
      · exact sv (j + 1) l (by omega)
      · have : j + 1 = k := by omega
        rw [this, nth_ge (by omega), R_k _ _ (by omega)]
    · rw [nth_row]
      split
      · rename_i l
        have := (sb (j + 1)).sub (cd (j + 1) (by omega))
        refine this.mono ?_
        rw [Nat.succ_mul (t + 1)]
        exact Nat.le_refl _
      · exact Bd.zero (by decide)) (ql a b k).reverse ⟨by rw [List.length_reverse, lq], fun j hj _ => by
    rw [nth_eq (by rw [List.length_reverse, lq]; omega), List.getElem_reverse, row_get]
    have q := R_q (nth a) (nth b) (k := k) (j := j) hj
    rw [← q]
    congr 1
    rw [lq], fun j => by
    by_cases l : j < k
    · rw [nth_eq (by rw [List.length_reverse, lq]; omega), List.getElem_reverse, row_get]
      exact ((Qb' _).dvd (F := 60 ^ 18) (Nat.pow_dvd_pow _ (by decide)) (by decide)).mono (by decide)
    · rw [nth_ge (by rw [List.length_reverse, lq]; omega)]
      exact Bd.zero (by decide)⟩
  have e0 : ((List.range (k - (ql a b k).length)).map T__law_begins_c1) ++ (ql a b k).reverse = (ql a b k).reverse := by
    rw [lq, Nat.sub_self]; rfl
  obtain ⟨L1, s', L2⟩ := L
  unfold SC__law_begins T__law_begins
  rw [lp, Nat.add_sub_cancel]
  repeat rw [Let_eq]
  rw [e0]
  repeat rw [Let_eq]
  rw [L2]
  refine ⟨⟨by omega, by omega, by omega, ?_, by omega, L1⟩, rfl⟩
  rw [List.length_map, List.length_range, List.length_reverse, lq]; omega
end
section
variable (a b : List Rat) (i j : Nat)
theorem cvP_z {t : Nat} (h : i + j < t) : cv (P (nth a) (nth b) i) (P (nth a) (nth b) j) t = 0 := sum_z fun l hl => by
  by_cases q : i < l
  · rw [P_z _ _ i l q, Rat.zero_mul]
  · rw [P_z _ _ j (t - l) (by omega), Rat.mul_zero]
theorem cvP_1 : cv (P (nth a) (nth b) i) (P (nth a) (nth b) j) (i + j) = 1 := by
  unfold cv
  rw [sumN_zero (m := i + 1) (fun l hl => by rw [P_z _ _ i l (by omega), Rat.zero_mul]) (by omega)]
  show sumN _ i + _ = 1
  rw [sum_z fun l hl => by rw [P_z _ _ j (i + j - l) (by omega), Rat.mul_zero]]
  show (0 : Rat) + P (nth a) (nth b) i i * P (nth a) (nth b) j (i + j - i) = 1
  rw [P_1, show i + j - i = j by omega, P_1]
  grind
abbrev ppl : List Rat := row (i + j + 1) (cv (P (nth a) (nth b) i) (P (nth a) (nth b) j))
theorem ppl_nth (t : Nat) : nth (ppl a b i j) t = cv (P (nth a) (nth b) i) (P (nth a) (nth b) j) t := by
  rw [nth_row]
  split
  · rfl
  · rw [cvP_z a b i j (by omega)]
theorem ppl_tr : Tr (ppl a b i j) := Tr.of_last (.inr (by rw [row_len, Nat.add_sub_cancel, ppl_nth, cvP_1]; decide +kernel))
theorem prP_ppl : prP (pl a b i) (pl a b j) = ppl a b i j := eq_of (prP_tr _ _) (ppl_tr a b i j) fun t => by
  rw [prP_nth, ppl_nth, show nth (pl a b i) = P (nth a) (nth b) i from funext (pl_nth a b i), show nth (pl a b j) = P (nth a) (nth b) j from funext (pl_nth a b j)]
end
section
variable {a b : List Rat} {k : Nat} (H : Ro a b k)
include H
theorem ptimes {i j : Nat} (hi : i ≤ k) (hj : j ≤ k) : SC__law_poly_times (pl a b i) (pl a b j) ∧ T__law_poly_times (pl a b i) (pl a b j) = ppl a b i j ∧ Pb (ppl a b i j) 14 (EP * EP) (90 * (MP * MP)) := by
  have p := prod_pb (H.pb hi) (H.pb hj) (by constructor <;> decide) okp okp
  have t := ltimes_ok p.1
  rw [prP_ppl] at t p
  exact ⟨t.1, t.2, p.2⟩
abbrev mo (a b : List Rat) (n : Nat) : List Rat := row n fun t => W (nth a) (nth b) (t + 1) 0
theorem mo_nth {n : Nat} (hn : n ≤ 12) (t : Nat) : (t ≤ n → nth ([(((1 : Int) : Rat))] ++ mo a b n) t = W (nth a) (nth b) t 0) ∧ Bd (60 ^ 12) (9 ^ 12) (nth ([(((1 : Int) : Rat))] ++ mo a b n) t) := by
  have e : [(((1 : Int) : Rat))] ++ mo a b n = row (n + 1) fun t => W (nth a) (nth b) t 0 := by
    refine List.ext_getElem (by rw [List.length_append, row_len, row_len]; show 1 + n = n + 1; omega) fun i h1 h2 => ?_
    rw [row_get]
    cases i with
    | zero => rfl
    | succ i => rw [List.getElem_append_right (by show 1 ≤ i + 1; omega), row_get]; rfl
  rw [e, nth_row]
  constructor
  · intro h; rw [if_pos (by omega)]
  · split
    · exact W_u H.ba H.bb (by omega) 0
    · exact Bd.zero (by decide)
theorem mo_sm {n : Nat} (hn : n ≤ 12) : ∀ q ∈ mo a b n, Sm q := fun q hq => by
  obtain ⟨i, hi, e⟩ := mem_row hq
  rw [← e]; exact W_sm H.ba H.bb (by omega) 0
theorem mo_mo {i j : Nat} (hi : i ≤ k) (hj : j ≤ k) : Mo (mo a b (2 * k)) (ppl a b i j) (EP * EP) (90 * (MP * MP)) (60 ^ 12) (9 ^ 12) := by
  have hk := H.hk
  exact ⟨(ptimes H hi hj).2.2.b, fun t => (mo_nth H (n := 2 * k) (by omega) t).2, by rw [row_len]; omega, by rw [row_len, row_len]; omega, by decide, by decide, by decide, by decide, by decide, by decide⟩
theorem mn_v {i j : Nat} (hi : i ≤ k) (hj : j ≤ k) : mn (mo a b (2 * k)) (ppl a b i j) = if i = j then be (nth b) i else 0 := by
  have hk := H.hk
  have e : mn (mo a b (2 * k)) (ppl a b i j) = sumN (fun t => cv (P (nth a) (nth b) i) (P (nth a) (nth b) j) t * W (nth a) (nth b) t 0) (i + j + 1) := by
    unfold mn
    rw [row_len]
    refine sumN_cg fun t ht => ?_
    rw [ppl_nth, (mo_nth H (n := 2 * k) (by omega) t).1 (by omega)]
  rw [e, PO.mean_P _ _ i j (Nat.le_refl _)]
theorem prod_b {i : Nat} (hi : i ≤ b.length) : SC__law_product_of (b.take i) ∧ T__law_product_of (b.take i) = be (nth b) i := by
  have hb := H.hb
  have ew : b.take i = row i (nth b) := by
    refine List.ext_getElem (by rw [List.length_take, row_len]; omega) fun j h1 h2 => ?_
    rw [row_len] at h2
    rw [List.getElem_take, row_get, nth_eq (by omega)]
  have bd : ∀ j, j ≤ 7 → Bd (60 ^ j) (4 ^ j) (be (nth b) j) := fun j => by
    induction j with
    | zero => intro _; exact Bd.int 1
    | succ j ih =>
      intro h
      rw [Nat.pow_succ, Nat.pow_succ]
      exact (ih (by omega)).mul (H.bb j)
  have bs : ∀ j, j ≤ 7 → Sm (be (nth b) j) := fun j hj => (((bd j hj).dvd (Nat.pow_dvd_pow _ hj) (by decide)).mono (Nat.pow_le_pow_right (by decide) hj)).sm (by decide) (by decide)
  have lp := loop_ix (S := SC__law_product_of_l1) (step := T__law_product_of_l1) (fun j => be (nth b) j) (bs := row i (nth b)) (s := (((1 : Int) : Rat))) rfl fun j hj => by
    rw [row_len] at hj
    rw [row_get]
    exact ⟨⟨bs j (by omega), (H.bb j).sm (by decide) (by decide)⟩, rfl⟩
  rw [row_len] at lp
  unfold SC__law_product_of T__law_product_of
  rw [ew]
  exact ⟨lp.1, lp.2⟩
end
theorem le_big {i : Nat} (h : i < 100) : i < big := by
  have h1 : (2 : Nat) ^ 7 ≤ big := by unfold big; exact Nat.pow_le_pow_right (by decide) (by decide)
  omega
theorem bdz {z : Int} (h : z.natAbs ≤ 4) : Bd 60 4 ((z : Int) : Rat) := ((Bd.int z).dvd (F := 60) ⟨60, rfl⟩ (by decide)).mono h
theorem drawn_ok (s : Int × Int) : SC__law_drawn s ∧ Bd 60 4 (T__law_drawn s).1 := by
  have h2 := tkV_lt (tkS s 4) (m := 9) (by decide)
  have h3 := tkV_lt (tkS (tkS s 4) 9) (m := 5) (by decide)
  have h4 := tkV_lt (tkS (tkS s 4) 9) (m := 3) (by decide)
  have hz : (((tkV (tkS s 4) 9 : Nat) : Int) - 4).natAbs ≤ 4 := by omega
  unfold SC__law_drawn T__law_drawn
  repeat rw [Let_eq]
  refine ⟨fun _ _ => ⟨by omega, le_big (by omega)⟩, ?_⟩
  by_cases p : tkV s 4 < 2
  · rw [decide_eq_true p]; exact bdz hz
  · rw [decide_eq_false p]
    by_cases q : tkV s 4 = 2
    · rw [decide_eq_true q]
      refine ((Bd.divInt (((tkV (tkS s 4) 9 : Nat) : Int) - 4) (d := 1 + tkV (tkS (tkS s 4) 9) 5) (by omega)).dvd ?_ (by decide)).mono hz
      have : 1 + tkV (tkS (tkS s 4) 9) 5 = 1 ∨ 1 + tkV (tkS (tkS s 4) 9) 5 = 2 ∨ 1 + tkV (tkS (tkS s 4) 9) 5 = 3 ∨ 1 + tkV (tkS (tkS s 4) 9) 5 = 4 ∨ 1 + tkV (tkS (tkS s 4) 9) 5 = 5 := by omega
      rcases this with e | e | e | e | e <;> rw [e] <;> decide
    · rw [decide_eq_false q]; exact bdz (by omega)
theorem row_ok (s : Int × Int) {m : Nat} (h2 : m ≤ 25) : SC__law_row s m ∧ (∀ q ∈ (T__law_row s m).1, Bd 60 4 q) ∧ (T__law_row s m).1.length = m := by
  have hL := hlim'
  have hl : (T__law_row s m).1.length = m := by
    show (drawS _ _ _).1.length = m
    rw [drawS_len, List.length_range]
  exact ⟨⟨by omega, allS_inv (I := fun _ => True) (fun s b _ => ⟨(drawn_ok s).1, trivial⟩) _ _ trivial⟩, (drawS_inv (F := T__law_row_c1) (I := fun _ => True) (P := Bd 60 4) (fun s b _ => ⟨trivial, (drawn_ok s).2⟩) (List.range m) s trivial).2, hl⟩
theorem nz_ok (s : Int × Int) : SC__law_nonzero s ∧ Bd 60 4 (T__law_nonzero s).1 := by
  refine ⟨(drawn_ok s).1, ?_⟩
  have h3 := tkV_lt (T__law_drawn s).2 (m := 3) (by decide)
  unfold T__law_nonzero
  repeat rw [Let_eq]
  by_cases p : (T__law_drawn s).1.num = 0
  · rw [decide_eq_true p]; exact bdz (by omega)
  · rw [decide_eq_false p]; exact (drawn_ok s).2
theorem brow_ok (s : Int × Int) {m : Nat} (h2 : m ≤ 25) : AllS SC_law_c1 T_law_c1 (List.range m) s ∧ (∀ q ∈ (drawS T_law_c1 (List.range m) s).1, Bd 60 4 q) ∧ (drawS T_law_c1 (List.range m) s).1.length = m :=
  ⟨allS_inv (I := fun _ => True) (fun s b _ => ⟨(nz_ok s).1, trivial⟩) _ _ trivial, (drawS_inv (F := T_law_c1) (I := fun _ => True) (P := Bd 60 4) (fun s b _ => ⟨trivial, (nz_ok s).2⟩) (List.range m) s trivial).2, by rw [drawS_len, List.length_range]⟩
end
end L37
end

section
set_option Elab.async false
set_option linter.all false
set_option maxRecDepth 100000
set_option maxHeartbeats 4000000
open PySem Pv Tv
namespace L37
open L04 (row row_len row_get row_nth row_app row_cg row_self row_map row_flat row_set loop_ix sumN sumN_cg sumN_head sumN_zero sumN_rev sumN_bd enumT_row mem_row num_0)
open FPS PL
open PO (W W_z P P_z P_1 Q Q_z Q_1 be)
abbrev xMal : Xn := .mk 1 []
abbrev sMal : PySem.Str := PySem.Str.ofString "malformed"
theorem inn_int (k : Nat) (i : Int) : F__law_inner (k + 1) none [.int i] = .ok (.int i, 0) none := by
  unfold F__law_inner g__law_inner
  simp [-List.map_map, fnF, en0, seqS, passS, noS, exprS, retS, retN, retM, putE, setS, iteS, vOfE, eOfV, oOfV, kI, kB, kS, kN, nmV, nmO, op1, op2, opC, tst, tru, truD, notT, andT, orT, blV, vbl, andV, orV, notV, iteE, aNil, aCons, lNil, lCons, tupE, lstE, dicE, Opd.get, callF, frR, callI, callL, own1, addD, subD, negD, cmpD, lenD, intD, tupD, lisD, absD, isiD, tyD, min2D, max2D, Pv.R.of, raiseS, asgS, nameG, nilG, consG, tupG, isD, nisD, isNB, opS, pNone, pSome, seqI', itsD, sItS, putD, wipeE, backE]
theorem inn_cp {k : Nat} {ds : List D} (hl : ds.length ≤ 100000) (h : ∀ d ∈ ds, F__law_inner k none [d] = .ok (d, 0) none) : cp__law_inner_1 (F__law_inner k) [some (.tup ds, 0), none] = .ok (.lst (ds.map fun d => d), 1) [some (.tup ds, 0), none] := by
  refine comp_map1 (fun d => d) (fun d => d) (env1 := [some (.tup ds, 0), none]) (by simp [seqI', nmV, Pv.R.of, itsD]) rfl hl fun d hd => ?_
  have := h d hd
  simp [-List.map_map, fnF, en0, seqS, passS, noS, exprS, retS, retN, retM, putE, setS, iteS, vOfE, eOfV, oOfV, kI, kB, kS, kN, nmV, nmO, op1, op2, opC, tst, tru, truD, notT, andT, orT, blV, vbl, andV, orV, notV, iteE, aNil, aCons, lNil, lCons, tupE, lstE, dicE, Opd.get, callF, frR, callI, callL, own1, addD, subD, negD, cmpD, lenD, intD, tupD, lisD, absD, isiD, tyD, min2D, max2D, Pv.R.of, raiseS, asgS, nameG, nilG, consG, tupG, isD, nisD, isNB, opS, pNone, pSome, seqI', itsD, sItS, putD, wipeE, backE, this]
theorem inn_tup {k : Nat} {ds : List D} (hl : ds.length ≤ 100000) (h : ∀ d ∈ ds, F__law_inner k none [d] = .ok (d, 0) none) : F__law_inner (k + 1) none [.tup ds] = .ok (.tup ds, 0) none := by
  have c := inn_cp hl h
  rw [List.map_id'] at c
  unfold F__law_inner g__law_inner g__law_inner_1
  generalize cp__law_inner_1 (F__law_inner k) = cp at *
  simp [-List.map_map, fnF, en0, seqS, passS, noS, exprS, retS, retN, retM, putE, setS, iteS, vOfE, eOfV, oOfV, kI, kB, kS, kN, nmV, nmO, op1, op2, opC, tst, tru, truD, notT, andT, orT, blV, vbl, andV, orV, notV, iteE, aNil, aCons, lNil, lCons, tupE, lstE, dicE, Opd.get, callF, frR, callI, callL, own1, addD, subD, negD, cmpD, lenD, intD, tupD, lisD, absD, isiD, tyD, min2D, max2D, Pv.R.of, raiseS, asgS, nameG, nilG, consG, tupG, isD, nisD, isNB, opS, pNone, pSome, seqI', itsD, sItS, putD, wipeE, backE, c, tupD]
theorem inn_Q (k : Nat) (q : Rat) : F__law_inner (k + 2) none [eQ q] = .ok (eQ q, 0) none :=
  inn_tup (by show 2 ≤ 100000; decide) fun d hd => by
    rcases List.mem_cons.1 hd with e | e
    · rw [e]; exact inn_int k _
    · rw [List.mem_singleton.1 e]; exact inn_int k _
theorem inn_T (k : Nat) {xs : List Rat} (hl : xs.length ≤ 100000) : F__law_inner (k + 3) none [eT eQ xs] = .ok (eT eQ xs, 0) none :=
  inn_tup (k := k + 2) (ds := xs.map eQ) (by rw [List.length_map]; exact hl) fun d hd => by
    obtain ⟨q, _, e⟩ := List.mem_map.1 hd
    rw [← e]; exact inn_Q k q
theorem inn_TT (k : Nat) {xs : List (List Rat)} (hl : xs.length ≤ 100000) (h : ∀ x ∈ xs, x.length ≤ 100000) : F__law_inner (k + 4) none [eT (eT eQ) xs] = .ok (eT (eT eQ) xs, 0) none :=
  inn_tup (k := k + 3) (ds := xs.map (eT eQ)) (by rw [List.length_map]; exact hl) fun d hd => by
    obtain ⟨q, hq, e⟩ := List.mem_map.1 hd
    rw [← e]; exact inn_T k (h q hq)
theorem plain_tup {ds : List D} (h : F__law_inner 6 none [.tup ds] = .ok (.tup ds, 0) none) : F__law_plain none [.tup ds] = .ok (.tup ds, 0) none := by
  unfold F__law_plain g__law_plain
  simp [-List.map_map, fnF, en0, seqS, passS, noS, exprS, retS, retN, retM, putE, setS, iteS, vOfE, eOfV, oOfV, kI, kB, kS, kN, nmV, nmO, op1, op2, opC, tst, tru, truD, notT, andT, orT, blV, vbl, andV, orV, notV, iteE, aNil, aCons, lNil, lCons, tupE, lstE, dicE, Opd.get, callF, frR, callI, callL, own1, addD, subD, negD, cmpD, lenD, intD, tupD, lisD, absD, isiD, tyD, min2D, max2D, Pv.R.of, raiseS, asgS, nameG, nilG, consG, tupG, isD, nisD, isNB, opS, pNone, pSome, seqI', itsD, sItS, putD, wipeE, backE, h]
theorem plain_T {xs : List Rat} (hl : xs.length ≤ 100000) : F__law_plain none [eT eQ xs] = .ok (eT eQ xs, 0) none := plain_tup (ds := xs.map eQ) (inn_T 3 hl)
theorem plain_Q (q : Rat) : F__law_plain none [eQ q] = .ok (eQ q, 0) none := plain_tup (ds := [.int q.num, .int q.den]) (inn_Q 4 q)
abbrev eP : List (List Rat) × List (List Rat) → D := e2 (eT (eT eQ)) (eT (eT eQ))
theorem plain_P {p : List (List Rat) × List (List Rat)} (h1 : p.1.length ≤ 100000) (h2 : p.2.length ≤ 100000) (h3 : ∀ x ∈ p.1, x.length ≤ 100000) (h4 : ∀ x ∈ p.2, x.length ≤ 100000) : F__law_plain none [eP p] = .ok (eP p, 0) none :=
  plain_tup (ds := [eT (eT eQ) p.1, eT (eT eQ) p.2]) (inn_tup (k := 5) (by show 2 ≤ 100000; decide) fun d hd => by
    rcases List.mem_cons.1 hd with e | e
    · rw [e]; exact inn_TT 1 h1 h3
    · rw [List.mem_singleton.1 e]; exact inn_TT 1 h2 h4)
section
variable {d x v : D}
theorem told0 (h : F_orthogonal_polynomials none [d, x] = .ok (v, 0) none) (p : F__law_plain none [v] = .ok (v, 0) none) : F__law_told none [eN 0, d, x] = .ok (v, 0) none := by
  unfold F__law_told g__law_told
  simp [-List.map_map, fnF, en0, seqS, passS, noS, exprS, retS, retN, retM, putE, setS, iteS, vOfE, eOfV, oOfV, kI, kB, kS, kN, nmV, nmO, op1, op2, opC, tst, tru, truD, notT, andT, orT, blV, vbl, andV, orV, notV, iteE, aNil, aCons, lNil, lCons, tupE, lstE, dicE, Opd.get, callF, frR, callI, callL, own1, addD, subD, negD, cmpD, lenD, intD, tupD, lisD, absD, isiD, tyD, min2D, max2D, Pv.R.of, raiseS, asgS, nameG, nilG, consG, tupG, isD, nisD, isNB, opS, pNone, pSome, seqI', itsD, sItS, putD, wipeE, backE, h, p, tryS]
theorem told1 (h : F_polynomial_mean none [d, x] = .ok (v, 0) none) (p : F__law_plain none [v] = .ok (v, 0) none) : F__law_told none [eN 1, d, x] = .ok (v, 0) none := by
  unfold F__law_told g__law_told
  simp [-List.map_map, fnF, en0, seqS, passS, noS, exprS, retS, retN, retM, putE, setS, iteS, vOfE, eOfV, oOfV, kI, kB, kS, kN, nmV, nmO, op1, op2, opC, tst, tru, truD, notT, andT, orT, blV, vbl, andV, orV, notV, iteE, aNil, aCons, lNil, lCons, tupE, lstE, dicE, Opd.get, callF, frR, callI, callL, own1, addD, subD, negD, cmpD, lenD, intD, tupD, lisD, absD, isiD, tyD, min2D, max2D, Pv.R.of, raiseS, asgS, nameG, nilG, consG, tupG, isD, nisD, isNB, opS, pNone, pSome, seqI', itsD, sItS, putD, wipeE, backE, h, p, tryS]
theorem mal0 (h : F_orthogonal_polynomials none [d, x] = .ex xMal) : F__law_told none [eN 0, d, x] = .ok (.str sMal, 0) none := by
  unfold F__law_told g__law_told
  simp [-List.map_map, fnF, en0, seqS, passS, noS, exprS, retS, retN, retM, putE, setS, iteS, vOfE, eOfV, oOfV, kI, kB, kS, kN, nmV, nmO, op1, op2, opC, tst, tru, truD, notT, andT, orT, blV, vbl, andV, orV, notV, iteE, aNil, aCons, lNil, lCons, tupE, lstE, dicE, Opd.get, callF, frR, callI, callL, own1, addD, subD, negD, cmpD, lenD, intD, tupD, lisD, absD, isiD, tyD, min2D, max2D, Pv.R.of, raiseS, asgS, nameG, nilG, consG, tupG, isD, nisD, isNB, opS, pNone, pSome, seqI', itsD, sItS, putD, wipeE, backE, h, tryS, SR.noX]
theorem mal1 (h : F_polynomial_mean none [d, x] = .ex xMal) : F__law_told none [eN 1, d, x] = .ok (.str sMal, 0) none := by
  unfold F__law_told g__law_told
  simp [-List.map_map, fnF, en0, seqS, passS, noS, exprS, retS, retN, retM, putE, setS, iteS, vOfE, eOfV, oOfV, kI, kB, kS, kN, nmV, nmO, op1, op2, opC, tst, tru, truD, notT, andT, orT, blV, vbl, andV, orV, notV, iteE, aNil, aCons, lNil, lCons, tupE, lstE, dicE, Opd.get, callF, frR, callI, callL, own1, addD, subD, negD, cmpD, lenD, intD, tupD, lisD, absD, isiD, tyD, min2D, max2D, Pv.R.of, raiseS, asgS, nameG, nilG, consG, tupG, isD, nisD, isNB, opS, pNone, pSome, seqI', itsD, sItS, putD, wipeE, backE, h, tryS, SR.noX]
end
theorem tv {w : Nat} {d x v : D} (h : F__law_told none [eN w, eD d, eD x] = .ok (v, 0) none) : SC__law_told w d x ∧ T__law_told w d x = v := by
  have e : T__law_told w d x = v := by unfold T__law_told; rw [h]; rfl
  exact ⟨by unfold SC__law_told; rw [h]; rfl, e⟩
theorem pv_ {d v : D} (h : F__law_plain none [eD d] = .ok (v, 0) none) : SC__law_plain d ∧ T__law_plain d = v := by
  have e : T__law_plain d = v := by unfold T__law_plain; rw [h]; rfl
  exact ⟨by unfold SC__law_plain; rw [h]; rfl, e⟩
theorem same {α : Type} {e : α → D} {k : Nat} (h : Pl e k) (hk : k ≤ 64) (a : α) : EqOk (e a) (e a) ∧ eqDD (e a) (e a) = true := by
  have p := h.pl hk a
  have := eqDD_pl p p
  exact ⟨this.1, this.2.2 rfl⟩
theorem pl_s {s : PySem.Str} (h : PyData.strOk s = true) : PlD (D.str s) := ⟨by simp [plD, h], by simp [dpD]⟩
theorem mal_eq : EqOk (eD (.str sMal)) (eS sMal) ∧ eqDD (eD (.str sMal)) (eS sMal) = true := by
  have p := pl_s ok_mal
  have := eqDD_pl p p
  exact ⟨this.1, this.2.2 rfl⟩
theorem lst_eq (k : Nat) (hk : k ≤ 6) : EqOk ((eL eD) (List.replicate k (D.str sMal))) ((eL eS) (List.replicate k [sMal]).flatten) ∧ eqDD ((eL eD) (List.replicate k (D.str sMal))) ((eL eS) (List.replicate k [sMal]).flatten) = true := by
  have e : (eL eS) (List.replicate k [sMal]).flatten = (eL eD) (List.replicate k (D.str sMal)) := by
    show D.lst _ = D.lst _
    have : k = 0 ∨ k = 1 ∨ k = 2 ∨ k = 3 ∨ k = 4 ∨ k = 5 ∨ k = 6 := by omega
    rcases this with e | e | e | e | e | e | e <;> subst e <;> rfl
  rw [e]
  have p : PlD ((eL eD) (List.replicate k (D.str sMal))) := PlD.lst (k := 0) (fun d hd => by
    obtain ⟨x, hx, e⟩ := List.mem_map.1 hd
    rw [← e, List.eq_of_mem_replicate hx]
    exact ⟨(pl_s ok_mal).p, by show dpD (.str _) ≤ 0; simp [dpD]⟩) (by decide)
  have := eqDD_pl p p
  exact ⟨this.1, this.2.2 rfl⟩
theorem not_t {b : Bool} (h : (!b) = false) : b = true := by cases b <;> first | rfl | cases h
theorem all_x {d : D} {f : D → Bool} (hf : f = isRatD) (h : ∃ b ∈ tupOf d, isRatD b = false) : ((tupOf d).map f).all id = false := by
  obtain ⟨b, hb, hr⟩ := h
  rw [List.all_eq_false]
  refine ⟨isRatD b, ?_, by rw [hr]; decide⟩
  rw [hf]; exact List.mem_map_of_mem hb
theorem vok_0 {d : D} (h : nice d = true) (h0 : tupOf d = []) : VOk d := ⟨h, fun b hb => (by rw [h0] at hb; cases hb), (by rw [h0]; exact Nat.zero_le _)⟩
theorem vok_T' {xs : List D} (h : ∀ x ∈ xs, ratOk x) (hl : xs.length ≤ lim) : VOk (.tup xs) := ⟨rfl, h, hl⟩
theorem rat2 {x : D} {j : Int} (hx : nice x = true) (hj : j.natAbs < 100) : ratOk (.tup [x, .int j]) where
  n := rfl
  m := fun ds e => by cases e; simp only [List.all_cons, hx, List.all_nil, Bool.and_true, Bool.true_and]; rfl
  b := fun a b e => by
    have e := List.cons.inj (D.tup.inj e)
    have e := D.int.inj (List.cons.inj e.2).1
    rw [← e]
    have h1 : (2 : Nat) ^ 7 ≤ big := by unfold big; exact Nat.pow_le_pow_right (by decide) (by decide)
    omega
theorem rat0 {x : D} (hx : nice x = true) (h : isTupD x = false) : ratOk x where
  n := hx
  m := fun ds e => by subst e; cases h
  b := fun a b e => by subst e; cases h
theorem rep_mem {α : Type} {n : Nat} {x y : α} (h : x ∈ (List.replicate n [y]).flatten) : x = y := by
  rw [row_flat] at h
  obtain ⟨_, _, e⟩ := mem_row h
  exact e.symm
theorem rep_len {α : Type} (n : Nat) (y : α) : ((List.replicate n [y]).flatten).length = n := by rw [row_flat, row_len]
theorem vb_0 {d : D} (h : nice d = true) (h0 : isTupD d = false) : VOk d := vok_0 h (by cases d <;> first | rfl | cases h0)
theorem vok_1 {x : D} (h : ratOk x) : VOk (.tup [x]) := vok_T' (fun y hy => by rw [List.mem_singleton.1 hy]; exact h) (by show 1 ≤ lim; decide)
structure Bad (d : D) : Prop where
  v : VOk d
  b : isTupD d = false ∨ 12 < (tupOf d).length ∨ ∃ b ∈ tupOf d, isRatD b = false
theorem row_x {d : D} (B : Bad d) : F_check_row none [d] = .ex xMal := by
  refine x_check_row_x1 d ⟨B.v.n, fun a => ⟨not_t a, fun _ => ⟨not_t a, B.v.r, B.v.l⟩⟩, ?_⟩
  rcases B.b with h | h | h
  · rw [h]; rfl
  · rw [decide_eq_true h, Bool.true_or, Bool.or_true]
  · rw [all_x (f := T_check_row_x1_c1) rfl h, Bool.not_false, Bool.or_true, Bool.or_true]
structure BadP (d : D) : Prop where
  v : VOk d
  t : T_is_polynomial d = false
theorem mean_x {m : List Rat} {d : D} (hm : m.length ≤ 12) (hs : ∀ q ∈ m, Sm q) (B : BadP d) : F_polynomial_mean none [eT eQ m, d] = .ex xMal :=
  x_polynomial_mean_x2 m d ⟨irr_t hm hs, B.v.sc, fun a => (by rw [B.t] at a; cases a), by rw [B.t]; rfl⟩
theorem short_x {m f : List Rat} (hm : m.length ≤ 12) (hs : ∀ q ∈ m, Sm q) (hf : Py f) (h : m.length + 1 < f.length) : F_polynomial_mean none [eT eQ m, eT eQ f] = .ex xMal :=
  x_polynomial_mean_x2 m (eT eQ f) ⟨irr_t hm hs, hf.vok.sc, fun _ => rfl, by
    have l : (tupOf (eT eQ f)).length = f.length := List.length_map _
    rw [l, decide_eq_true h, Bool.or_true]⟩
theorem let_intro {α : Type} {x : α} {S : α → Prop} {K : α → Bool} (h : ∀ y, y = x → S y ∧ K y = true) : Let x S ∧ Let x K = true := h x rfl
theorem and_l {A P Q : Prop} (a : A) (h : P ∧ Q) : (A ∧ P) ∧ Q := ⟨⟨a, h.1⟩, h.2⟩
theorem step_t {b : Bool} {B : Prop} {T : Bool} (hb : b = true) (h : B ∧ T = true) : ((!b) = false → B) ∧ cond (!b) false T = true := by subst hb; exact ⟨fun _ => h.1, h.2⟩
theorem or_t {a b : Bool} {P B' : Prop} {T : Bool} (ha : a = true) (hb : b = true) (p : P) (n : B' ∧ T = true) : (((!a) = false → P) ∧ (((!a) || (!b)) = false → B')) ∧ cond ((!a) || (!b)) false T = true := by
  subst ha; subst hb; exact ⟨⟨fun _ => p, fun _ => n.1⟩, n.2⟩
theorem and_t {a b : Bool} {P B : Prop} {T : Bool} (h : a = true → P ∧ b = true) (n : B ∧ T = true) : ((a = true → P) ∧ ((a && (!b)) = false → B)) ∧ cond (a && (!b)) false T = true := by
  cases a with
  | true =>
    obtain ⟨p, hb⟩ := h rfl
    subst hb
    exact ⟨⟨fun _ => p, fun _ => n.1⟩, n.2⟩
  | false => exact ⟨⟨fun q => (by cases q), fun _ => n.1⟩, n.2⟩
theorem ltx {α : Type} {r : Stp α Bool} {v : α} {S : α → Prop} {K : α → Bool} (h : r = .go v) (n : S v ∧ K v = true) : LetP r S ∧ LetX r (fun r => r) K = true := by subst h; exact n
theorem loop_u {β : Type} {S : Unit → β → Prop} {step : Unit → β → Stp Unit Bool} : ∀ (bs : List β), (∀ b ∈ bs, S () b ∧ step () b = .go ()) → AllX S step bs () ∧ loopT step bs () = .go ()
  | [], _ => ⟨trivial, rfl⟩
  | b :: bs, h => by
    obtain ⟨h1, e⟩ := h b List.mem_cons_self
    have r := loop_u bs fun c hc => h c (List.mem_cons_of_mem _ hc)
    refine ⟨⟨h1, ?_⟩, ?_⟩
    · rw [e]; exact r.1
    · unfold loopT
      rw [e]; exact r.2
theorem bad3 {d : D} (B : Bad d) {a b f : List Rat} (ca : SC_check_row (eT eQ a)) {X : Prop} {T : Bool} (nn : X ∧ T = true) :
    ((SC__law_told 0 d ((eT eQ) b)) ∧ (SC__law_told 0 ((eT eQ) a) d) ∧ (SC__law_told 1 d ((eT eQ) f)) ∧ (([sMal]).length * 3 ≤ lim ∧ 3 ≤ lim) ∧
      (EqOk ((eL eD) [(T__law_told 0 d ((eT eQ) b)), (T__law_told 0 ((eT eQ) a) d), (T__law_told 1 d ((eT eQ) f))]) ((eL eS) (List.replicate 3 ([sMal])).flatten)) ∧
      ((!eqDD ((eL eD) [(T__law_told 0 d ((eT eQ) b)), (T__law_told 0 ((eT eQ) a) d), (T__law_told 1 d ((eT eQ) f))]) ((eL eS) (List.replicate 3 ([sMal])).flatten)) = false → X)) ∧
    cond (!eqDD ((eL eD) [(T__law_told 0 d ((eT eQ) b)), (T__law_told 0 ((eT eQ) a) d), (T__law_told 1 d ((eT eQ) f))]) ((eL eS) (List.replicate 3 ([sMal])).flatten)) false T = true := by
  have h0 := tv (w := 0) (d := d) (x := eT eQ b) (mal0 (x_orthogonal_polynomials_x1 d (eT eQ b) xMal (row_x B)))
  have h1 := tv (w := 0) (d := eT eQ a) (x := d) (mal0 (x_orthogonal_polynomials_x2 a d xMal ⟨ca, row_x B⟩))
  have h2 := tv (w := 1) (d := d) (x := eT eQ f) (mal1 (x_polynomial_mean_x1 d (eT eQ f) xMal (row_x B)))
  rw [h0.2, h1.2, h2.2]
  have k := lst_eq 3 (by decide)
  exact and_l h0.1 (and_l h1.1 (and_l h2.1 (and_l ⟨by decide, by decide⟩ (and_l k.1 (step_t k.2 nn)))))
end L37
end

section
set_option Elab.async false
set_option linter.all false
set_option maxRecDepth 100000
set_option maxHeartbeats 4000000
open PySem Pv Tv
namespace L37
open L04 (row row_len row_get row_nth row_app row_cg row_self row_map row_flat row_set loop_ix sumN sumN_cg sumN_head sumN_zero sumN_rev sumN_bd enumT_row mem_row num_0)
open FPS PL
open PO (W W_z P P_z P_1 Q Q_z Q_1 be)
section
variable {a b : List Rat} {k : Nat} (H : Ro a b k)
include H
theorem orth_t : SC__law_told 0 (eT eQ a) (eT eQ b) ∧ T__law_told 0 (eT eQ a) (eT eQ b) = eP (row (k + 1) (pl a b), row (k + 1) (ql a b)) := by
  have hk := H.hk
  have o := orth_ok H
  have f : F_orthogonal_polynomials none [eT eQ a, eT eQ b] = .ok (eP (row (k + 1) (pl a b), row (k + 1) (ql a b)), 0) none := by
    have t := t_orthogonal_polynomials a b o.1
    rw [o.2] at t
    exact t
  refine tv (told0 f (plain_P (by rw [row_len]; omega) (by rw [row_len]; omega) (fun x hx => ?_) fun x hx => ?_))
  · obtain ⟨i, hi, e⟩ := mem_row hx
    rw [← e, row_len]; omega
  · obtain ⟨i, hi, e⟩ := mem_row hx
    rw [← e, row_len]; omega
theorem mean_t {m f : List Rat} {E M E' M' : Nat} (O : Mo m f E M E' M') (hm : ∀ q ∈ m, Sm q) (hf : Tr f) : SC__law_told 1 (eT eQ m) (eT eQ f) ∧ T__law_told 1 (eT eQ m) (eT eQ f) = eQ (mn m f) := by
  have o := O.pm_ok hm hf
  have t := t_polynomial_mean m f o.1
  rw [o.2] at t
  exact tv (told1 t (plain_Q _))
theorem l1_ok {i j : Nat} (hi : i ≤ k) (hj : j ≤ k) : SC_law_l1 k b (row (k + 1) (pl a b), row (k + 1) (ql a b)) (mo a b (2 * k)) i () j ∧ T_law_l1 k b (row (k + 1) (pl a b), row (k + 1) (ql a b)) (mo a b (2 * k)) i () j = .go () := by
  have hk := H.hk
  have lb := H.lb
  have p := ptimes H hi hj
  have O := mo_mo H hi hj
  have me := O.lok
  have mt := mean_t H O (mo_sm H (n := 2 * k) (by omega)) (ppl_tr a b i j)
  have mv := mn_v H hi hj
  have np : ∀ l ≤ k, Tv.nth (row (k + 1) (pl a b)) l = pl a b l := fun l hl => row_nth (by omega)
  have sq := same pl_Q (by decide) (mn (mo a b (2 * k)) (ppl a b i j))
  unfold SC_law_l1 T_law_l1
  dsimp only
  rw [np i hi, np j hj, p.2.1]
  repeat rw [Let_eq]
  rw [mt.2, me.2, mv]
  rw [mv] at sq
  rw [show eD (eQ (if i = j then be (nth b) i else 0)) = eQ (if i = j then be (nth b) i else 0) from rfl, sq.2]
  have z1 : (decide (i + j < 2 * k) && ((!decide (i = j)) && (!decide ((if i = j then be (nth b) i else 0 : Rat).num = 0)))) = false := by
    by_cases e : i = j
    · rw [decide_eq_true e]; simp
    · rw [if_neg e]
      simp
  rw [z1]
  refine ⟨⟨by rw [row_len]; omega, by rw [row_len]; omega, p.1, fun _ => ⟨mt.1, me.1, sq.1⟩, fun _ => ⟨fun _ _ => me.1, fun _ => fun e l => ?_⟩⟩, ?_⟩
  · have l := of_decide_eq_true l
    exact ⟨me.1, (prod_b H (by omega)).1⟩
  · have z2 : (decide (i = j) && (decide (i < k) && (!Tv.eqb (if i = j then be (nth b) i else 0) (T__law_product_of (b.take i))))) = false := by
      by_cases e : i = j
      · by_cases l : i < k
        · rw [if_pos e, (prod_b H (by omega)).2, eqb_t rfl]; simp
        · rw [decide_eq_false l]; simp
      · rw [decide_eq_false e]; rfl
    rw [z2]
    simp
theorem l2_ok {i : Nat} (hi : i ≤ k) : SC_law_l2 k b (row (k + 1) (pl a b), row (k + 1) (ql a b)) (mo a b (2 * k)) () i ∧ T_law_l2 k b (row (k + 1) (pl a b), row (k + 1) (ql a b)) (mo a b (2 * k)) () i = .go () := by
  have hk := H.hk
  have hL := hlim'
  have L := loop_u (S := SC_law_l1 k b (row (k + 1) (pl a b), row (k + 1) (ql a b)) (mo a b (2 * k)) i) (step := T_law_l1 k b (row (k + 1) (pl a b), row (k + 1) (ql a b)) (mo a b (2 * k)) i) (List.range (k + 1)) fun j hj => l1_ok H hi (by have := List.mem_range.1 hj; omega)
  unfold SC_law_l2 T_law_l2
  rw [L.2]
  exact ⟨⟨by omega, L.1⟩, rfl⟩
theorem l3_ok {i : Nat} (h1 : 1 ≤ i) (hi : i ≤ k) : SC_law_l3 (row (k + 1) (pl a b), row (k + 1) (ql a b)) (mo a b (2 * k)) () i ∧ T_law_l3 (row (k + 1) (pl a b), row (k + 1) (ql a b)) (mo a b (2 * k)) () i = .go () := by
  have hk := H.hk
  have B := begins_ok H.ba H.bb h1 (by omega : i ≤ 6) (by omega : 2 * i ≤ 2 * k) (by omega)
  have np : Tv.nth (row (k + 1) (pl a b)) i = pl a b i := row_nth (by omega)
  have nq : Tv.nth (row (k + 1) (ql a b)) i = ql a b i := row_nth (by omega)
  unfold SC_law_l3 T_law_l3
  dsimp only
  rw [np, nq, B.2]
  exact ⟨⟨by rw [row_len]; omega, by rw [row_len]; omega, B.1⟩, rfl⟩
end
theorem law_ok (ns : List Int) : SC_law ns ∧ T_law ns = true := by
  have hL := hlim'
  unfold SC_law T_law
  refine let_intro fun s0 _ => let_intro fun k hk => let_intro fun s1 _ => ?_
  have hk6 : k ≤ 6 := by have := tkV_lt s0 (m := 7) (by decide); omega
  clear hk
  have r1 := row_ok s1 (m := k) (by omega)
  have t2 := tkV_lt (T__law_row s1 k).2 (m := 2) (by decide)
  obtain ⟨c, hc⟩ : ∃ c, ((max (((k : Nat) : Int) - 1) 0) + (((Tv.tkV (T__law_row s1 k).2 2) : Nat) : Int)) = ((c : Nat) : Int) := ⟨(k - 1) + tkV (T__law_row s1 k).2 2, by omega⟩
  have c1 : k - 1 ≤ c ∧ c ≤ 7 := by omega
  have r2 := brow_ok (Tv.tkS (T__law_row s1 k).2 2) (m := c) (by omega)
  rw [hc, Int.toNat_natCast]
  refine and_l r1.1 (and_l ⟨by omega, by omega⟩ (and_l r2.1 (and_l (by rw [List.length_range]; omega) (let_intro fun a ha => let_intro fun b hb => let_intro fun s2 _ => ?_))))
  have bm : ∀ {xs : List Rat}, (∀ q ∈ xs, Bd 60 4 q) → ∀ i, Bd 60 4 (nth xs i) := fun {xs} h => bd_mem (by decide) h
  have H : Ro a b k := ⟨by rw [ha]; exact r1.2.2, hk6, by rw [hb, r2.2.2]; exact c1.1, by rw [hb, r2.2.2]; exact c1.2, bm (by rw [ha]; exact r1.2.1), bm (by rw [hb]; exact r2.2.1)⟩
  clear ha hb r1 r2 hc c1 t2
  have rc := rec_ok H
  refine and_l rc.1 (let_intro fun p hp => ?_)
  have hp : p = (row (k + 1) (pl a b), row (k + 1) (ql a b)) := hp.trans rc.2
  subst hp
  have ot := orth_t H
  have plP : Pl eP 4 := (pl_Q.T.T).t2 (pl_Q.T.T)
  have e1 := same plP (by decide) (row (k + 1) (pl a b), row (k + 1) (ql a b))
  rw [ot.2]
  refine and_l ot.1 (and_l e1.1 (step_t e1.2 ?_))
  have lm := lpm_ok H.ba H.bb (n := 2 * k) (by omega)
  have pm := mp_ok H.ba H.bb (n := 2 * k) (by omega)
  refine and_l lm.1 (let_intro fun ro hro => ?_)
  have hro : ro = mo a b (2 * k) := hro.trans lm.2
  subst hro
  have cc : SC_check_count (eN (2 * k)) := by
    refine ⟨rfl, fun _ => ⟨rfl, fun _ => rfl⟩, ?_⟩
    have i1 : intOf (eN (2 * k)) = ((2 * k : Nat) : Int) := rfl
    rw [i1, decide_eq_true (show (0 : Int) ≤ ((2 * k : Nat) : Int) by omega), decide_eq_true (show ((2 * k : Nat) : Int) ≤ 12 by omega)]; rfl
  have pme : T_path_moments a b (2 * k) = mo a b (2 * k) := pm.2
  have pt := plain_T (xs := mo a b (2 * k)) (by rw [row_len]; omega)
  have pl := pv_ pt
  have e2 := same pl_Q.T (by decide) (mo a b (2 * k))
  rw [pme, pl.2]
  refine and_l ⟨H.ca, H.cb, cc, pm.1⟩ (and_l pl.1 (and_l e2.1 (step_t e2.2 ?_)))
  have L2 := loop_u (S := SC_law_l2 k b (row (k + 1) (L37.pl a b), row (k + 1) (ql a b)) (mo a b (2 * k))) (step := T_law_l2 k b (row (k + 1) (L37.pl a b), row (k + 1) (ql a b)) (mo a b (2 * k))) (List.range (k + 1)) fun i hi => l2_ok H (by have := List.mem_range.1 hi; omega)
  have L3 := loop_u (S := SC_law_l3 (row (k + 1) (L37.pl a b), row (k + 1) (ql a b)) (mo a b (2 * k))) (step := T_law_l3 (row (k + 1) (L37.pl a b), row (k + 1) (ql a b)) (mo a b (2 * k))) (rng 1 (k + 1)) fun i hi => by
    rw [rngA] at hi
    obtain ⟨j, hj, e⟩ := mem_row hi
    exact l3_ok H (by omega) (by omega)
  refine and_l (by omega) (and_l L2.1 (ltx L2.2 (and_l ⟨by omega, by omega⟩ (and_l L3.1 (ltx L3.2 ?_)))))
  clear L2 L3 pt pl pme cc pm lm e1 e2 plP ot rc
  have i12 := tkV_lt s2 (m := 12) (by decide)
  have r3 := row_ok (Tv.tkS s2 12) (m := 1 + tkV s2 12) (by omega)
  have tr3 := tr_while 200 (T__law_row (Tv.tkS s2 12) (1 + tkV s2 12)).1 (by rw [r3.2.2]; omega)
  refine and_l r3.1 (and_l tr3.1 (let_intro fun f hf => let_intro fun s4 _ => ?_))
  have hf : f = tr (T__law_row (Tv.tkS s2 12) (1 + tkV s2 12)).1 := hf.trans tr3.2
  have fb : ∀ i, Bd 60 4 (nth f i) := fun i => by rw [hf, tr_nth]; exact bm r3.2.1 i
  have ft : Tr f := by rw [hf]; exact tr_tr _
  have fl : f.length ≤ 12 := by
    have := tr_len (T__law_row (Tv.tkS s2 12) (1 + tkV s2 12)).1
    rw [r3.2.2] at this
    rw [hf]; omega
  clear hf r3 tr3
  have r4 := row_ok s4 (m := 12) (by omega)
  refine and_l r4.1 (let_intro fun m hm => let_intro fun s5 _ => ?_)
  have mb : ∀ q ∈ m, Bd 60 4 q := by rw [hm]; exact r4.2.1
  have ml : m.length = 12 := by rw [hm]; exact r4.2.2
  clear hm r4
  have ms : ∀ q ∈ m, Sm q := fun q hq => (mb q hq).sm (by decide) (by decide)
  have mw : ∀ i, Bd 60 4 (nth ([(((1 : Int) : Rat))] ++ m) i) := bm fun q hq => by
    rcases List.mem_append.1 hq with h | h
    · rw [List.mem_singleton.1 h]; exact bdz (z := 1) (by decide)
    · exact mb q h
  have O : ∀ {g : List Rat}, (∀ i, Bd 60 4 (nth g i)) → g.length ≤ 13 → Mo m g 60 4 60 4 := fun {g} gb gl => ⟨gb, mw, by omega, by omega, by decide, by decide, by decide, by decide, by decide, by decide⟩
  have mt := mean_t H (O fb (by omega)) ms ft
  have me := (O fb (by omega)).lok
  have mt0 := mean_t H (O (g := []) (fun i => by rw [nth_nil]; exact Bd.zero (by decide)) (by decide)) ms (Tr.of_last (.inl rfl))
  have q1 := same pl_Q (by decide) (mn m f)
  have q0 := same pl_Q (by decide) (0 : Rat)
  have mt0 : SC__law_told 1 (eT eQ m) (D.tup []) ∧ T__law_told 1 (eT eQ m) (D.tup []) = eQ 0 := mt0
  have q0 : EqOk (eD (eQ 0)) ((e2 eN eN) (0, 1)) ∧ eqDD (eD (eQ 0)) ((e2 eN eN) (0, 1)) = true := q0
  have q1 : EqOk (eD (eQ (mn m f))) (eQ (mn m f)) ∧ eqDD (eD (eQ (mn m f))) (eQ (mn m f)) = true := q1
  rw [mt.2, me.2, mt0.2]
  refine and_l mt.1 (and_l me.1 (and_l q1.1 (or_t q1.2 q0.2 ⟨mt0.1, q0.1⟩ ?_)))
  have py : Py f := ⟨ft, by omega, sm_of_nth fun i => (fb i).sm (by decide) (by decide)⟩
  refine and_t (fun h => ?_) ?_
  · have h := of_decide_eq_true h
    have s := tv (w := 1) (d := eT eQ (m.take (f.length - 2))) (x := eT eQ f) (mal1 (short_x (by rw [List.length_take]; omega) (fun q hq => ms q (List.mem_of_mem_take hq)) py (by rw [List.length_take]; omega)))
    have k := mal_eq
    rw [s.2]
    exact ⟨⟨by omega, s.1, k.1⟩, k.2⟩
  refine and_l ⟨by show 1 * 13 ≤ lim; omega, by omega⟩ ?_
  have b1 : Bad (eU ()) := ⟨vb_0 rfl rfl, .inl rfl⟩
  have b2 : Bad (eN 5) := ⟨vb_0 rfl rfl, .inl rfl⟩
  have b3 : Bad ((eL (e2 eN eN)) [(1, 1)]) := ⟨vb_0 rfl rfl, .inl rfl⟩
  have b4 : Bad ((eT (e2 eN eN)) [(2, 4)]) := ⟨vok_1 (rat2 (x := .int 2) (j := 4) rfl (by decide)), .inr (.inr ⟨.tup [.int 2, .int 4], List.mem_cons_self, by decide⟩)⟩
  have b5 : Bad ((eT eN) [1]) := ⟨vok_1 (rat0 (x := .int 1) rfl rfl), .inr (.inr ⟨.int 1, List.mem_cons_self, rfl⟩)⟩
  have b6 : Bad ((eT (e2 eN eN)) (List.replicate 13 [((1 : Nat), (1 : Nat))]).flatten) := ⟨vok_T' (fun x hx => by
    obtain ⟨p, hp, e⟩ := List.mem_map.1 hx
    rw [← e, rep_mem hp]
    exact rat2 (x := .int 1) (j := 1) rfl (by decide)) (by rw [List.length_map, rep_len]; decide), .inr (.inl (by show 12 < (List.map _ _).length; rw [List.length_map, rep_len]; decide))⟩
  have ca := H.ca
  refine bad3 b1 ca (bad3 b2 ca (bad3 b3 ca (bad3 b4 ca (bad3 b5 ca (bad3 b6 ca ?_)))))
  refine and_t (fun h => ?_) ?_
  · have h := of_decide_eq_true h
    have la := H.la
    have lb := H.lb
    have s := tv (w := 0) (d := eT eQ a) (x := eT eQ (b.take (k - 2))) (mal0 (x_orthogonal_polynomials_x3 a (b.take (k - 2)) ⟨ca, irr_t (by rw [List.length_take]; omega) (fun q hq => H.bs q (List.mem_of_mem_take hq)), decide_eq_true (by rw [List.length_take]; omega)⟩))
    have kk := mal_eq
    rw [s.2]
    exact ⟨⟨by omega, s.1, kk.1⟩, kk.2⟩
  have c2 : ∀ {d : D}, BadP d → SC_law_c2 m d ∧ T_law_c2 m d = .str sMal := fun {d} B => tv (w := 1) (d := eT eQ m) (x := d) (mal1 (mean_x (by omega) ms B))
  have p1 := c2 (d := eU ()) ⟨vb_0 rfl rfl, rfl⟩
  have p2 := c2 (d := eN 5) ⟨vb_0 rfl rfl, rfl⟩
  have p3 := c2 (d := (eT (e2 eN eN)) [(0, 1)]) ⟨vok_1 (rat2 (x := .int 0) (j := 1) rfl (by decide)), by kernel_rfl⟩
  have p4 := c2 (d := (eT (e2 eN eN)) [(1, 1), (0, 1)]) ⟨vok_T' (fun x hx => by
    rcases List.mem_cons.1 hx with e | hx
    · rw [e]; exact rat2 (x := .int 1) (j := 1) rfl (by decide)
    · rw [List.mem_singleton.1 hx]; exact rat2 (x := .int 0) (j := 1) rfl (by decide)) (by show 2 ≤ lim; decide), by kernel_rfl⟩
  have p5 := c2 (d := (eL (e2 eN eN)) [(1, 1)]) ⟨vb_0 rfl rfl, rfl⟩
  have p6 := c2 (d := (eT (e2 eN eN)) [(2, 4)]) ⟨b4.v, by kernel_rfl⟩
  have kk := lst_eq 6 (by decide)
  have em : (([(eU ()), (eN 5), ((eT (e2 eN eN)) [(0, 1)]), ((eT (e2 eN eN)) [(1, 1), (0, 1)]), ((eL (e2 eN eN)) [(1, 1)]), ((eT (e2 eN eN)) [(2, 4)])] : List D).map (T_law_c2 m)) = List.replicate 6 (D.str sMal) := by
    show [T_law_c2 m _, T_law_c2 m _, T_law_c2 m _, T_law_c2 m _, T_law_c2 m _, T_law_c2 m _] = _
    rw [p1.2, p2.2, p3.2, p4.2, p5.2, p6.2]; rfl
  rw [em]
  refine ⟨⟨fun d hd => ?_, by show 6 ≤ lim; omega, ⟨by show 1 * 6 ≤ lim; omega, by omega⟩, kk.1⟩, kk.2⟩
  rcases List.mem_cons.1 hd with e | hd
  · rw [e]; exact p1.1
  rcases List.mem_cons.1 hd with e | hd
  · rw [e]; exact p2.1
  rcases List.mem_cons.1 hd with e | hd
  · rw [e]; exact p3.1
  rcases List.mem_cons.1 hd with e | hd
  · rw [e]; exact p4.1
  rcases List.mem_cons.1 hd with e | hd
  · rw [e]; exact p5.1
  · rw [List.mem_singleton.1 hd]; exact p6.1
theorem law_all (ns : List Int) (h : ns.length ≤ 63) : ∃ fin, F_law none [.scr ns] = .ok (.bl true, 0) fin := by
  have h := law_ok ns
  have := t_law ns h.1
  rw [h.2] at this
  exact ⟨none, this⟩
end L37
end

namespace L37
open PySem PySem.Spec PyProof.Rows L2 Pv
theorem all_mk {l : PySem.W.OpenLaw} {w : World} {K : PySem.W.Frag} {h : Heap} {mg : Str → Option Value} {fa : Addr} (X : K.In h) (G : h.Ns mainGlobals mg) (hfa : mg "law" = some (.ref fa))
    {f0 : Addr} {oc0 : Value} {od0 an0 : Option Addr} {sl0 : Array (Option Value)} {kV0 dc0 pm0 cd0 ct0 : Value}
    {f1 : Addr} {oc1 : Value} {od1 an1 : Option Addr} {sl1 : Array (Option Value)} {kV1 dc1 pm1 cd1 ct1 : Value}
    {f2 : Addr} {oc2 : Value} {od2 an2 : Option Addr} {sl2 : Array (Option Value)} {kV2 dc2 pm2 cd2 ct2 : Value}
    {f3 : Addr} {oc3 : Value} {od3 an3 : Option Addr} {sl3 : Array (Option Value)} {kV3 dc3 pm3 cd3 ct3 : Value}
    {f4 : Addr} {oc4 : Value} {od4 an4 : Option Addr} {sl4 : Array (Option Value)} {kV4 dc4 pm4 cd4 ct4 : Value}
    {f5 : Addr} {oc5 : Value} {od5 an5 : Option Addr} {sl5 : Array (Option Value)} {kV5 dc5 pm5 cd5 ct5 : Value}
    {f6 : Addr} {oc6 : Value} {od6 an6 : Option Addr} {sl6 : Array (Option Value)} {kV6 dc6 pm6 cd6 ct6 : Value}
    {f7 : Addr} {oc7 : Value} {od7 an7 : Option Addr} {sl7 : Array (Option Value)} {kV7 dc7 pm7 cd7 ct7 : Value}
    {f8 : Addr} {oc8 : Value} {od8 an8 : Option Addr} {sl8 : Array (Option Value)} {kV8 dc8 pm8 cd8 ct8 : Value}
    {f9 : Addr} {oc9 : Value} {od9 an9 : Option Addr} {sl9 : Array (Option Value)} {kV9 dc9 pm9 cd9 ct9 : Value}
    {f10 : Addr} {oc10 : Value} {od10 an10 : Option Addr} {sl10 : Array (Option Value)} {kV10 dc10 pm10 cd10 ct10 : Value}
    {f11 : Addr} {oc11 : Value} {od11 an11 : Option Addr} {sl11 : Array (Option Value)} {kV11 dc11 pm11 cd11 ct11 : Value}
    {f12 : Addr} {oc12 : Value} {od12 an12 : Option Addr} {sl12 : Array (Option Value)} {kV12 dc12 pm12 cd12 ct12 : Value}
    {f13 : Addr} {oc13 : Value} {od13 an13 : Option Addr} {sl13 : Array (Option Value)} {kV13 dc13 pm13 cd13 ct13 : Value}
    {f14 : Addr} {oc14 : Value} {od14 an14 : Option Addr} {sl14 : Array (Option Value)} {kV14 dc14 pm14 cd14 ct14 : Value}
    {f15 : Addr} {oc15 : Value} {od15 an15 : Option Addr} {sl15 : Array (Option Value)} {kV15 dc15 pm15 cd15 ct15 : Value}
    {f16 : Addr} {oc16 : Value} {od16 an16 : Option Addr} {sl16 : Array (Option Value)} {kV16 dc16 pm16 cd16 ct16 : Value}
    {f17 : Addr} {oc17 : Value} {od17 an17 : Option Addr} {sl17 : Array (Option Value)} {kV17 dc17 pm17 cd17 ct17 : Value}
    {f18 : Addr} {oc18 : Value} {od18 an18 : Option Addr} {sl18 : Array (Option Value)} {kV18 dc18 pm18 cd18 ct18 : Value}
    {f19 : Addr} {oc19 : Value} {od19 an19 : Option Addr} {sl19 : Array (Option Value)} {kV19 dc19 pm19 cd19 ct19 : Value}
    {f20 : Addr} {oc20 : Value} {od20 an20 : Option Addr} {sl20 : Array (Option Value)} {kV20 dc20 pm20 cd20 ct20 : Value}
    {f21 : Addr} {oc21 : Value} {od21 an21 : Option Addr} {sl21 : Array (Option Value)} {kV21 dc21 pm21 cd21 ct21 : Value}
    {f22 : Addr} {oc22 : Value} {od22 an22 : Option Addr} {sl22 : Array (Option Value)} {kV22 dc22 pm22 cd22 ct22 : Value}
    {f23 : Addr} {oc23 : Value} {od23 an23 : Option Addr} {sl23 : Array (Option Value)} {kV23 dc23 pm23 cd23 ct23 : Value}
    {f24 : Addr} {oc24 : Value} {od24 an24 : Option Addr} {sl24 : Array (Option Value)} {kV24 dc24 pm24 cd24 ct24 : Value}
    {f25 : Addr} {oc25 : Value} {od25 an25 : Option Addr} {sl25 : Array (Option Value)} {kV25 dc25 pm25 cd25 ct25 : Value}
    {f26 : Addr} {oc26 : Value} {od26 an26 : Option Addr} {sl26 : Array (Option Value)} {kV26 dc26 pm26 cd26 ct26 : Value}
    {f27 : Addr} {oc27 : Value} {od27 an27 : Option Addr} {sl27 : Array (Option Value)} {kV27 dc27 pm27 cd27 ct27 : Value}
    {f28 : Addr} {oc28 : Value} {od28 an28 : Option Addr} {sl28 : Array (Option Value)} {kV28 dc28 pm28 cd28 ct28 : Value}
    {f29 : Addr} {oc29 : Value} {od29 an29 : Option Addr} {sl29 : Array (Option Value)} {kV29 dc29 pm29 cd29 ct29 : Value}
    {f30 : Addr} {oc30 : Value} {od30 an30 : Option Addr} {sl30 : Array (Option Value)} {kV30 dc30 pm30 cd30 ct30 : Value}
    {f31 : Addr} {oc31 : Value} {od31 an31 : Option Addr} {sl31 : Array (Option Value)} {kV31 dc31 pm31 cd31 ct31 : Value}
    {f32 : Addr} {oc32 : Value} {od32 an32 : Option Addr} {sl32 : Array (Option Value)} {kV32 dc32 pm32 cd32 ct32 : Value}
    {f33 : Addr} {oc33 : Value} {od33 an33 : Option Addr} {sl33 : Array (Option Value)} {kV33 dc33 pm33 cd33 ct33 : Value}
    {f34 : Addr} {oc34 : Value} {od34 an34 : Option Addr} {sl34 : Array (Option Value)} {kV34 dc34 pm34 cd34 ct34 : Value}
    {f35 : Addr} {oc35 : Value} {od35 an35 : Option Addr} {sl35 : Array (Option Value)} {kV35 dc35 pm35 cd35 ct35 : Value}
    {f36 : Addr} {oc36 : Value} {od36 an36 : Option Addr} {sl36 : Array (Option Value)} {kV36 dc36 pm36 cd36 ct36 : Value}
    {f37 : Addr} {oc37 : Value} {od37 an37 : Option Addr} {sl37 : Array (Option Value)} {kV37 dc37 pm37 cd37 ct37 : Value}
    {f38 : Addr} {oc38 : Value} {od38 an38 : Option Addr} {sl38 : Array (Option Value)} {kV38 dc38 pm38 cd38 ct38 : Value}
    {f39 : Addr} {oc39 : Value} {od39 an39 : Option Addr} {sl39 : Array (Option Value)} {kV39 dc39 pm39 cd39 ct39 : Value}
    {f40 : Addr} {oc40 : Value} {od40 an40 : Option Addr} {sl40 : Array (Option Value)} {kV40 dc40 pm40 cd40 ct40 : Value}
    {f41 : Addr} {oc41 : Value} {od41 an41 : Option Addr} {sl41 : Array (Option Value)} {kV41 dc41 pm41 cd41 ct41 : Value}
    {f42 : Addr} {oc42 : Value} {od42 an42 : Option Addr} {sl42 : Array (Option Value)} {kV42 dc42 pm42 cd42 ct42 : Value}
    {f43 : Addr} {oc43 : Value} {od43 an43 : Option Addr} {sl43 : Array (Option Value)} {kV43 dc43 pm43 cd43 ct43 : Value}
    {f44 : Addr} {oc44 : Value} {od44 an44 : Option Addr} {sl44 : Array (Option Value)} {kV44 dc44 pm44 cd44 ct44 : Value}
    {f45 : Addr} {oc45 : Value} {od45 an45 : Option Addr} {sl45 : Array (Option Value)} {kV45 dc45 pm45 cd45 ct45 : Value}
    {f46 : Addr} {oc46 : Value} {od46 an46 : Option Addr} {sl46 : Array (Option Value)} {kV46 dc46 pm46 cd46 ct46 : Value}
    {f47 : Addr} {oc47 : Value} {od47 an47 : Option Addr} {sl47 : Array (Option Value)} {kV47 dc47 pm47 cd47 ct47 : Value}
    {f48 : Addr} {oc48 : Value} {od48 an48 : Option Addr} {sl48 : Array (Option Value)} {kV48 dc48 pm48 cd48 ct48 : Value}
    {x_Malformed : Addr}
    {t_MOST_ITEMS : Tok}
    {t_MOST_STEPS : Tok}
    {ta_ONE : Addr} {od_ONE : Option Addr} {nn_ONE : Nat} {sl_ONE : Array (Option Value)} {tk_ONE_0 : Tok} {tk_ONE_1 : Tok}
    {ta_ZERO : Addr} {od_ZERO : Option Addr} {nn_ZERO : Nat} {sl_ZERO : Array (Option Value)} {tk_ZERO_0 : Tok} {tk_ZERO_1 : Tok}
    {ta_POLY_ONE : Addr} {od_POLY_ONE : Option Addr} {nn_POLY_ONE : Nat} {sl_POLY_ONE : Array (Option Value)}
    {ta_POLY_X : Addr} {od_POLY_X : Option Addr} {nn_POLY_X : Nat} {sl_POLY_X : Array (Option Value)}
    (a0 : PySem.W.nsIn K mainGlobals "_law_state" = some (some (.ref f0))) (l0 : K.lookup f0 = some ⟨oc0, od0, .func (PySem.W.fnOf "_law_state" "_law_state" (defArgs s__law_state) (defBody s__law_state) (defScope s__law_state) .none kV0 dc0 pm0 an0 cd0 ct0), sl0⟩) (e0 : PySem.W.codeIn K cd0 "_law_state" = true) (k0 : PySem.W.keepIn K (.ref f0) = true)
    (a1 : PySem.W.nsIn K mainGlobals "_law_take" = some (some (.ref f1))) (l1 : K.lookup f1 = some ⟨oc1, od1, .func (PySem.W.fnOf "_law_take" "_law_take" (defArgs s__law_take) (defBody s__law_take) (defScope s__law_take) .none kV1 dc1 pm1 an1 cd1 ct1), sl1⟩) (e1 : PySem.W.codeIn K cd1 "_law_take" = true) (k1 : PySem.W.keepIn K (.ref f1) = true)
    (a2 : PySem.W.nsIn K mainGlobals "_law_trimmed" = some (some (.ref f2))) (l2 : K.lookup f2 = some ⟨oc2, od2, .func (PySem.W.fnOf "_law_trimmed" "_law_trimmed" (defArgs s__law_trimmed) (defBody s__law_trimmed) (defScope s__law_trimmed) .none kV2 dc2 pm2 an2 cd2 ct2), sl2⟩) (e2 : PySem.W.codeIn K cd2 "_law_trimmed" = true) (k2 : PySem.W.keepIn K (.ref f2) = true)
    (a3 : PySem.W.nsIn K mainGlobals "_law_frac" = some (some (.ref f3))) (l3 : K.lookup f3 = some ⟨oc3, od3, .func (PySem.W.fnOf "_law_frac" "_law_frac" (defArgs s__law_frac) (defBody s__law_frac) (defScope s__law_frac) .none kV3 dc3 pm3 an3 cd3 ct3), sl3⟩) (e3 : PySem.W.codeIn K cd3 "_law_frac" = true) (k3 : PySem.W.keepIn K (.ref f3) = true)
    (a4 : PySem.W.nsIn K mainGlobals "is_integer" = some (some (.ref f4))) (l4 : K.lookup f4 = some ⟨oc4, od4, .func (PySem.W.fnOf "is_integer" "is_integer" (defArgs s_is_integer) (defBody s_is_integer) (defScope s_is_integer) .none kV4 dc4 pm4 an4 cd4 ct4), sl4⟩) (e4 : PySem.W.codeIn K cd4 "is_integer" = true) (k4 : PySem.W.keepIn K (.ref f4) = true)
    (a5 : PySem.W.nsIn K mainGlobals "greatest_common" = some (some (.ref f5))) (l5 : K.lookup f5 = some ⟨oc5, od5, .func (PySem.W.fnOf "greatest_common" "greatest_common" (defArgs s_greatest_common) (defBody s_greatest_common) (defScope s_greatest_common) .none kV5 dc5 pm5 an5 cd5 ct5), sl5⟩) (e5 : PySem.W.codeIn K cd5 "greatest_common" = true) (k5 : PySem.W.keepIn K (.ref f5) = true)
    (a6 : PySem.W.nsIn K mainGlobals "trimmed" = some (some (.ref f6))) (l6 : K.lookup f6 = some ⟨oc6, od6, .func (PySem.W.fnOf "trimmed" "trimmed" (defArgs s_trimmed) (defBody s_trimmed) (defScope s_trimmed) .none kV6 dc6 pm6 an6 cd6 ct6), sl6⟩) (e6 : PySem.W.codeIn K cd6 "trimmed" = true) (k6 : PySem.W.keepIn K (.ref f6) = true)
    (a7 : PySem.W.nsIn K mainGlobals "item_at" = some (some (.ref f7))) (l7 : K.lookup f7 = some ⟨oc7, od7, .func (PySem.W.fnOf "item_at" "item_at" (defArgs s_item_at) (defBody s_item_at) (defScope s_item_at) .none kV7 dc7 pm7 an7 cd7 ct7), sl7⟩) (e7 : PySem.W.codeIn K cd7 "item_at" = true) (k7 : PySem.W.keepIn K (.ref f7) = true)
    (a8 : PySem.W.nsIn K mainGlobals "_law_add" = some (some (.ref f8))) (l8 : K.lookup f8 = some ⟨oc8, od8, .func (PySem.W.fnOf "_law_add" "_law_add" (defArgs s__law_add) (defBody s__law_add) (defScope s__law_add) .none kV8 dc8 pm8 an8 cd8 ct8), sl8⟩) (e8 : PySem.W.codeIn K cd8 "_law_add" = true) (k8 : PySem.W.keepIn K (.ref f8) = true)
    (a9 : PySem.W.nsIn K mainGlobals "_law_times" = some (some (.ref f9))) (l9 : K.lookup f9 = some ⟨oc9, od9, .func (PySem.W.fnOf "_law_times" "_law_times" (defArgs s__law_times) (defBody s__law_times) (defScope s__law_times) .none kV9 dc9 pm9 an9 cd9 ct9), sl9⟩) (e9 : PySem.W.codeIn K cd9 "_law_times" = true) (k9 : PySem.W.keepIn K (.ref f9) = true)
    (a10 : PySem.W.nsIn K mainGlobals "_law_less" = some (some (.ref f10))) (l10 : K.lookup f10 = some ⟨oc10, od10, .func (PySem.W.fnOf "_law_less" "_law_less" (defArgs s__law_less) (defBody s__law_less) (defScope s__law_less) .none kV10 dc10 pm10 an10 cd10 ct10), sl10⟩) (e10 : PySem.W.codeIn K cd10 "_law_less" = true) (k10 : PySem.W.keepIn K (.ref f10) = true)
    (a11 : PySem.W.nsIn K mainGlobals "_law_drawn" = some (some (.ref f11))) (l11 : K.lookup f11 = some ⟨oc11, od11, .func (PySem.W.fnOf "_law_drawn" "_law_drawn" (defArgs s__law_drawn) (defBody s__law_drawn) (defScope s__law_drawn) .none kV11 dc11 pm11 an11 cd11 ct11), sl11⟩) (e11 : PySem.W.codeIn K cd11 "_law_drawn" = true) (k11 : PySem.W.keepIn K (.ref f11) = true)
    (a12 : PySem.W.nsIn K mainGlobals "is_ratio" = some (some (.ref f12))) (l12 : K.lookup f12 = some ⟨oc12, od12, .func (PySem.W.fnOf "is_ratio" "is_ratio" (defArgs s_is_ratio) (defBody s_is_ratio) (defScope s_is_ratio) .none kV12 dc12 pm12 an12 cd12 ct12), sl12⟩) (e12 : PySem.W.codeIn K cd12 "is_ratio" = true) (k12 : PySem.W.keepIn K (.ref f12) = true)
    (a13 : PySem.W.nsIn K mainGlobals "lowest" = some (some (.ref f13))) (l13 : K.lookup f13 = some ⟨oc13, od13, .func (PySem.W.fnOf "lowest" "lowest" (defArgs s_lowest) (defBody s_lowest) (defScope s_lowest) .none kV13 dc13 pm13 an13 cd13 ct13), sl13⟩) (e13 : PySem.W.codeIn K cd13 "lowest" = true) (k13 : PySem.W.keepIn K (.ref f13) = true)
    (a14 : PySem.W.nsIn K mainGlobals "check_count" = some (some (.ref f14))) (l14 : K.lookup f14 = some ⟨oc14, od14, .func (PySem.W.fnOf "check_count" "check_count" (defArgs s_check_count) (defBody s_check_count) (defScope s_check_count) .none kV14 dc14 pm14 an14 cd14 ct14), sl14⟩) (e14 : PySem.W.codeIn K cd14 "check_count" = true) (k14 : PySem.W.keepIn K (.ref f14) = true)
    (a15 : PySem.W.nsIn K mainGlobals "_law_poly_add" = some (some (.ref f15))) (l15 : K.lookup f15 = some ⟨oc15, od15, .func (PySem.W.fnOf "_law_poly_add" "_law_poly_add" (defArgs s__law_poly_add) (defBody s__law_poly_add) (defScope s__law_poly_add) .none kV15 dc15 pm15 an15 cd15 ct15), sl15⟩) (e15 : PySem.W.codeIn K cd15 "_law_poly_add" = true) (k15 : PySem.W.keepIn K (.ref f15) = true)
    (a16 : PySem.W.nsIn K mainGlobals "_law_poly_times" = some (some (.ref f16))) (l16 : K.lookup f16 = some ⟨oc16, od16, .func (PySem.W.fnOf "_law_poly_times" "_law_poly_times" (defArgs s__law_poly_times) (defBody s__law_poly_times) (defScope s__law_poly_times) .none kV16 dc16 pm16 an16 cd16 ct16), sl16⟩) (e16 : PySem.W.codeIn K cd16 "_law_poly_times" = true) (k16 : PySem.W.keepIn K (.ref f16) = true)
    (a17 : PySem.W.nsIn K mainGlobals "_law_poly_scaled" = some (some (.ref f17))) (l17 : K.lookup f17 = some ⟨oc17, od17, .func (PySem.W.fnOf "_law_poly_scaled" "_law_poly_scaled" (defArgs s__law_poly_scaled) (defBody s__law_poly_scaled) (defScope s__law_poly_scaled) .none kV17 dc17 pm17 an17 cd17 ct17), sl17⟩) (e17 : PySem.W.codeIn K cd17 "_law_poly_scaled" = true) (k17 : PySem.W.keepIn K (.ref f17) = true)
    (a18 : PySem.W.nsIn K mainGlobals "_law_path_moments" = some (some (.ref f18))) (l18 : K.lookup f18 = some ⟨oc18, od18, .func (PySem.W.fnOf "_law_path_moments" "_law_path_moments" (defArgs s__law_path_moments) (defBody s__law_path_moments) (defScope s__law_path_moments) .none kV18 dc18 pm18 an18 cd18 ct18), sl18⟩) (e18 : PySem.W.codeIn K cd18 "_law_path_moments" = true) (k18 : PySem.W.keepIn K (.ref f18) = true)
    (a19 : PySem.W.nsIn K mainGlobals "_law_row" = some (some (.ref f19))) (l19 : K.lookup f19 = some ⟨oc19, od19, .func (PySem.W.fnOf "_law_row" "_law_row" (defArgs s__law_row) (defBody s__law_row) (defScope s__law_row) .none kV19 dc19 pm19 an19 cd19 ct19), sl19⟩) (e19 : PySem.W.codeIn K cd19 "_law_row" = true) (k19 : PySem.W.keepIn K (.ref f19) = true)
    (a20 : PySem.W.nsIn K mainGlobals "check_row" = some (some (.ref f20))) (l20 : K.lookup f20 = some ⟨oc20, od20, .func (PySem.W.fnOf "check_row" "check_row" (defArgs s_check_row) (defBody s_check_row) (defScope s_check_row) .none kV20 dc20 pm20 an20 cd20 ct20), sl20⟩) (e20 : PySem.W.codeIn K cd20 "check_row" = true) (k20 : PySem.W.keepIn K (.ref f20) = true)
    (a21 : PySem.W.nsIn K mainGlobals "is_polynomial" = some (some (.ref f21))) (l21 : K.lookup f21 = some ⟨oc21, od21, .func (PySem.W.fnOf "is_polynomial" "is_polynomial" (defArgs s_is_polynomial) (defBody s_is_polynomial) (defScope s_is_polynomial) .none kV21 dc21 pm21 an21 cd21 ct21), sl21⟩) (e21 : PySem.W.codeIn K cd21 "is_polynomial" = true) (k21 : PySem.W.keepIn K (.ref f21) = true)
    (a22 : PySem.W.nsIn K mainGlobals "ratio_sum" = some (some (.ref f22))) (l22 : K.lookup f22 = some ⟨oc22, od22, .func (PySem.W.fnOf "ratio_sum" "ratio_sum" (defArgs s_ratio_sum) (defBody s_ratio_sum) (defScope s_ratio_sum) .none kV22 dc22 pm22 an22 cd22 ct22), sl22⟩) (e22 : PySem.W.codeIn K cd22 "ratio_sum" = true) (k22 : PySem.W.keepIn K (.ref f22) = true)
    (a23 : PySem.W.nsIn K mainGlobals "ratio_product" = some (some (.ref f23))) (l23 : K.lookup f23 = some ⟨oc23, od23, .func (PySem.W.fnOf "ratio_product" "ratio_product" (defArgs s_ratio_product) (defBody s_ratio_product) (defScope s_ratio_product) .none kV23 dc23 pm23 an23 cd23 ct23), sl23⟩) (e23 : PySem.W.codeIn K cd23 "ratio_product" = true) (k23 : PySem.W.keepIn K (.ref f23) = true)
    (a24 : PySem.W.nsIn K mainGlobals "check_ratio" = some (some (.ref f24))) (l24 : K.lookup f24 = some ⟨oc24, od24, .func (PySem.W.fnOf "check_ratio" "check_ratio" (defArgs s_check_ratio) (defBody s_check_ratio) (defScope s_check_ratio) .none kV24 dc24 pm24 an24 cd24 ct24), sl24⟩) (e24 : PySem.W.codeIn K cd24 "check_ratio" = true) (k24 : PySem.W.keepIn K (.ref f24) = true)
    (a25 : PySem.W.nsIn K mainGlobals "_law_begins" = some (some (.ref f25))) (l25 : K.lookup f25 = some ⟨oc25, od25, .func (PySem.W.fnOf "_law_begins" "_law_begins" (defArgs s__law_begins) (defBody s__law_begins) (defScope s__law_begins) .none kV25 dc25 pm25 an25 cd25 ct25), sl25⟩) (e25 : PySem.W.codeIn K cd25 "_law_begins" = true) (k25 : PySem.W.keepIn K (.ref f25) = true)
    (a26 : PySem.W.nsIn K mainGlobals "_law_total" = some (some (.ref f26))) (l26 : K.lookup f26 = some ⟨oc26, od26, .func (PySem.W.fnOf "_law_total" "_law_total" (defArgs s__law_total) (defBody s__law_total) (defScope s__law_total) .none kV26 dc26 pm26 an26 cd26 ct26), sl26⟩) (e26 : PySem.W.codeIn K cd26 "_law_total" = true) (k26 : PySem.W.keepIn K (.ref f26) = true)
    (a27 : PySem.W.nsIn K mainGlobals "_law_nonzero" = some (some (.ref f27))) (l27 : K.lookup f27 = some ⟨oc27, od27, .func (PySem.W.fnOf "_law_nonzero" "_law_nonzero" (defArgs s__law_nonzero) (defBody s__law_nonzero) (defScope s__law_nonzero) .none kV27 dc27 pm27 an27 cd27 ct27), sl27⟩) (e27 : PySem.W.codeIn K cd27 "_law_nonzero" = true) (k27 : PySem.W.keepIn K (.ref f27) = true)
    (a28 : PySem.W.nsIn K mainGlobals "_law_product_of" = some (some (.ref f28))) (l28 : K.lookup f28 = some ⟨oc28, od28, .func (PySem.W.fnOf "_law_product_of" "_law_product_of" (defArgs s__law_product_of) (defBody s__law_product_of) (defScope s__law_product_of) .none kV28 dc28 pm28 an28 cd28 ct28), sl28⟩) (e28 : PySem.W.codeIn K cd28 "_law_product_of" = true) (k28 : PySem.W.keepIn K (.ref f28) = true)
    (a29 : PySem.W.nsIn K mainGlobals "_law_recursion" = some (some (.ref f29))) (l29 : K.lookup f29 = some ⟨oc29, od29, .func (PySem.W.fnOf "_law_recursion" "_law_recursion" (defArgs s__law_recursion) (defBody s__law_recursion) (defScope s__law_recursion) .none kV29 dc29 pm29 an29 cd29 ct29), sl29⟩) (e29 : PySem.W.codeIn K cd29 "_law_recursion" = true) (k29 : PySem.W.keepIn K (.ref f29) = true)
    (a30 : PySem.W.nsIn K mainGlobals "check_polynomials" = some (some (.ref f30))) (l30 : K.lookup f30 = some ⟨oc30, od30, .func (PySem.W.fnOf "check_polynomials" "check_polynomials" (defArgs s_check_polynomials) (defBody s_check_polynomials) (defScope s_check_polynomials) .none kV30 dc30 pm30 an30 cd30 ct30), sl30⟩) (e30 : PySem.W.codeIn K cd30 "check_polynomials" = true) (k30 : PySem.W.keepIn K (.ref f30) = true)
    (a31 : PySem.W.nsIn K mainGlobals "added" = some (some (.ref f31))) (l31 : K.lookup f31 = some ⟨oc31, od31, .func (PySem.W.fnOf "added" "added" (defArgs s_added) (defBody s_added) (defScope s_added) .none kV31 dc31 pm31 an31 cd31 ct31), sl31⟩) (e31 : PySem.W.codeIn K cd31 "added" = true) (k31 : PySem.W.keepIn K (.ref f31) = true)
    (a32 : PySem.W.nsIn K mainGlobals "scaled" = some (some (.ref f32))) (l32 : K.lookup f32 = some ⟨oc32, od32, .func (PySem.W.fnOf "scaled" "scaled" (defArgs s_scaled) (defBody s_scaled) (defScope s_scaled) .none kV32 dc32 pm32 an32 cd32 ct32), sl32⟩) (e32 : PySem.W.codeIn K cd32 "scaled" = true) (k32 : PySem.W.keepIn K (.ref f32) = true)
    (a33 : PySem.W.nsIn K mainGlobals "times" = some (some (.ref f33))) (l33 : K.lookup f33 = some ⟨oc33, od33, .func (PySem.W.fnOf "times" "times" (defArgs s_times) (defBody s_times) (defScope s_times) .none kV33 dc33 pm33 an33 cd33 ct33), sl33⟩) (e33 : PySem.W.codeIn K cd33 "times" = true) (k33 : PySem.W.keepIn K (.ref f33) = true)
    (a34 : PySem.W.nsIn K mainGlobals "mean_of" = some (some (.ref f34))) (l34 : K.lookup f34 = some ⟨oc34, od34, .func (PySem.W.fnOf "mean_of" "mean_of" (defArgs s_mean_of) (defBody s_mean_of) (defScope s_mean_of) .none kV34 dc34 pm34 an34 cd34 ct34), sl34⟩) (e34 : PySem.W.codeIn K cd34 "mean_of" = true) (k34 : PySem.W.keepIn K (.ref f34) = true)
    (a35 : PySem.W.nsIn K mainGlobals "moments_by_paths" = some (some (.ref f35))) (l35 : K.lookup f35 = some ⟨oc35, od35, .func (PySem.W.fnOf "moments_by_paths" "moments_by_paths" (defArgs s_moments_by_paths) (defBody s_moments_by_paths) (defScope s_moments_by_paths) .none kV35 dc35 pm35 an35 cd35 ct35), sl35⟩) (e35 : PySem.W.codeIn K cd35 "moments_by_paths" = true) (k35 : PySem.W.keepIn K (.ref f35) = true)
    (a36 : PySem.W.nsIn K mainGlobals "_law_mean" = some (some (.ref f36))) (l36 : K.lookup f36 = some ⟨oc36, od36, .func (PySem.W.fnOf "_law_mean" "_law_mean" (defArgs s__law_mean) (defBody s__law_mean) (defScope s__law_mean) .none kV36 dc36 pm36 an36 cd36 ct36), sl36⟩) (e36 : PySem.W.codeIn K cd36 "_law_mean" = true) (k36 : PySem.W.keepIn K (.ref f36) = true)
    (a37 : PySem.W.nsIn K mainGlobals "poly_less" = some (some (.ref f37))) (l37 : K.lookup f37 = some ⟨oc37, od37, .func (PySem.W.fnOf "poly_less" "poly_less" (defArgs s_poly_less) (defBody s_poly_less) (defScope s_poly_less) .none kV37 dc37 pm37 an37 cd37 ct37), sl37⟩) (e37 : PySem.W.codeIn K cd37 "poly_less" = true) (k37 : PySem.W.keepIn K (.ref f37) = true)
    (a38 : PySem.W.nsIn K mainGlobals "poly_product" = some (some (.ref f38))) (l38 : K.lookup f38 = some ⟨oc38, od38, .func (PySem.W.fnOf "poly_product" "poly_product" (defArgs s_poly_product) (defBody s_poly_product) (defScope s_poly_product) .none kV38 dc38 pm38 an38 cd38 ct38), sl38⟩) (e38 : PySem.W.codeIn K cd38 "poly_product" = true) (k38 : PySem.W.keepIn K (.ref f38) = true)
    (a39 : PySem.W.nsIn K mainGlobals "poly_scaled" = some (some (.ref f39))) (l39 : K.lookup f39 = some ⟨oc39, od39, .func (PySem.W.fnOf "poly_scaled" "poly_scaled" (defArgs s_poly_scaled) (defBody s_poly_scaled) (defScope s_poly_scaled) .none kV39 dc39 pm39 an39 cd39 ct39), sl39⟩) (e39 : PySem.W.codeIn K cd39 "poly_scaled" = true) (k39 : PySem.W.keepIn K (.ref f39) = true)
    (a40 : PySem.W.nsIn K mainGlobals "polynomial_mean" = some (some (.ref f40))) (l40 : K.lookup f40 = some ⟨oc40, od40, .func (PySem.W.fnOf "polynomial_mean" "polynomial_mean" (defArgs s_polynomial_mean) (defBody s_polynomial_mean) (defScope s_polynomial_mean) .none kV40 dc40 pm40 an40 cd40 ct40), sl40⟩) (e40 : PySem.W.codeIn K cd40 "polynomial_mean" = true) (k40 : PySem.W.keepIn K (.ref f40) = true)
    (a41 : PySem.W.nsIn K mainGlobals "path_moments" = some (some (.ref f41))) (l41 : K.lookup f41 = some ⟨oc41, od41, .func (PySem.W.fnOf "path_moments" "path_moments" (defArgs s_path_moments) (defBody s_path_moments) (defScope s_path_moments) .none kV41 dc41 pm41 an41 cd41 ct41), sl41⟩) (e41 : PySem.W.codeIn K cd41 "path_moments" = true) (k41 : PySem.W.keepIn K (.ref f41) = true)
    (a42 : PySem.W.nsIn K mainGlobals "next_polynomial" = some (some (.ref f42))) (l42 : K.lookup f42 = some ⟨oc42, od42, .func (PySem.W.fnOf "next_polynomial" "next_polynomial" (defArgs s_next_polynomial) (defBody s_next_polynomial) (defScope s_next_polynomial) .none kV42 dc42 pm42 an42 cd42 ct42), sl42⟩) (e42 : PySem.W.codeIn K cd42 "next_polynomial" = true) (k42 : PySem.W.keepIn K (.ref f42) = true)
    (a43 : PySem.W.nsIn K mainGlobals "_law_inner" = some (some (.ref f43))) (l43 : K.lookup f43 = some ⟨oc43, od43, .func (PySem.W.fnOf "_law_inner" "_law_inner" (defArgs s__law_inner) (defBody s__law_inner) (defScope s__law_inner) .none kV43 dc43 pm43 an43 cd43 ct43), sl43⟩) (e43 : PySem.W.codeIn K cd43 "_law_inner" = true) (k43 : PySem.W.keepIn K (.ref f43) = true)
    (a44 : PySem.W.nsIn K mainGlobals "polynomials_of" = some (some (.ref f44))) (l44 : K.lookup f44 = some ⟨oc44, od44, .func (PySem.W.fnOf "polynomials_of" "polynomials_of" (defArgs s_polynomials_of) (defBody s_polynomials_of) (defScope s_polynomials_of) .none kV44 dc44 pm44 an44 cd44 ct44), sl44⟩) (e44 : PySem.W.codeIn K cd44 "polynomials_of" = true) (k44 : PySem.W.keepIn K (.ref f44) = true)
    (a45 : PySem.W.nsIn K mainGlobals "_law_plain" = some (some (.ref f45))) (l45 : K.lookup f45 = some ⟨oc45, od45, .func (PySem.W.fnOf "_law_plain" "_law_plain" (defArgs s__law_plain) (defBody s__law_plain) (defScope s__law_plain) .none kV45 dc45 pm45 an45 cd45 ct45), sl45⟩) (e45 : PySem.W.codeIn K cd45 "_law_plain" = true) (k45 : PySem.W.keepIn K (.ref f45) = true)
    (a46 : PySem.W.nsIn K mainGlobals "orthogonal_polynomials" = some (some (.ref f46))) (l46 : K.lookup f46 = some ⟨oc46, od46, .func (PySem.W.fnOf "orthogonal_polynomials" "orthogonal_polynomials" (defArgs s_orthogonal_polynomials) (defBody s_orthogonal_polynomials) (defScope s_orthogonal_polynomials) .none kV46 dc46 pm46 an46 cd46 ct46), sl46⟩) (e46 : PySem.W.codeIn K cd46 "orthogonal_polynomials" = true) (k46 : PySem.W.keepIn K (.ref f46) = true)
    (a47 : PySem.W.nsIn K mainGlobals "_law_told" = some (some (.ref f47))) (l47 : K.lookup f47 = some ⟨oc47, od47, .func (PySem.W.fnOf "_law_told" "_law_told" (defArgs s__law_told) (defBody s__law_told) (defScope s__law_told) .none kV47 dc47 pm47 an47 cd47 ct47), sl47⟩) (e47 : PySem.W.codeIn K cd47 "_law_told" = true) (k47 : PySem.W.keepIn K (.ref f47) = true)
    (a48 : PySem.W.nsIn K mainGlobals "law" = some (some (.ref f48))) (l48 : K.lookup f48 = some ⟨oc48, od48, .func (PySem.W.fnOf "law" "law" (defArgs s_law) (defBody s_law) (defScope s_law) .none kV48 dc48 pm48 an48 cd48 ct48), sl48⟩) (e48 : PySem.W.codeIn K cd48 "law" = true) (k48 : PySem.W.keepIn K (.ref f48) = true)
    (xa_Malformed : PySem.W.nsIn K mainGlobals "Malformed" = some (some (.ref x_Malformed))) (xk_Malformed : PySem.W.keepIn K (.ref x_Malformed) = true) (xq_Malformed : PySem.W.excIn K x_Malformed [.type "ValueError", .type "Exception", .type "BaseException", .type "object"] "ValueError.__new__" = true) (xs_Malformed : PySem.W.subIn K (.ref x_Malformed) (.type "BaseException") = some true) (xt_Malformed : PySem.W.typeIn K (.ref x_Malformed) = some (.type "type")) (xi_Malformed : PySem.W.isClsIn K x_Malformed = true) (xf_Malformed : PySem.W.subIn K (.ref x_Malformed) (.ref x_Malformed) = some true)
    (c_MOST_ITEMS : PySem.W.nsIn K mainGlobals "MOST_ITEMS" = some (some (.int 61 t_MOST_ITEMS)))
    (c_MOST_STEPS : PySem.W.nsIn K mainGlobals "MOST_STEPS" = some (some (.int 12 t_MOST_STEPS)))
    (ca_ONE : PySem.W.nsIn K mainGlobals "ONE" = some (some (.ref ta_ONE))) (cl_ONE : K.lookup ta_ONE = some ⟨.type "tuple", od_ONE, .seq #[.int 1 tk_ONE_0, .int 1 tk_ONE_1] nn_ONE, sl_ONE⟩)
    (ca_ZERO : PySem.W.nsIn K mainGlobals "ZERO" = some (some (.ref ta_ZERO))) (cl_ZERO : K.lookup ta_ZERO = some ⟨.type "tuple", od_ZERO, .seq #[.int 0 tk_ZERO_0, .int 1 tk_ZERO_1] nn_ZERO, sl_ZERO⟩)
    (ca_POLY_ONE : PySem.W.nsIn K mainGlobals "POLY_ONE" = some (some (.ref ta_POLY_ONE))) (cl_POLY_ONE : K.lookup ta_POLY_ONE = some ⟨.type "tuple", od_POLY_ONE, .seq #[.ref ta_ONE] nn_POLY_ONE, sl_POLY_ONE⟩)
    (ca_POLY_X : PySem.W.nsIn K mainGlobals "POLY_X" = some (some (.ref ta_POLY_X))) (cl_POLY_X : K.lookup ta_POLY_X = some ⟨.type "tuple", od_POLY_X, .seq #[.ref ta_ZERO, .ref ta_ONE] nn_POLY_X, sl_POLY_X⟩)
    (b_abs : PySem.W.nsIn K mainGlobals "abs" = some none)
    (b_all : PySem.W.nsIn K mainGlobals "all" = some none)
    (b_bool : PySem.W.nsIn K mainGlobals "bool" = some none)
    (b_enumerate : PySem.W.nsIn K mainGlobals "enumerate" = some none)
    (b_int : PySem.W.nsIn K mainGlobals "int" = some none)
    (b_isinstance : PySem.W.nsIn K mainGlobals "isinstance" = some none)
    (b_len : PySem.W.nsIn K mainGlobals "len" = some none)
    (b_list : PySem.W.nsIn K mainGlobals "list" = some none)
    (b_max : PySem.W.nsIn K mainGlobals "max" = some none)
    (b_range : PySem.W.nsIn K mainGlobals "range" = some none)
    (b_str : PySem.W.nsIn K mainGlobals "str" = some none)
    (b_tuple : PySem.W.nsIn K mainGlobals "tuple" = some none)
    (b_zip : PySem.W.nsIn K mainGlobals "zip" = some none) :
    ∃ fd : FuncData, (∀ (s : Shared) (v : Value), BindsTo s fd ⟨[v], []⟩ [("script", v)]) ∧ ∀ base : Heap, K.In base → base.Ns mainGlobals mg → FnOk l.prog w K mg base (L2.CX l.prog w) 10 fa fd ["script"] (lawSp K F_law) := by
  obtain ⟨K_ONE⟩ : Nonempty (TA K mg "ONE" (.tup [.int 1, .int 1])) := TA.of (vs := [.int 1, .int 1]) X G ca_ONE cl_ONE (by show 2 ≤ sizeLine; decide) (.cons ⟨_, rfl⟩ (.cons ⟨_, rfl⟩ .nil)) fun _ _ _ => (ShL.cons (.int _) (ShL.cons (.int _) ShL.nil))
  obtain ⟨K_ZERO⟩ : Nonempty (TA K mg "ZERO" (.tup [.int 0, .int 1])) := TA.of (vs := [.int 0, .int 1]) X G ca_ZERO cl_ZERO (by show 2 ≤ sizeLine; decide) (.cons ⟨_, rfl⟩ (.cons ⟨_, rfl⟩ .nil)) fun _ _ _ => (ShL.cons (.int _) (ShL.cons (.int _) ShL.nil))
  obtain ⟨K_POLY_ONE⟩ : Nonempty (TA K mg "POLY_ONE" (.tup [(.tup [.int 1, .int 1])])) := TA.of2 (vs := [.ref ta_ONE]) X G ca_POLY_ONE cl_POLY_ONE (by show 1 ≤ sizeLine; decide) (vals_ref .nil) fun _ _ _ hK => (ShL.cons (sh_con (vs := [.int 1, .int 1]) hK cl_ONE (by show 2 ≤ sizeLine; decide) (.cons ⟨_, rfl⟩ (.cons ⟨_, rfl⟩ .nil)) (ShL.cons (.int _) (ShL.cons (.int _) ShL.nil))) ShL.nil)
  obtain ⟨K_POLY_X⟩ : Nonempty (TA K mg "POLY_X" (.tup [(.tup [.int 0, .int 1]), (.tup [.int 1, .int 1])])) := TA.of2 (vs := [.ref ta_ZERO, .ref ta_ONE]) X G ca_POLY_X cl_POLY_X (by show 2 ≤ sizeLine; decide) (vals_ref (vals_ref .nil)) fun _ _ _ hK => (ShL.cons (sh_con (vs := [.int 0, .int 1]) hK cl_ZERO (by show 2 ≤ sizeLine; decide) (.cons ⟨_, rfl⟩ (.cons ⟨_, rfl⟩ .nil)) (ShL.cons (.int _) (ShL.cons (.int _) ShL.nil))) (ShL.cons (sh_con (vs := [.int 1, .int 1]) hK cl_ONE (by show 2 ≤ sizeLine; decide) (.cons ⟨_, rfl⟩ (.cons ⟨_, rfl⟩ .nil)) (ShL.cons (.int _) (ShL.cons (.int _) ShL.nil))) ShL.nil))
  let E : Facts l.prog K mg := {
    d__law_state := DA.of X G a0 l0 e0 k0 fun _ _ _ _ _ _ us hl => match us, hl with | [_], _ => rfl,
    d__law_take := DA.of X G a1 l1 e1 k1 fun _ _ _ _ _ _ us hl => match us, hl with | [_, _], _ => rfl,
    d__law_trimmed := DA.of X G a2 l2 e2 k2 fun _ _ _ _ _ _ us hl => match us, hl with | [_], _ => rfl,
    d__law_frac := DA.of X G a3 l3 e3 k3 fun _ _ _ _ _ _ us hl => match us, hl with | [_, _], _ => rfl,
    d_is_integer := DA.of X G a4 l4 e4 k4 fun _ _ _ _ _ _ us hl => match us, hl with | [_], _ => rfl,
    d_greatest_common := DA.of X G a5 l5 e5 k5 fun _ _ _ _ _ _ us hl => match us, hl with | [_, _], _ => rfl,
    d_trimmed := DA.of X G a6 l6 e6 k6 fun _ _ _ _ _ _ us hl => match us, hl with | [_], _ => rfl,
    d_item_at := DA.of X G a7 l7 e7 k7 fun _ _ _ _ _ _ us hl => match us, hl with | [_, _], _ => rfl,
    d__law_add := DA.of X G a8 l8 e8 k8 fun _ _ _ _ _ _ us hl => match us, hl with | [_, _], _ => rfl,
    d__law_times := DA.of X G a9 l9 e9 k9 fun _ _ _ _ _ _ us hl => match us, hl with | [_, _], _ => rfl,
    d__law_less := DA.of X G a10 l10 e10 k10 fun _ _ _ _ _ _ us hl => match us, hl with | [_, _], _ => rfl,
    d__law_drawn := DA.of X G a11 l11 e11 k11 fun _ _ _ _ _ _ us hl => match us, hl with | [_], _ => rfl,
    d_is_ratio := DA.of X G a12 l12 e12 k12 fun _ _ _ _ _ _ us hl => match us, hl with | [_], _ => rfl,
    d_lowest := DA.of X G a13 l13 e13 k13 fun _ _ _ _ _ _ us hl => match us, hl with | [_, _], _ => rfl,
    d_check_count := DA.of X G a14 l14 e14 k14 fun _ _ _ _ _ _ us hl => match us, hl with | [_], _ => rfl,
    d__law_poly_add := DA.of X G a15 l15 e15 k15 fun _ _ _ _ _ _ us hl => match us, hl with | [_, _], _ => rfl,
    d__law_poly_times := DA.of X G a16 l16 e16 k16 fun _ _ _ _ _ _ us hl => match us, hl with | [_, _], _ => rfl,
    d__law_poly_scaled := DA.of X G a17 l17 e17 k17 fun _ _ _ _ _ _ us hl => match us, hl with | [_, _], _ => rfl,
    d__law_path_moments := DA.of X G a18 l18 e18 k18 fun _ _ _ _ _ _ us hl => match us, hl with | [_, _, _], _ => rfl,
    d__law_row := DA.of X G a19 l19 e19 k19 fun _ _ _ _ _ _ us hl => match us, hl with | [_, _], _ => rfl,
    d_check_row := DA.of X G a20 l20 e20 k20 fun _ _ _ _ _ _ us hl => match us, hl with | [_], _ => rfl,
    d_is_polynomial := DA.of X G a21 l21 e21 k21 fun _ _ _ _ _ _ us hl => match us, hl with | [_], _ => rfl,
    d_ratio_sum := DA.of X G a22 l22 e22 k22 fun _ _ _ _ _ _ us hl => match us, hl with | [_, _], _ => rfl,
    d_ratio_product := DA.of X G a23 l23 e23 k23 fun _ _ _ _ _ _ us hl => match us, hl with | [_, _], _ => rfl,
    d_check_ratio := DA.of X G a24 l24 e24 k24 fun _ _ _ _ _ _ us hl => match us, hl with | [_], _ => rfl,
    d__law_begins := DA.of X G a25 l25 e25 k25 fun _ _ _ _ _ _ us hl => match us, hl with | [_, _, _], _ => rfl,
    d__law_total := DA.of X G a26 l26 e26 k26 fun _ _ _ _ _ _ us hl => match us, hl with | [_], _ => rfl,
    d__law_nonzero := DA.of X G a27 l27 e27 k27 fun _ _ _ _ _ _ us hl => match us, hl with | [_], _ => rfl,
    d__law_product_of := DA.of X G a28 l28 e28 k28 fun _ _ _ _ _ _ us hl => match us, hl with | [_], _ => rfl,
    d__law_recursion := DA.of X G a29 l29 e29 k29 fun _ _ _ _ _ _ us hl => match us, hl with | [_, _], _ => rfl,
    d_check_polynomials := DA.of X G a30 l30 e30 k30 fun _ _ _ _ _ _ us hl => match us, hl with | [_], _ => rfl,
    d_added := DA.of X G a31 l31 e31 k31 fun _ _ _ _ _ _ us hl => match us, hl with | [_, _], _ => rfl,
    d_scaled := DA.of X G a32 l32 e32 k32 fun _ _ _ _ _ _ us hl => match us, hl with | [_, _], _ => rfl,
    d_times := DA.of X G a33 l33 e33 k33 fun _ _ _ _ _ _ us hl => match us, hl with | [_, _], _ => rfl,
    d_mean_of := DA.of X G a34 l34 e34 k34 fun _ _ _ _ _ _ us hl => match us, hl with | [_, _], _ => rfl,
    d_moments_by_paths := DA.of X G a35 l35 e35 k35 fun _ _ _ _ _ _ us hl => match us, hl with | [_, _, _], _ => rfl,
    d__law_mean := DA.of X G a36 l36 e36 k36 fun _ _ _ _ _ _ us hl => match us, hl with | [_, _], _ => rfl,
    d_poly_less := DA.of X G a37 l37 e37 k37 fun _ _ _ _ _ _ us hl => match us, hl with | [_, _], _ => rfl,
    d_poly_product := DA.of X G a38 l38 e38 k38 fun _ _ _ _ _ _ us hl => match us, hl with | [_, _], _ => rfl,
    d_poly_scaled := DA.of X G a39 l39 e39 k39 fun _ _ _ _ _ _ us hl => match us, hl with | [_, _], _ => rfl,
    d_polynomial_mean := DA.of X G a40 l40 e40 k40 fun _ _ _ _ _ _ us hl => match us, hl with | [_, _], _ => rfl,
    d_path_moments := DA.of X G a41 l41 e41 k41 fun _ _ _ _ _ _ us hl => match us, hl with | [_, _, _], _ => rfl,
    d_next_polynomial := DA.of X G a42 l42 e42 k42 fun _ _ _ _ _ _ us hl => match us, hl with | [_, _, _, _], _ => rfl,
    d__law_inner := DA.of X G a43 l43 e43 k43 fun _ _ _ _ _ _ us hl => match us, hl with | [_], _ => rfl,
    d_polynomials_of := DA.of X G a44 l44 e44 k44 fun _ _ _ _ _ _ us hl => match us, hl with | [_, _], _ => rfl,
    d__law_plain := DA.of X G a45 l45 e45 k45 fun _ _ _ _ _ _ us hl => match us, hl with | [_], _ => rfl,
    d_orthogonal_polynomials := DA.of X G a46 l46 e46 k46 fun _ _ _ _ _ _ us hl => match us, hl with | [_, _], _ => rfl,
    d__law_told := DA.of X G a47 l47 e47 k47 fun _ _ _ _ _ _ us hl => match us, hl with | [_, _, _], _ => rfl,
    d_law := DA.of X G a48 l48 e48 k48 fun _ _ _ _ _ _ us hl => match us, hl with | [_], _ => rfl,
    x_Malformed := ⟨x_Malformed, PySem.W.mg_of X G xa_Malformed, xk_Malformed, xq_Malformed, xs_Malformed, xt_Malformed, xi_Malformed, xf_Malformed⟩,
    t_MOST_ITEMS := t_MOST_ITEMS,
    c_MOST_ITEMS := PySem.W.mg_of X G c_MOST_ITEMS,
    t_MOST_STEPS := t_MOST_STEPS,
    c_MOST_STEPS := PySem.W.mg_of X G c_MOST_STEPS,
    c_ONE := K_ONE,
    c_ZERO := K_ZERO,
    c_POLY_ONE := K_POLY_ONE,
    c_POLY_X := K_POLY_X,
    b_abs := PySem.W.mg_none_of X G b_abs,
    b_all := PySem.W.mg_none_of X G b_all,
    b_bool := PySem.W.mg_none_of X G b_bool,
    b_enumerate := PySem.W.mg_none_of X G b_enumerate,
    b_int := PySem.W.mg_none_of X G b_int,
    b_isinstance := PySem.W.mg_none_of X G b_isinstance,
    b_len := PySem.W.mg_none_of X G b_len,
    b_list := PySem.W.mg_none_of X G b_list,
    b_max := PySem.W.mg_none_of X G b_max,
    b_range := PySem.W.mg_none_of X G b_range,
    b_str := PySem.W.mg_none_of X G b_str,
    b_tuple := PySem.W.mg_none_of X G b_tuple,
    b_zip := PySem.W.mg_none_of X G b_zip }
  have e := hfa.symm.trans E.d_law.m
  cases e
  exact ⟨E.d_law.fd, fun s v => .of_eq rfl, fun base _ _ => lawSp_of (C := E.C) rfl (ok_law E)⟩
end L37
open PySem PySem.W PyProof.Rows
set_option maxHeartbeats 0 in
theorem PySem.Challenge.cw_momentroads_k37_whole_orthogonal_polynom_holds : PySem.Challenge.rw_momentroads_k37_whole_orthogonal_polynom.Holds := by
  w_on; o_law; k_head; (case hw => w_witness2)
  k_fill
  refine L2.walk_of (l := PySem.Challenge.rw_momentroads_k37_whole_orthogonal_polynom) (n := 63) (k := 10) (x := "script") (CX := fun w => L2.CX PySem.Challenge.pw_momentroads_k37_whole_orthogonal_polynom w) (sp := fun w => Pv.lawSp _ L37.F_law) rfl (by decide) rfl ⟨rfl, by decide, by decide⟩ (fun w h Y => PySem.W.kIn_of Y) ?F (fun w H a ns hl hO hS => Pv.lawSp_in hO hS (L37.law_all ns hl)) (fun _ _ _ _ _ h => Pv.cx_no h)
  case F =>
    intro w mg fa h KX G hmg
    refine' L37.all_mk KX G hmg ?a0 ?l0 ?e0 ?k0 ?a1 ?l1 ?e1 ?k1 ?a2 ?l2 ?e2 ?k2 ?a3 ?l3 ?e3 ?k3 ?a4 ?l4 ?e4 ?k4 ?a5 ?l5 ?e5 ?k5 ?a6 ?l6 ?e6 ?k6 ?a7 ?l7 ?e7 ?k7 ?a8 ?l8 ?e8 ?k8 ?a9 ?l9 ?e9 ?k9 ?a10 ?l10 ?e10 ?k10 ?a11 ?l11 ?e11 ?k11 ?a12 ?l12 ?e12 ?k12 ?a13 ?l13 ?e13 ?k13 ?a14 ?l14 ?e14 ?k14 ?a15 ?l15 ?e15 ?k15 ?a16 ?l16 ?e16 ?k16 ?a17 ?l17 ?e17 ?k17 ?a18 ?l18 ?e18 ?k18 ?a19 ?l19 ?e19 ?k19 ?a20 ?l20 ?e20 ?k20 ?a21 ?l21 ?e21 ?k21 ?a22 ?l22 ?e22 ?k22 ?a23 ?l23 ?e23 ?k23 ?a24 ?l24 ?e24 ?k24 ?a25 ?l25 ?e25 ?k25 ?a26 ?l26 ?e26 ?k26 ?a27 ?l27 ?e27 ?k27 ?a28 ?l28 ?e28 ?k28 ?a29 ?l29 ?e29 ?k29 ?a30 ?l30 ?e30 ?k30 ?a31 ?l31 ?e31 ?k31 ?a32 ?l32 ?e32 ?k32 ?a33 ?l33 ?e33 ?k33 ?a34 ?l34 ?e34 ?k34 ?a35 ?l35 ?e35 ?k35 ?a36 ?l36 ?e36 ?k36 ?a37 ?l37 ?e37 ?k37 ?a38 ?l38 ?e38 ?k38 ?a39 ?l39 ?e39 ?k39 ?a40 ?l40 ?e40 ?k40 ?a41 ?l41 ?e41 ?k41 ?a42 ?l42 ?e42 ?k42 ?a43 ?l43 ?e43 ?k43 ?a44 ?l44 ?e44 ?k44 ?a45 ?l45 ?e45 ?k45 ?a46 ?l46 ?e46 ?k46 ?a47 ?l47 ?e47 ?k47 ?a48 ?l48 ?e48 ?k48 ?xa_Malformed ?xk_Malformed ?xq_Malformed ?xs_Malformed ?xt_Malformed ?xi_Malformed ?xf_Malformed ?c_MOST_ITEMS ?c_MOST_STEPS ?ca_ONE ?cl_ONE ?ca_ZERO ?cl_ZERO ?ca_POLY_ONE ?cl_POLY_ONE ?ca_POLY_X ?cl_POLY_X ?b_abs ?b_all ?b_bool ?b_enumerate ?b_int ?b_isinstance ?b_len ?b_list ?b_max ?b_range ?b_str ?b_tuple ?b_zip
    (case a0 => k_is)
    (case l0 => k_is)
    (case e0 => k_is)
    (case k0 => k_is)
    (case a1 => k_is)
    (case l1 => k_is)
    (case e1 => k_is)
    (case k1 => k_is)
    (case a2 => k_is)
    (case l2 => k_is)
    (case e2 => k_is)
    (case k2 => k_is)
    (case a3 => k_is)
    (case l3 => k_is)
    (case e3 => k_is)
    (case k3 => k_is)
    (case a4 => k_is)
    (case l4 => k_is)
    (case e4 => k_is)
    (case k4 => k_is)
    (case a5 => k_is)
    (case l5 => k_is)
    (case e5 => k_is)
    (case k5 => k_is)
    (case a6 => k_is)
    (case l6 => k_is)
    (case e6 => k_is)
    (case k6 => k_is)
    (case a7 => k_is)
    (case l7 => k_is)
    (case e7 => k_is)
    (case k7 => k_is)
    (case a8 => k_is)
    (case l8 => k_is)
    (case e8 => k_is)
    (case k8 => k_is)
    (case a9 => k_is)
    (case l9 => k_is)
    (case e9 => k_is)
    (case k9 => k_is)
    (case a10 => k_is)
    (case l10 => k_is)
    (case e10 => k_is)
    (case k10 => k_is)
    (case a11 => k_is)
    (case l11 => k_is)
    (case e11 => k_is)
    (case k11 => k_is)
    (case a12 => k_is)
    (case l12 => k_is)
    (case e12 => k_is)
    (case k12 => k_is)
    (case a13 => k_is)
    (case l13 => k_is)
    (case e13 => k_is)
    (case k13 => k_is)
    (case a14 => k_is)
    (case l14 => k_is)
    (case e14 => k_is)
    (case k14 => k_is)
    (case a15 => k_is)
    (case l15 => k_is)
    (case e15 => k_is)
    (case k15 => k_is)
    (case a16 => k_is)
    (case l16 => k_is)
    (case e16 => k_is)
    (case k16 => k_is)
    (case a17 => k_is)
    (case l17 => k_is)
    (case e17 => k_is)
    (case k17 => k_is)
    (case a18 => k_is)
    (case l18 => k_is)
    (case e18 => k_is)
    (case k18 => k_is)
    (case a19 => k_is)
    (case l19 => k_is)
    (case e19 => k_is)
    (case k19 => k_is)
    (case a20 => k_is)
    (case l20 => k_is)
    (case e20 => k_is)
    (case k20 => k_is)
    (case a21 => k_is)
    (case l21 => k_is)
    (case e21 => k_is)
    (case k21 => k_is)
    (case a22 => k_is)
    (case l22 => k_is)
    (case e22 => k_is)
    (case k22 => k_is)
    (case a23 => k_is)
    (case l23 => k_is)
    (case e23 => k_is)
    (case k23 => k_is)
    (case a24 => k_is)
    (case l24 => k_is)
    (case e24 => k_is)
    (case k24 => k_is)
    (case a25 => k_is)
    (case l25 => k_is)
    (case e25 => k_is)
    (case k25 => k_is)
    (case a26 => k_is)
    (case l26 => k_is)
    (case e26 => k_is)
    (case k26 => k_is)
    (case a27 => k_is)
    (case l27 => k_is)
    (case e27 => k_is)
    (case k27 => k_is)
    (case a28 => k_is)
    (case l28 => k_is)
    (case e28 => k_is)
    (case k28 => k_is)
    (case a29 => k_is)
    (case l29 => k_is)
    (case e29 => k_is)
    (case k29 => k_is)
    (case a30 => k_is)
    (case l30 => k_is)
    (case e30 => k_is)
    (case k30 => k_is)
    (case a31 => k_is)
    (case l31 => k_is)
    (case e31 => k_is)
    (case k31 => k_is)
    (case a32 => k_is)
    (case l32 => k_is)
    (case e32 => k_is)
    (case k32 => k_is)
    (case a33 => k_is)
    (case l33 => k_is)
    (case e33 => k_is)
    (case k33 => k_is)
    (case a34 => k_is)
    (case l34 => k_is)
    (case e34 => k_is)
    (case k34 => k_is)
    (case a35 => k_is)
    (case l35 => k_is)
    (case e35 => k_is)
    (case k35 => k_is)
    (case a36 => k_is)
    (case l36 => k_is)
    (case e36 => k_is)
    (case k36 => k_is)
    (case a37 => k_is)
    (case l37 => k_is)
    (case e37 => k_is)
    (case k37 => k_is)
    (case a38 => k_is)
    (case l38 => k_is)
    (case e38 => k_is)
    (case k38 => k_is)
    (case a39 => k_is)
    (case l39 => k_is)
    (case e39 => k_is)
    (case k39 => k_is)
    (case a40 => k_is)
    (case l40 => k_is)
    (case e40 => k_is)
    (case k40 => k_is)
    (case a41 => k_is)
    (case l41 => k_is)
    (case e41 => k_is)
    (case k41 => k_is)
    (case a42 => k_is)
    (case l42 => k_is)
    (case e42 => k_is)
    (case k42 => k_is)
    (case a43 => k_is)
    (case l43 => k_is)
    (case e43 => k_is)
    (case k43 => k_is)
    (case a44 => k_is)
    (case l44 => k_is)
    (case e44 => k_is)
    (case k44 => k_is)
    (case a45 => k_is)
    (case l45 => k_is)
    (case e45 => k_is)
    (case k45 => k_is)
    (case a46 => k_is)
    (case l46 => k_is)
    (case e46 => k_is)
    (case k46 => k_is)
    (case a47 => k_is)
    (case l47 => k_is)
    (case e47 => k_is)
    (case k47 => k_is)
    (case a48 => k_is)
    (case l48 => k_is)
    (case e48 => k_is)
    (case k48 => k_is)
    (case xa_Malformed => k_is)
    (case xk_Malformed => k_is)
    (case xq_Malformed => k_exc)
    (case xs_Malformed => k_is)
    (case xt_Malformed => k_is)
    (case xi_Malformed => k_is)
    (case xf_Malformed => first | rfl | k_is)
    (case c_MOST_ITEMS => k_is)
    (case c_MOST_STEPS => k_is)
    (case ca_ONE => k_is)
    (case cl_ONE => k_is)
    (case ca_ZERO => k_is)
    (case cl_ZERO => k_is)
    (case ca_POLY_ONE => k_is)
    (case cl_POLY_ONE => k_is)
    (case ca_POLY_X => k_is)
    (case cl_POLY_X => k_is)
    (case b_abs => k_is)
    (case b_all => k_is)
    (case b_bool => k_is)
    (case b_enumerate => k_is)
    (case b_int => k_is)
    (case b_isinstance => k_is)
    (case b_len => k_is)
    (case b_list => k_is)
    (case b_max => k_is)
    (case b_range => k_is)
    (case b_str => k_is)
    (case b_tuple => k_is)
    (case b_zip => k_is)
