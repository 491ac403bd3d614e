import PyProof.Rows.All
import Wide.All
import OpenK.AllK
import Wide.FinOn
import HandS.ForMost
import HandS.Exc
import HandS.ExcOwn
import HandS.CallSlots
import HandS.TupAny
import HandS.TupLe
import HandS.TupMul
import HandS.IsInst
import HandS.Wide
import HandS.Flow
import HandS.Style
import HandS.Deep
import KE.DataMinMax
import HandS.SortInts
import HandS.WordsDict
import HandS.WordsExc
import HandS.Zip
import HandS.Small
import HandS.TryMany
import HandS.Ends
import HandS.EndBits
import KE.SortData
import PyProof.TupleOfSeq
import KE.GoesMore
import KE.GoesEnum
import HandS.Iter
import HandS.SetFor
import HandS.Strs
import HandS.Conv
import HandS.SortKw
import KE.KExcSuper
import HandS.ExcInit
import HandS.ExcField
import PySem.Challenge.RW_momentroads_k34_whole_paths_listed
set_option Elab.async false
set_option linter.all false
set_option maxRecDepth 100000
set_option maxHeartbeats 4000000
section
set_option Elab.async false
set_option linter.all false
set_option maxRecDepth 100000
set_option maxHeartbeats 4000000
/-! Pv1: pure values over the hand layer: data D, how values bear it (Sh: shared, Ow: owned), the state (Stt), what may change (Evo). -/
namespace Pv
open PySem PySem.Spec PyProof.Rows L2

/-- a value as data -/
inductive D where
  | non | bl (b : Bool) | int (i : Int) | str (s : Str) | fn (n : Nat)
  | tup (xs : List D) | lst (xs : List D) | dic (ks : List Key) (vs : List D) | scr (ns : List Int)
  deriving Inhabited

/-- what may be changed in place -/
def D.isMut : D → Bool
  | .lst _ => true
  | .dic _ _ => true
  | _ => false

/-- what is fixed: the written part, where the defs and the error classes stand -/
structure RC where
  K : PySem.W.Frag
  fa : Nat → Option Addr
  ca : Nat → Option Addr

abbrev Fp := Addr → Prop
abbrev nowhere : Hp := fun _ => none

/-- the script -/
def Scr (C : RC) (H : Hp) (a : Addr) (ns : List Int) : Prop := (∃ o, H a = some (.frz o (.lst (ns.map V.int)))) ∨ SqL C.K nowhere a (ns.map V.int)

mutual
inductive Sh (C : RC) (Z : Fp) (H : Hp) : V → D → Prop
  | non : Sh C Z H .non .non
  | bl (b : Bool) : Sh C Z H (.bl b) (.bl b)
  | int (i : Int) : Sh C Z H (.int i) (.int i)
  | str (x : Str) : Sh C Z H (.str x) (.str x)
  | fn {n : Nat} {a : Addr} : C.fa n = some a → Sh C Z H (.ref a) (.fn n)
  | tup {a : Addr} {xs : List V} {ds : List D} : SqT C.K H a xs → ShL C Z H xs ds → Sh C Z H (.ref a) (.tup ds)
  | lst {a : Addr} {xs : List V} {ds : List D} : H a = some (.lst xs) → Z a → ShL C Z H xs ds → Sh C Z H (.ref a) (.lst ds)
  | scr {a : Addr} {ns : List Int} : Scr C H a ns → Sh C Z H (.ref a) (.scr ns)
  | dic {a : Addr} {ks : List Key} {xs : List V} {ds : List D} : H a = some (.dK (ks.zip xs)) → Z a → ks.length = xs.length → ShL C Z H xs ds → Sh C Z H (.ref a) (.dic ks ds)
inductive ShL (C : RC) (Z : Fp) (H : Hp) : List V → List D → Prop
  | nil : ShL C Z H [] []
  | cons {v : V} {vs : List V} {d : D} {ds : List D} : Sh C Z H v d → ShL C Z H vs ds → ShL C Z H (v :: vs) (d :: ds)
end

section
variable {C : RC} {Z Z' : Fp} {H H' : Hp}
theorem ShL.length : ∀ {vs : List V} {ds : List D}, ShL C Z H vs ds → vs.length = ds.length
  | _, _, .nil => rfl
  | _, _, .cons _ r => by rw [List.length_cons, List.length_cons, r.length]
theorem ShL.get : ∀ {vs : List V} {ds : List D} {i : Nat} {v : V}, ShL C Z H vs ds → vs[i]? = some v → ∃ d, ds[i]? = some d ∧ Sh C Z H v d
  | _, _, _, _, .nil, e => by simp at e
  | _, _, 0, _, .cons h _, e => by simp at e; subst e; exact ⟨_, rfl, h⟩
  | _, _, i + 1, _, .cons _ r, e => by
    obtain ⟨d, h1, h2⟩ := r.get (i := i) (by simpa using e)
    exact ⟨d, by simpa using h1, h2⟩
theorem ShL.get' : ∀ {vs : List V} {ds : List D} {i : Nat} {d : D}, ShL C Z H vs ds → ds[i]? = some d → ∃ v, vs[i]? = some v ∧ Sh C Z H v d
  | _, _, _, _, .nil, e => by simp at e
  | _, _, 0, _, .cons h _, e => by simp at e; subst e; exact ⟨_, rfl, h⟩
  | _, _, i + 1, _, .cons _ r, e => by
    obtain ⟨d, h1, h2⟩ := r.get' (i := i) (by simpa using e)
    exact ⟨d, by simpa using h1, h2⟩
theorem ShL.append : ∀ {vs ws : List V} {ds es : List D}, ShL C Z H vs ds → ShL C Z H ws es → ShL C Z H (vs ++ ws) (ds ++ es)
  | _, _, _, _, .nil, s => s
  | _, _, _, _, .cons h r, s => .cons h (r.append s)
theorem ShL.take : ∀ {vs : List V} {ds : List D} (n : Nat), ShL C Z H vs ds → ShL C Z H (vs.take n) (ds.take n)
  | _, _, 0, _ => .nil
  | _, _, _ + 1, .nil => .nil
  | _, _, n + 1, .cons h r => .cons h (r.take n)
theorem ShL.drop : ∀ {vs : List V} {ds : List D} (n : Nat), ShL C Z H vs ds → ShL C Z H (vs.drop n) (ds.drop n)
  | _, _, 0, r => r
  | _, _, _ + 1, .nil => .nil
  | _, _, n + 1, .cons _ r => r.drop n
theorem ShL.set {v : V} {d : D} (h : Sh C Z H v d) : ∀ {vs : List V} {ds : List D} (i : Nat), ShL C Z H vs ds → ShL C Z H (vs.set i v) (ds.set i d)
  | _, _, _, .nil => .nil
  | _, _, 0, .cons _ r => .cons h r
  | _, _, i + 1, .cons q r => .cons q (ShL.set h i r)
theorem ShL.eraseIdx : ∀ {vs : List V} {ds : List D} (i : Nat), ShL C Z H vs ds → ShL C Z H (vs.eraseIdx i) (ds.eraseIdx i)
  | _, _, _, .nil => .nil
  | _, _, 0, .cons _ r => r
  | _, _, i + 1, .cons q r => .cons q (ShL.eraseIdx i r)
theorem ShL.snoc {vs : List V} {ds : List D} {v : V} {d : D} (r : ShL C Z H vs ds) (h : Sh C Z H v d) : ShL C Z H (vs ++ [v]) (ds ++ [d]) := r.append (.cons h .nil)
theorem ShL.reverse : ∀ {vs : List V} {ds : List D}, ShL C Z H vs ds → ShL C Z H vs.reverse ds.reverse
  | _, _, .nil => .nil
  | _, _, .cons h r => by rw [List.reverse_cons, List.reverse_cons]; exact r.reverse.snoc h
theorem ShL.flat : ∀ {ls : List V} {k : Nat} {ds : List D}, ShL C Z H ls ds → ShL C Z H (List.replicate k ls).flatten (List.replicate k ds).flatten
  | _, 0, _, _ => .nil
  | _, k + 1, _, h => by rw [List.replicate_succ, List.replicate_succ, List.flatten_cons, List.flatten_cons]; exact h.append h.flat
theorem ShL.ints {ns : List Int} : ∀ {vs : List V}, ShL C Z H vs (ns.map D.int) → vs = ns.map V.int := by
  induction ns with
  | nil => intro vs h; cases h; rfl
  | cons n ns ih =>
    intro vs h
    cases h with
    | cons h r => cases h; rw [List.map_cons, ih r]
theorem ShL.bools {ns : List Bool} : ∀ {vs : List V}, ShL C Z H vs (ns.map D.bl) → vs = ns.map V.bl := by
  induction ns with
  | nil => intro vs h; cases h; rfl
  | cons n ns ih =>
    intro vs h
    cases h with
    | cons h r => cases h; rw [List.map_cons, ih r]
theorem shl_ints : ∀ {ns : List Int}, ShL C Z H (ns.map V.int) (ns.map D.int)
  | [] => .nil
  | n :: ns => .cons (.int n) shl_ints

/-- what shared values lean on stays -/
structure Ext (Z : Fp) (H : Hp) (Z' : Fp) (H' : Hp) : Prop where
  zk : ∀ a o, Z a → H a = some o → H' a = some o
  zm : ∀ a, Z a → Z' a
  tk : ∀ a xs, H a = some (.tup xs) → H' a = some (.tup xs)
  fk : ∀ a o u, H a = some (.frz o u) → H' a = some (.frz o u)
theorem Ext.refl : Ext Z H Z H := ⟨fun _ _ _ h => h, fun _ h => h, fun _ _ h => h, fun _ _ _ h => h⟩
theorem Ext.trans {Z1 Z2 : Fp} {H1 H2 : Hp} (a : Ext Z H Z1 H1) (b : Ext Z1 H1 Z2 H2) : Ext Z H Z2 H2 :=
  ⟨fun x o z h => b.zk x o (a.zm x z) (a.zk x o z h), fun x z => b.zm x (a.zm x z), fun x xs h => b.tk x xs (a.tk x xs h), fun x o u h => b.fk x o u (a.fk x o u h)⟩
theorem Ext.sqT (x : Ext Z H Z' H') {a : Addr} {xs : List V} (h : SqT C.K H a xs) : SqT C.K H' a xs := by
  rcases h with (h | ⟨o, h⟩) | h
  · exact .inl (.inl (x.tk _ _ h))
  · exact .inl (.inr ⟨o, x.fk _ _ _ h⟩)
  · exact .inr h
theorem Ext.scr (x : Ext Z H Z' H') {a : Addr} {ns : List Int} (h : Scr C H a ns) : Scr C H' a ns := by
  rcases h with ⟨o, h⟩ | h
  · exact .inl ⟨o, x.fk _ _ _ h⟩
  · exact .inr h
theorem Scr.sqL {a : Addr} {ns : List Int} (h : Scr C H a ns) : SqL C.K H a (ns.map V.int) := by
  rcases h with ⟨o, h⟩ | h
  · exact .inl (.inr ⟨o, h⟩)
  · rcases h with (h | ⟨o, h⟩) | h
    · cases h
    · cases h
    · exact .inr h
mutual
theorem Sh.ext (x : Ext Z H Z' H') : ∀ (d : D) (v : V), Sh C Z H v d → Sh C Z' H' v d
  | .non, _, h => by cases h; exact .non
  | .bl b, _, h => by cases h; exact .bl b
  | .int i, _, h => by cases h; exact .int i
  | .str y, _, h => by cases h; exact .str y
  | .fn n, _, h => by cases h with | fn e => exact .fn e
  | .tup ds, _, h => by cases h with | tup s r => exact .tup (x.sqT s) (ShL.ext x ds _ r)
  | .lst ds, _, h => by cases h with | lst s z r => exact .lst (x.zk _ _ z s) (x.zm _ z) (ShL.ext x ds _ r)
  | .scr ns, _, h => by cases h with | scr s => exact .scr (x.scr s)
  | .dic ks ds, _, h => by cases h with | dic s z l r => exact .dic (x.zk _ _ z s) (x.zm _ z) l (ShL.ext x ds _ r)
theorem ShL.ext (x : Ext Z H Z' H') : ∀ (ds : List D) (vs : List V), ShL C Z H vs ds → ShL C Z' H' vs ds
  | [], _, h => by cases h; exact .nil
  | d :: ds, _, h => by cases h with | cons h r => exact .cons (Sh.ext x d _ h) (ShL.ext x ds _ r)
end
end

/-! ### owned data -/
def isM : Option HO → Prop
  | some (.lst _) => True
  | some (.dK _) => True
  | _ => False
/-- v bears d; the lists down to depth k are v's own, they stand at A -/
def Ow (C : RC) (Z : Fp) (H : Hp) : Nat → V → D → Fp → Prop
  | 0, v, d, A => Sh C Z H v d ∧ ∀ a, ¬ A a
  | k + 1, v, d, A => (d.isMut = false ∧ Sh C Z H v d ∧ ∀ a, ¬ A a) ∨
      (∃ (a : Addr) (xs : List V) (ds : List D) (B : Nat → Fp), v = .ref a ∧ d = .lst ds ∧ H a = some (.lst xs) ∧ xs.length = ds.length ∧ (∀ i x e, xs[i]? = some x → ds[i]? = some e → Ow C Z H k x e (B i)) ∧
        (∀ i j b, B i b → B j b → i = j) ∧ (∀ i, ¬ B i a) ∧ (∀ i b, B i b → i < xs.length) ∧ (∀ b, A b ↔ b = a ∨ ∃ i, B i b)) ∨
      (∃ (a : Addr) (ks : List Key) (xs : List V) (ds : List D), v = .ref a ∧ d = .dic ks ds ∧ H a = some (.dK (ks.zip xs)) ∧ ks.length = xs.length ∧ ShL C Z H xs ds ∧ ∀ b, A b ↔ b = a)
section
variable {C : RC} {Z Z' : Fp} {H H' : Hp}
theorem Ow.sh {v : V} {d : D} (h : Sh C Z H v d) : Ow C Z H 0 v d (fun _ => False) := ⟨h, fun _ z => z⟩
theorem Ow.im {k : Nat} {v : V} {d : D} (h : Sh C Z H v d) (m : d.isMut = false) : Ow C Z H k v d (fun _ => False) := by
  cases k with
  | zero => exact ⟨h, fun _ z => z⟩
  | succ k => exact .inl ⟨m, h, fun _ z => z⟩
theorem Ow.congr {k : Nat} {v : V} {d : D} {A B : Fp} (h : Ow C Z H k v d A) (e : ∀ a, A a ↔ B a) : Ow C Z H k v d B := by
  have : A = B := funext fun a => propext (e a)
  rw [← this]; exact h
theorem Ow.mut : ∀ {k : Nat} {v : V} {d : D} {A : Fp}, Ow C Z H k v d A → ∀ a, A a → isM (H a)
  | 0, _, _, _, ⟨_, n⟩, a, h => (n a h).elim
  | k + 1, _, _, _, h, a, ha => by
    rcases h with ⟨_, _, n⟩ | ⟨b, xs, ds, B, rfl, rfl, hb, hl, hc, _, _, hi, e⟩ | ⟨b, ks, xs, ds, rfl, rfl, hb, hl, r, e⟩
    · exact (n a ha).elim
    · rcases (e a).mp ha with rfl | ⟨i, q⟩
      · rw [hb]; trivial
      · have hx := hi i a q
        have hy : i < ds.length := hl ▸ hx
        exact (hc i xs[i] ds[i] (List.getElem?_eq_getElem hx) (List.getElem?_eq_getElem hy)).mut a q
    · rw [(e a).mp ha, hb]; trivial
/-- owned data is kept where its lists and what is shared are kept -/
theorem Ow.ext (x : Ext Z H Z' H') : ∀ {k : Nat} {v : V} {d : D} {A : Fp}, Ow C Z H k v d A → (∀ a o, A a → H a = some o → H' a = some o) → Ow C Z' H' k v d A
  | 0, _, _, _, ⟨h, n⟩, _ => ⟨h.ext x, n⟩
  | k + 1, _, _, _, h, hk => by
    rcases h with ⟨m, h, n⟩ | ⟨b, xs, ds, B, rfl, rfl, hb, hl, hc, hd, ha, hi, e⟩ | ⟨b, ks, xs, ds, rfl, rfl, hb, hl, r, e⟩
    · exact .inl ⟨m, h.ext x, n⟩
    · exact .inr (.inl ⟨b, xs, ds, B, rfl, rfl, hk b _ ((e b).mpr (.inl rfl)) hb, hl, fun i y z e1 e2 => (hc i y z e1 e2).ext x fun a o q => hk a o ((e a).mpr (.inr ⟨i, q⟩)), hd, ha, hi, e⟩)
    · exact .inr (.inr ⟨b, ks, xs, ds, rfl, rfl, hk b _ ((e b).mpr rfl) hb, hl, r.ext x, e⟩)
theorem shl_of_ix : ∀ {xs : List V} {ds : List D}, xs.length = ds.length → (∀ (i : Nat) (x : V) (e : D), xs[i]? = some x → ds[i]? = some e → Sh C Z H x e) → ShL C Z H xs ds
  | [], [], _, _ => .nil
  | [], _ :: _, h, _ => by simp at h
  | _ :: _, [], h, _ => by simp at h
  | x :: xs, d :: ds, h, k => .cons (k 0 x d rfl rfl) (shl_of_ix (by simpa using h) fun i y e h1 h2 => k (i + 1) y e (by simpa using h1) (by simpa using h2))
/-- what is owned may be shared -/
theorem Ow.frz : ∀ {k : Nat} {v : V} {d : D} {A W : Fp}, Ow C Z H k v d A → (∀ a, Z a → W a) → (∀ a, A a → W a) → Sh C W H v d
  | 0, _, _, _, _, ⟨h, n⟩, hz, ha => h.ext ⟨fun _ _ _ q => q, hz, fun _ _ q => q, fun _ _ _ q => q⟩
  | k + 1, _, _, _, W, h, hz, hw => by
    have X : Ext Z H W H := ⟨fun _ _ _ q => q, hz, fun _ _ q => q, fun _ _ _ q => q⟩
    rcases h with ⟨m, h, n⟩ | ⟨b, xs, ds, B, rfl, rfl, hb, hl, hc, hd, ha, hi, e⟩ | ⟨b, ks, xs, ds, rfl, rfl, hb, hl, r, e⟩
    · exact h.ext X
    · exact .lst hb (hw b ((e b).mpr (.inl rfl))) (shl_of_ix hl fun i x y e1 e2 => (hc i x y e1 e2).frz hz fun a q => hw a ((e a).mpr (.inr ⟨i, q⟩)))
    · exact .dic hb (hw b ((e b).mpr rfl)) hl (r.ext X)
theorem Ow.im_inv {k : Nat} {v : V} {d : D} {A : Fp} (h : Ow C Z H k v d A) (m : d.isMut = false) : Sh C Z H v d := by
  cases k with
  | zero => exact h.1
  | succ k =>
    rcases h with ⟨_, h, _⟩ | ⟨_, _, _, _, _, e, _⟩ | ⟨_, _, _, _, _, e, _⟩
    · exact h
    · subst e; cases m
    · subst e; cases m
/-- a new list of shared things -/
theorem Ow.lst1 {a : Addr} {xs : List V} {ds : List D} (h : H a = some (.lst xs)) (r : ShL C Z H xs ds) : Ow C Z H 1 (.ref a) (.lst ds) (fun b => b = a) :=
  .inr (.inl ⟨a, xs, ds, fun _ _ => False, rfl, rfl, h, r.length, fun i x e h1 h2 => by
    obtain ⟨d, e1, e2⟩ := r.get h1
    rw [h2] at e1; cases e1
    exact ⟨e2, fun _ z => z⟩, fun _ _ _ z => z.elim, fun _ z => z, fun _ _ z => z.elim, fun b => ⟨.inl, fun z => z.elim id fun ⟨_, q⟩ => q.elim⟩⟩)
theorem Ow.dic1 {a : Addr} {ks : List Key} {xs : List V} {ds : List D} (h : H a = some (.dK (ks.zip xs))) (l : ks.length = xs.length) (r : ShL C Z H xs ds) : Ow C Z H 1 (.ref a) (.dic ks ds) (fun b => b = a) :=
  .inr (.inr ⟨a, ks, xs, ds, rfl, rfl, h, l, r, fun _ => Iff.rfl⟩)
theorem Ow.lst_inv {v : V} {ds : List D} {A : Fp} (h : Ow C Z H 1 v (.lst ds) A) : ∃ a xs, v = .ref a ∧ H a = some (.lst xs) ∧ ShL C Z H xs ds ∧ ∀ b, A b ↔ b = a := by
  rcases h with ⟨m, _⟩ | ⟨b, xs, ds', B, rfl, e0, hb, hl, hc, hd, ha, hi, e⟩ | ⟨b, ks, xs, ds', rfl, e0, hb, hl, r, e⟩
  · cases m
  · cases e0
    refine ⟨b, xs, rfl, hb, shl_of_ix hl fun i x y e1 e2 => (hc i x y e1 e2).1, fun c => ⟨fun q => ?_, fun q => (e c).mpr (.inl q)⟩⟩
    rcases (e c).mp q with q | ⟨i, q⟩
    · exact q
    · have hx := hi i c q
      exact ((hc i xs[i] (ds[i]'(hl ▸ hx)) (List.getElem?_eq_getElem hx) (List.getElem?_eq_getElem _)).2 c q).elim
  · cases e0
theorem Ow.dic_inv {k : Nat} {v : V} {ks : List Key} {ds : List D} {A : Fp} (h : Ow C Z H (k + 1) v (.dic ks ds) A) : ∃ a xs, v = .ref a ∧ H a = some (.dK (ks.zip xs)) ∧ ks.length = xs.length ∧ ShL C Z H xs ds ∧ ∀ b, A b ↔ b = a := by
  rcases h with ⟨m, _⟩ | ⟨b, xs, ds', B, rfl, e0, hb, hl, hc, hd, ha, hi, e⟩ | ⟨b, ks', xs, ds', rfl, e0, hb, hl, r, e⟩
  · cases m
  · cases e0
  · cases e0
    exact ⟨b, xs, rfl, hb, hl, r, e⟩

/-! ### what may change -/
/-- from (Z, H), F owned, to (Z', H'), F' owned -/
structure Evo (Z : Fp) (H : Hp) (F : Fp) (Z' : Fp) (H' : Hp) (F' : Fp) : Prop where
  keep : ∀ a o, H a = some o → ¬ F a → H' a = some o
  zm : ∀ a, Z a → Z' a
  zn : ∀ a, Z' a → Z a ∨ F a ∨ H a = none
  fn : ∀ a, F' a → F a ∨ H a = none
theorem Evo.refl {F : Fp} : Evo Z H F Z H F := ⟨fun _ _ h _ => h, fun _ h => h, fun _ h => .inl h, fun _ h => .inl h⟩
theorem Evo.back {F F' : Fp} (e : Evo Z H F Z' H' F') {a : Addr} (h : H' a = none) : F a ∨ H a = none := by
  cases q : H a with
  | none => exact .inr rfl
  | some o =>
    by_cases f : F a
    · exact .inl f
    · rw [e.keep a o q f] at h; cases h
theorem Evo.trans {Z1 Z2 F F1 F2 : Fp} {H1 H2 : Hp} (a : Evo Z H F Z1 H1 F1) (b : Evo Z1 H1 F1 Z2 H2 F2) : Evo Z H F Z2 H2 F2 where
  keep := fun x o h f => b.keep x o (a.keep x o h f) fun q => (a.fn x q).elim f fun z => by rw [h] at z; cases z
  zm := fun x z => b.zm x (a.zm x z)
  zn := fun x z => by
    rcases b.zn x z with z | z | z
    · exact a.zn x z
    · exact .inr (a.fn x z)
    · exact .inr (a.back z)
  fn := fun x z => by
    rcases b.fn x z with z | z
    · exact a.fn x z
    · exact a.back z
theorem Evo.sub {F F' F2 : Fp} (e : Evo Z H F Z' H' F') (h : ∀ a, F2 a → F' a) : Evo Z H F Z' H' F2 := ⟨e.keep, e.zm, e.zn, fun a q => e.fn a (h a q)⟩
/-- a greater footprint ahead -/
theorem Evo.more {F F' G : Fp} (e : Evo Z H F Z' H' F') (h : ∀ a, F a → G a) : Evo Z H G Z' H' F' :=
  ⟨fun a o q n => e.keep a o q fun z => n (h a z), e.zm, fun a z => (e.zn a z).imp id fun q => q.imp (h a) id, fun a z => (e.fn a z).imp (h a) id⟩
theorem Evo.mono0 {F F' : Fp} (e : Evo Z H F Z' H' F') (h : ∀ a, ¬ F a) : Evo Z H (fun _ => False) Z' H' F' := e.more fun a z => h a z
theorem Evo.ext {F F' : Fp} (e : Evo Z H F Z' H' F') (mu : ∀ a, F a → isM (H a)) (nz : ∀ a, F a → ¬ Z a) : Ext Z H Z' H' :=
  ⟨fun a o z h => e.keep a o h fun f => nz a f z, e.zm, fun a xs h => e.keep a _ h fun f => by have := mu a f; rw [h] at this; exact this, fun a o u h => e.keep a _ h fun f => by have := mu a f; rw [h] at this; exact this⟩
end

/-! ### the slots -/
abbrev Sl := Option (D × Nat)
abbrev En := List Sl
abbrev Tot (φ : Nat → Fp) : Fp := fun a => ∃ i, φ i a
structure Stt (C : RC) (io : List Nat) (σ₀ : L2.St) (Z : Fp) (σ : L2.St) (H : Hp) (env : En) (φ : Nat → Fp) : Prop where
  len : σ.length = env.length
  slot : ∀ i d k, env[i]? = some (some (d, k)) → ∃ v, σ[i]? = some (some v) ∧ Ow C Z H k v d (φ i)
  off : ∀ i, (∀ p, env[i]? ≠ some (some p)) → ∀ a, ¬ φ i a
  dj : ∀ i j a, φ i a → φ j a → i = j
  nz : ∀ i a, φ i a → ¬ Z a
  zh : ∀ a, Z a → H a ≠ none
  l0 : io ≠ [] → σ.length = σ₀.length
  io : ∀ i ∈ io, σ[i]? = σ₀[i]?
section
variable {C : RC} {io : List Nat} {σ₀ σ : L2.St} {Z Z' : Fp} {H H' : Hp} {env : En} {φ : Nat → Fp}
theorem Stt.mu (S : Stt C io σ₀ Z σ H env φ) : ∀ a, Tot φ a → isM (H a) := fun a ⟨i, h⟩ => by
  by_cases q : ∃ p, env[i]? = some (some p)
  · obtain ⟨⟨d, k⟩, q⟩ := q
    obtain ⟨v, _, o⟩ := S.slot i d k q
    exact o.mut a h
  · exact (S.off i (fun p e => q ⟨p, e⟩) a h).elim
theorem Stt.tnz (S : Stt C io σ₀ Z σ H env φ) : ∀ a, Tot φ a → ¬ Z a := fun a ⟨i, h⟩ => S.nz i a h
theorem Stt.ext (S : Stt C io σ₀ Z σ H env φ) {F' : Fp} (e : Evo Z H (Tot φ) Z' H' F') : Ext Z H Z' H' := e.ext S.mu S.tnz
theorem Stt.lt {i : Nat} (S : Stt C io σ₀ Z σ H env φ) {p : Sl} (h : env[i]? = some p) : i < σ.length := by
  rw [S.len]; exact (List.getElem?_eq_some_iff.mp h).1
/-- the slot i is given v (bearing d, at A) -/
theorem Stt.put {i : Nat} {v : V} {d : D} {k : Nat} {A : Fp} (S : Stt C io σ₀ Z σ H env φ) (hi : i < env.length) (hio : i ∉ io) (o : Ow C Z H k v d A) (dj : ∀ j a, j ≠ i → φ j a → ¬ A a) (nz : ∀ a, A a → ¬ Z a) :
    Stt C io σ₀ Z (σ.set i (some v)) H (env.set i (some (d, k))) (fun j => if j = i then A else φ j) where
  len := by simp [S.len]
  slot := fun j e l h => by
    by_cases q : j = i
    · subst q
      rw [List.getElem?_set_self hi] at h
      cases h
      exact ⟨v, List.getElem?_set_self (by rw [S.len]; exact hi), by rw [if_pos rfl]; exact o⟩
    · rw [List.getElem?_set_ne (Ne.symm q)] at h
      obtain ⟨w, h1, h2⟩ := S.slot j e l h
      exact ⟨w, by rw [List.getElem?_set_ne (Ne.symm q)]; exact h1, by rw [if_neg q]; exact h2⟩
  off := fun j h a => by
    by_cases q : j = i
    · subst q
      exact (h (d, k) (List.getElem?_set_self hi)).elim
    · rw [if_neg q]
      exact S.off j (fun p => by have := h p; rwa [List.getElem?_set_ne (Ne.symm q)] at this) a
  dj := fun j l a h1 h2 => by
    by_cases q : j = i
    · subst q
      rw [if_pos rfl] at h1
      by_cases r : l = j
      · exact r.symm
      · rw [if_neg r] at h2
        exact (dj l a r h2 h1).elim
    · rw [if_neg q] at h1
      by_cases r : l = i
      · subst r
        rw [if_pos rfl] at h2
        exact (dj j a q h1 h2).elim
      · rw [if_neg r] at h2
        exact S.dj j l a h1 h2
  nz := fun j a h => by
    by_cases q : j = i
    · rw [if_pos q] at h; exact nz a h
    · rw [if_neg q] at h; exact S.nz j a h
  zh := S.zh
  io := fun j h => by
    rw [List.getElem?_set_ne (fun e : i = j => hio (by rw [e]; exact h))]
    exact S.io j h
  l0 := fun h => by rw [List.length_set]; exact S.l0 h
/-- the slot i is forgotten -/
theorem Stt.drop (i : Nat) (S : Stt C io σ₀ Z σ H env φ) : Stt C io σ₀ Z σ H (env.set i none) (fun j a => j ≠ i ∧ φ j a) where
  len := by simp [S.len]
  slot := fun j e l h => by
    by_cases q : j = i
    · subst q
      by_cases hj : j < env.length
      · rw [List.getElem?_set_self hj] at h; cases h
      · rw [List.getElem?_eq_none (by simpa using hj)] at h; cases h
    · rw [List.getElem?_set_ne (Ne.symm q)] at h
      obtain ⟨w, h1, h2⟩ := S.slot j e l h
      exact ⟨w, h1, h2.congr fun a => ⟨fun z => ⟨q, z⟩, fun z => z.2⟩⟩
  off := fun j h a ⟨q, z⟩ => S.off j (fun p => by have := h p; rwa [List.getElem?_set_ne (Ne.symm q)] at this) a z
  dj := fun j l a h1 h2 => S.dj j l a h1.2 h2.2
  nz := fun j a h => S.nz j a h.2
  zh := S.zh
  io := S.io
  l0 := S.l0
/-- the slot's data stands, the value stays, its ownership and data are told anew (a list was changed in place, or shared) -/
theorem Stt.reput {i : Nat} {v : V} {d : D} {k : Nat} {A : Fp} (S : Stt C io σ₀ Z σ H env φ) (hi : i < env.length) (hv : σ[i]? = some (some v)) (o : Ow C Z H k v d A) (dj : ∀ j a, j ≠ i → φ j a → ¬ A a) (nz : ∀ a, A a → ¬ Z a) :
    Stt C io σ₀ Z σ H (env.set i (some (d, k))) (fun j => if j = i then A else φ j) where
  len := by simp [S.len]
  slot := fun j e l h => by
    by_cases q : j = i
    · subst q
      rw [List.getElem?_set_self hi] at h
      cases h
      exact ⟨v, hv, by rw [if_pos rfl]; exact o⟩
    · rw [List.getElem?_set_ne (Ne.symm q)] at h
      obtain ⟨w, h1, h2⟩ := S.slot j e l h
      exact ⟨w, h1, by rw [if_neg q]; exact h2⟩
  off := fun j h a => by
    by_cases q : j = i
    · subst q
      exact (h (d, k) (List.getElem?_set_self hi)).elim
    · rw [if_neg q]
      exact S.off j (fun p => by have := h p; rwa [List.getElem?_set_ne (Ne.symm q)] at this) a
  dj := fun j l a h1 h2 => by
    by_cases q : j = i
    · subst q
      rw [if_pos rfl] at h1
      by_cases r : l = j
      · exact r.symm
      · rw [if_neg r] at h2
        exact (dj l a r h2 h1).elim
    · rw [if_neg q] at h1
      by_cases r : l = i
      · subst r
        rw [if_pos rfl] at h2
        exact (dj j a q h1 h2).elim
      · rw [if_neg r] at h2
        exact S.dj j l a h1 h2
  nz := fun j a h => by
    by_cases q : j = i
    · rw [if_pos q] at h; exact nz a h
    · rw [if_neg q] at h; exact S.nz j a h
  zh := S.zh
  io := S.io
  l0 := S.l0
/-- the heap went on: the slots' lists were kept (what changed was not theirs) -/
theorem Stt.go (S : Stt C io σ₀ Z σ H env φ) (x : Ext Z H Z' H') (k : ∀ a o, Tot φ a → H a = some o → H' a = some o) (nz : ∀ a, Tot φ a → ¬ Z' a) (zh : ∀ a, Z' a → H' a ≠ none) : Stt C io σ₀ Z' σ H' env φ where
  len := S.len
  slot := fun i d l h => by
    obtain ⟨v, h1, h2⟩ := S.slot i d l h
    exact ⟨v, h1, h2.ext x fun a o q => k a o ⟨i, q⟩⟩
  off := S.off
  dj := S.dj
  nz := fun i a h => nz a ⟨i, h⟩
  zh := zh
  io := S.io
  l0 := S.l0
/-- a new object -/
theorem Ext.new {p : Addr} {o : HO} (h : H p = none) : Ext Z H Z (upd H p o) :=
  ⟨fun a u _ e => by rw [upd_ne (ne_of_none e h)]; exact e, fun _ z => z, fun a u e => by rw [upd_ne (ne_of_none e h)]; exact e, fun a u w e => by rw [upd_ne (ne_of_none e h)]; exact e⟩
theorem Stt.new {p : Addr} {o : HO} (S : Stt C io σ₀ Z σ H env φ) (h : H p = none) : Stt C io σ₀ Z σ (upd H p o) env φ :=
  S.go (Ext.new h) (fun a u _ e => by rw [upd_ne (ne_of_none e h)]; exact e) S.tnz fun a z => by
    by_cases q : a = p
    · subst q; rw [upd_same]; exact Option.some_ne_none _
    · rw [upd_ne q]; exact S.zh a z
/-- the slots' names alone are forgotten or told less of -/
theorem Stt.fresh (S : Stt C io σ₀ Z σ H env φ) (h : H a = none) : ¬ Z a ∧ ¬ Tot φ a := ⟨fun z => S.zh a z h, fun z => by have := S.mu a z; rw [h] at this; exact this⟩
end
end Pv
end

section
set_option Elab.async false
set_option linter.all false
set_option maxRecDepth 100000
set_option maxHeartbeats 4000000
/-! Pv2: results, judgements, names, constants, displays, operators. -/
namespace Pv
open PySem PySem.Spec PyProof.Rows L2

/-- an error: its class's number, its own fields -/
inductive Xn where
  | mk (c : Nat) (fs : List (Str × D))
/-- a result: a value and the slots; an error; nothing is known -/
inductive R (α : Type) where
  | ok (a : α) (e : En) | ex (x : Xn) | no
def R.bind {α β : Type} (r : R α) (f : α → En → R β) : R β :=
  match r with
  | .ok a e => f a e
  | .ex x => .ex x
  | .no => .no
@[simp] theorem R.bind_ok {α β : Type} (a : α) (e : En) (f : α → En → R β) : (R.ok a e).bind f = f a e := rfl
@[simp] theorem R.bind_ex {α β : Type} (x : Xn) (f : α → En → R β) : (R.ex x : R α).bind f = .ex x := rfl
@[simp] theorem R.bind_no {α β : Type} (f : α → En → R β) : (R.no : R α).bind f = .no := rfl
/-- a value that may be lacking -/
def R.of {α : Type} (o : Option α) (e : En) : R α :=
  match o with
  | some a => .ok a e
  | none => .no
@[simp] theorem R.of_some {α : Type} (a : α) (e : En) : R.of (some a) e = .ok a e := rfl
@[simp] theorem R.of_none {α : Type} (e : En) : R.of (none : Option α) e = .no := rfl

def ExR (C : RC) (Z : Fp) (H : Hp) : Xn → Value → Option Addr → Prop
  | .mk c fs, cls, dx => ∃ a, C.ca c = some a ∧ cls = .ref a ∧ (fs = [] ∨ ∃ dd gs, dx = some dd ∧ H dd = some (.xd gs) ∧ gs.map (·.1) = fs.map (·.1) ∧ ShL C Z H (gs.map (·.2)) (fs.map (·.2)))

/-- where a proof stands: the context, the fixed things, the wish about errors, the slots that are never stored (and their values) -/
structure Ct where
  X : Cx
  C : RC
  W : WX
  io : List Nat
  σ₀ : L2.St
structure Good (Γ : Ct) : Prop where
  hK : Γ.C.K = Γ.X.K
  nd : Γ.X.N.Nodup
  calm : Γ.X.calm = true
  tk : Takes Γ.X Γ.W
abbrev SttC (Γ : Ct) := Stt Γ.C Γ.io Γ.σ₀

def PostX (Γ : Ct) (σ : L2.St) (Z : Fp) (H : Hp) (F : Fp) (x : Xn) : Prop :=
  ∀ cls dx H' Z', Evo Z H F Z' H' (fun _ => False) → (∀ a, Z' a → H' a ≠ none) → ExR Γ.C Z' H' x cls dx → Γ.W cls dx σ H'
/-- a relation of what is reckoned and what stands: the owned addresses, shared ones, the heap -/
abbrev Rel (α β : Type) := Fp → Fp → Hp → α → β → Prop
def Post {α β : Type} (Γ : Ct) (σ : L2.St) (Z : Fp) (H : Hp) (F : Fp) (rel : Rel α β) (r : R α) (Q : β → Hp → Prop) : Prop :=
  match r with
  | .ok a env' => ∀ b H' Z' φ' A, SttC Γ Z' σ H' env' φ' → rel A Z' H' a b → (∀ x, A x → ¬ Tot φ' x ∧ ¬ Z' x) → Evo Z H F Z' H' (fun x => Tot φ' x ∨ A x) → Q b H'
  | .ex x => PostX Γ σ Z H F x
  | .no => False
def Ev {α β : Type} (Γ : Ct) (rel : L2.St → Rel α β) (f : En → R α) (t : L2.St → Hp → (β → Hp → Prop) → Prop) : Prop :=
  ∀ σ H Z env φ, SttC Γ Z σ H env φ → ∀ Q, Post Γ σ Z H (Tot φ) (rel σ) (f env) Q → t σ H Q

section
variable {Γ : Ct} {α β γ δ : Type} {σ : L2.St} {Z Z1 : Fp} {H H1 : Hp} {F F1 : Fp}
theorem PostX.mono {x : Xn} (h : PostX Γ σ Z H F x) (e : Evo Z H F Z1 H1 F1) : PostX Γ σ Z1 H1 F1 x := fun cls dx H' Z' e2 zh q => h cls dx H' Z' (e.trans e2) zh q
theorem Post.mono {rel : Rel α β} {r : R α} {Q : β → Hp → Prop} (h : Post Γ σ Z H F rel r Q) (e : Evo Z H F Z1 H1 F1) : Post Γ σ Z1 H1 F1 rel r Q := by
  cases r with
  | ok a env => exact fun b H' Z' φ' A S q d e2 => h b H' Z' φ' A S q d (e.trans e2)
  | ex x => exact PostX.mono h e
  | no => exact h
/-- what follows a result -/
theorem Ev.bind {rel1 : L2.St → Rel α β} {f : En → R α} {t : L2.St → Hp → (β → Hp → Prop) → Prop} (h : Ev Γ rel1 f t) {env : En} {φ : Nat → Fp} (S : SttC Γ Z σ H env φ) {rel : Rel γ δ} {g : α → En → R γ} {Q : δ → Hp → Prop} {Q1 : β → Hp → Prop}
    (P : Post Γ σ Z H (Tot φ) rel ((f env).bind g) Q)
    (k : ∀ a env1 b H1 Z1 φ1 A, f env = .ok a env1 → SttC Γ Z1 σ H1 env1 φ1 → rel1 σ A Z1 H1 a b → (∀ x, A x → ¬ Tot φ1 x ∧ ¬ Z1 x) → Evo Z H (Tot φ) Z1 H1 (fun x => Tot φ1 x ∨ A x) →
      Post Γ σ Z1 H1 (fun x => Tot φ1 x ∨ A x) rel (g a env1) Q → Q1 b H1) : t σ H Q1 := by
  refine h σ H Z env φ S Q1 ?_
  cases e : f env with
  | ok a env1 =>
    rw [e] at P
    exact fun b H1 Z1 φ1 A S1 q d ev => k a env1 b H1 Z1 φ1 A e S1 q d ev (Post.mono P ev)
  | ex x => rw [e] at P; exact P
  | no => rw [e] at P; exact P
/-- the end: a value of what is known -/
theorem Post.here {rel : Rel α β} {a : α} {env : En} {φ : Nat → Fp} {Q : β → Hp → Prop} (h : Post Γ σ Z H (Tot φ) rel (.ok a env) Q) (S : SttC Γ Z σ H env φ) {b : β} (q : rel (fun _ => False) Z H a b) : Q b H :=
  h b H Z φ (fun _ => False) S q (fun _ z => z.elim) (Evo.refl.sub fun x z => z.elim id fun q => q.elim)
theorem Evo.new {p : Addr} {o : HO} (h : H p = none) {F F' : Fp} (hs : ∀ a, F' a → F a ∨ a = p) : Evo Z H F Z (upd H p o) F' :=
  ⟨fun a u e _ => by rw [upd_ne (ne_of_none e h)]; exact e, fun _ z => z, fun _ z => .inl z, fun a z => (hs a z).imp id fun q => by rw [q]; exact h⟩
/-- a new object that holds shared things, not owned (a tuple) -/
theorem Post.newT {rel : Rel α β} {a : α} {env : En} {φ : Nat → Fp} {Q : β → Hp → Prop} {p : Addr} {o : HO} (h : Post Γ σ Z H (Tot φ) rel (.ok a env) Q) (S : SttC Γ Z σ H env φ) (hp : H p = none) {b : β} (q : rel (fun _ => False) Z (upd H p o) a b) : Q b (upd H p o) :=
  h b _ Z φ (fun _ => False) (S.new hp) q (fun _ z => z.elim) (Evo.new hp fun x z => .inl (z.elim id fun q => q.elim))
/-- a new list, owned -/
theorem Post.newL {rel : Rel α β} {a : α} {env : En} {φ : Nat → Fp} {Q : β → Hp → Prop} {p : Addr} {o : HO} (h : Post Γ σ Z H (Tot φ) rel (.ok a env) Q) (S : SttC Γ Z σ H env φ) (hp : H p = none) {b : β} (q : rel (fun x => x = p) Z (upd H p o) a b) : Q b (upd H p o) :=
  h b _ Z φ (fun x => x = p) (S.new hp) q (fun x z => by rw [z]; exact ⟨(S.fresh hp).2, (S.fresh hp).1⟩) (Evo.new hp fun x z => z)
end

/-! ### the kinds -/
abbrev VR (C : RC) : L2.St → Rel D V := fun _ _ Z H d v => Sh C Z H v d
abbrev ER (C : RC) : L2.St → Rel (D × Nat) V := fun _ A Z H p v => Ow C Z H p.2 v p.1 A
abbrev TR : L2.St → Rel Bool Bool := fun _ _ _ _ b c => b = c
abbrev AR (C : RC) : L2.St → Rel (List D) (List V) := fun _ _ Z H ds vs => ShL C Z H vs ds
/-- an operand: a shared value, or what slot i holds -/
inductive Opd where
  | val (d : D) | pla (i : Nat)
abbrev OR (C : RC) : L2.St → Rel Opd V := fun σ _ Z H o v =>
  match o with
  | .val d => Sh C Z H v d
  | .pla i => σ[i]? = some (some v)
def Opd.get (o : Opd) (env : En) : Option D :=
  match o with
  | .val d => some d
  | .pla i => match env[i]? with
    | some (some (d, 0)) => some d
    | some (some (d, 1)) => some d
    | _ => none
/-- an expression: its shared value; its value, perhaps owned; an operand -/
def EvV (Γ : Ct) (e : Expr) (f : En → R D) : Prop := ∃ t, PE Γ.X e t ∧ Ev Γ (VR Γ.C) f t
def EvE (Γ : Ct) (e : Expr) (f : En → R (D × Nat)) : Prop := ∃ t, PE Γ.X e t ∧ Ev Γ (ER Γ.C) f t
def EvO (Γ : Ct) (e : Expr) (f : En → R Opd) : Prop := ∃ t, PE Γ.X e t ∧ Ev Γ (OR Γ.C) f t
def EvT (Γ : Ct) (e : Expr) (f : En → R Bool) : Prop := ∃ t, PT Γ.X e t ∧ Ev Γ TR f t
def EvA (Γ : Ct) (es : List Expr) (f : En → R (List D)) : Prop := ∃ t, PA Γ.X es t ∧ Ev Γ (AR Γ.C) f t

/-- what an operation may read of a value now -/
inductive Rd1 (C : RC) (Z : Fp) (H : Hp) : V → D → Prop
  | sh {v : V} {d : D} : Sh C Z H v d → Rd1 C Z H v d
  | lst {a : Addr} {xs : List V} {ds : List D} : H a = some (.lst xs) → ShL C Z H xs ds → Rd1 C Z H (.ref a) (.lst ds)
  | dic {a : Addr} {ks : List Key} {xs : List V} {ds : List D} : H a = some (.dK (ks.zip xs)) → ks.length = xs.length → ShL C Z H xs ds → Rd1 C Z H (.ref a) (.dic ks ds)
section
variable {C : RC} {Z : Fp} {H : Hp}
theorem Rd1.of_ow {k : Nat} {v : V} {d : D} {A : Fp} (h : Ow C Z H k v d A) (hk : k ≤ 1) : Rd1 C Z H v d := by
  match k, h, hk with
  | 0, h, _ => exact .sh h.1
  | 1, h, _ =>
    have h0 := h
    rcases h with ⟨_, h, _⟩ | ⟨b, xs, ds, B, rfl, rfl, hb, hl, hc, hd, ha, hi, e⟩ | ⟨b, ks, xs, ds, rfl, rfl, hb, hl, r, e⟩
    · exact .sh h
    · exact .lst hb (shl_of_ix hl fun i x y e1 e2 => (hc i x y e1 e2).1)
    · exact .dic hb hl r
theorem Rd1.tupI {v : V} {ds : List D} (h : Rd1 C Z H v (.tup ds)) : ∃ a xs, v = .ref a ∧ SqT C.K H a xs ∧ ShL C Z H xs ds := by
  cases h with
  | sh h => cases h with | tup s r => exact ⟨_, _, rfl, s, r⟩
theorem Rd1.lstI {v : V} {ds : List D} (h : Rd1 C Z H v (.lst ds)) : ∃ a xs, v = .ref a ∧ H a = some (.lst xs) ∧ ShL C Z H xs ds := by
  cases h with
  | sh h => cases h with | lst s z r => exact ⟨_, _, rfl, s, r⟩
  | lst h r => exact ⟨_, _, rfl, h, r⟩
theorem Rd1.scrI {v : V} {ns : List Int} (h : Rd1 C Z H v (.scr ns)) : ∃ a, v = .ref a ∧ SqL C.K H a (ns.map V.int) := by
  cases h with
  | sh h => cases h with | scr s => exact ⟨_, rfl, s.sqL⟩
theorem Rd1.dicI {v : V} {ks : List Key} {ds : List D} (h : Rd1 C Z H v (.dic ks ds)) : ∃ a xs, v = .ref a ∧ H a = some (.dK (ks.zip xs)) ∧ ks.length = xs.length ∧ ShL C Z H xs ds := by
  cases h with
  | sh h => cases h with | dic s z l r => exact ⟨_, _, rfl, s, l, r⟩
  | dic h l r => exact ⟨_, _, rfl, h, l, r⟩
theorem Rd1.intI {v : V} {i : Int} (h : Rd1 C Z H v (.int i)) : v = .int i := by
  cases h with
  | sh h => cases h; rfl
theorem Rd1.blI {v : V} {i : Bool} (h : Rd1 C Z H v (.bl i)) : v = .bl i := by
  cases h with
  | sh h => cases h; rfl
theorem Rd1.strI {v : V} {i : Str} (h : Rd1 C Z H v (.str i)) : v = .str i := by
  cases h with
  | sh h => cases h; rfl
theorem Rd1.nonI {v : V} (h : Rd1 C Z H v .non) : v = .non := by
  cases h with
  | sh h => cases h; rfl
end
/-- an operand's data at the end of the operands' evaluation -/
theorem Opd.rd {Γ : Ct} {σ : L2.St} {Z : Fp} {H : Hp} {env : En} {φ : Nat → Fp} (S : SttC Γ Z σ H env φ) {o : Opd} {v : V} {d : D} {A : Fp} (h : OR Γ.C σ A Z H o v) (g : o.get env = some d) : Rd1 Γ.C Z H v d := by
  cases o with
  | val e =>
    have : e = d := Option.some.inj g
    subst this
    exact .sh h
  | pla i =>
    have h : σ[i]? = some (some v) := h
    unfold Opd.get at g
    simp only at g
    split at g
    · rename_i e
      cases g
      obtain ⟨w, h1, h2⟩ := S.slot i d 0 e
      rw [h] at h1; cases h1
      exact .of_ow h2 (Nat.zero_le _)
    · rename_i e
      cases g
      obtain ⟨w, h1, h2⟩ := S.slot i d 1 e
      rw [h] at h1; cases h1
      exact .of_ow h2 (Nat.le_refl _)
    · cases g
/-- an operand stays through what follows -/
theorem OR.go {Γ : Ct} {σ : L2.St} {Z Z1 : Fp} {H H1 : Hp} (x : Ext Z H Z1 H1) {o : Opd} {v : V} {A B : Fp} (h : OR Γ.C σ A Z H o v) : OR Γ.C σ B Z1 H1 o v := by
  cases o with
  | val e => exact Sh.ext x e v h
  | pla i => exact h

section
variable {Γ : Ct} {e a b : Expr} {pos : Pos}
/-! ### from kind to kind -/
def vOfE (f : En → R (D × Nat)) : En → R D := fun env => (f env).bind fun p env1 => .ok p.1 env1
def eOfV (f : En → R D) : En → R (D × Nat) := fun env => (f env).bind fun d env1 => .ok (d, 0) env1
def oOfV (f : En → R D) : En → R Opd := fun env => (f env).bind fun d env1 => .ok (.val d) env1
theorem EvE.toV {f : En → R (D × Nat)} (h : EvE Γ e f) : EvV Γ e (vOfE f) := by
  obtain ⟨t, h1, h2⟩ := h
  refine ⟨t, h1, fun σ H Z env φ S Q P => ?_⟩
  refine h2.bind S P fun p env1 v H1 Z1 φ1 A e1 S1 o dj ev P1 => ?_
  obtain ⟨d, k⟩ := p
  -- what was owned is shared now
  have x : Ext Z1 H1 (fun y => Z1 y ∨ A y) H1 := ⟨fun _ _ _ q => q, fun _ z => .inl z, fun _ _ q => q, fun _ _ _ q => q⟩
  have S2 : SttC Γ (fun y => Z1 y ∨ A y) σ H1 env1 φ1 := S1.go x (fun _ _ _ q => q) (fun y q z => z.elim (S1.tnz y q) fun z => (dj y z).1 q) fun y z => z.elim (S1.zh y) fun z e => by
    have := o.mut y z
    rw [e] at this; exact this
  refine P1 v H1 _ φ1 (fun _ => False) S2 (o.frz (fun _ z => .inl z) fun _ z => .inr z) (fun _ z => z.elim) ⟨fun _ _ q _ => q, fun _ z => .inl z, fun y z => z.imp id fun z => .inl (.inr z), fun y z => .inl (z.elim .inl fun z => z.elim)⟩
theorem EvV.toE {f : En → R D} (h : EvV Γ e f) : EvE Γ e (eOfV f) := by
  obtain ⟨t, h1, h2⟩ := h
  refine ⟨t, h1, fun σ H Z env φ S Q P => ?_⟩
  refine h2.bind S P fun d env1 v H1 Z1 φ1 A e1 S1 o dj ev P1 => ?_
  exact Post.here (P1.mono (Evo.refl.sub fun _ z => .inl z)) S1 ⟨o, fun _ z => z⟩
theorem EvV.toO {f : En → R D} (h : EvV Γ e f) : EvO Γ e (oOfV f) := by
  obtain ⟨t, h1, h2⟩ := h
  refine ⟨t, h1, fun σ H Z env φ S Q P => ?_⟩
  refine h2.bind S P fun d env1 v H1 Z1 φ1 A e1 S1 o dj ev P1 => ?_
  exact Post.here (P1.mono (Evo.refl.sub fun _ z => .inl z)) S1 o

/-! ### constants and names -/
def kI (i : Int) : En → R D := fun env => .ok (.int i) env
def kB (b : Bool) : En → R D := fun env => .ok (.bl b) env
def kS (x : Str) : En → R D := fun env => .ok (.str x) env
def kN : En → R D := fun env => .ok .non env
theorem ev_c {v : V} {d : D} (h : ∀ Z H, Sh Γ.C Z H v d) (p : PE Γ.X e (tC v)) : EvV Γ e (fun env => .ok d env) :=
  ⟨_, p, fun σ H Z env φ S Q P => Post.here P S (h Z H)⟩
theorem ev_int {i j} : EvV Γ (.Constant (.int i) j pos) (kI i) := ev_c (fun _ _ => .int i) pe_int
theorem ev_bl {i j} : EvV Γ (.Constant (.bool i) j pos) (kB i) := ev_c (fun _ _ => .bl i) pe_bl
theorem ev_str {i j} : EvV Γ (.Constant (.str i) j pos) (kS i) := ev_c (fun _ _ => .str i) pe_str
theorem ev_non {j} : EvV Γ (.Constant .none j pos) kN := ev_c (fun _ _ => .non) pe_non
/-- a def as a value -/
theorem ev_fn {n : Nat} {f : Addr} {x : Str} (hg : Gl Γ.X x) (hm : Γ.X.mg x = some (.ref f)) (hn : Γ.C.fa n = some f) (hd : (x == ("__debug__" : Str)) = false := by decide) : EvV Γ (.Name x pos) (fun env => .ok (.fn n) env) :=
  ev_c (v := .ref f) (fun _ _ => .fn hn) (pe_glob hg hm rfl hd)
/-- a module's int -/
theorem ev_gint {i : Int} {t : Tok} {x : Str} (hg : Gl Γ.X x) (hm : Γ.X.mg x = some (.int i t)) (hd : (x == ("__debug__" : Str)) = false := by decide) : EvV Γ (.Name x pos) (kI i) :=
  ev_c (fun _ _ => .int i) (pe_glob hg hm ⟨t, rfl⟩ hd)
theorem ev_gstr {i : Str} {t : Tok} {x : Str} (hg : Gl Γ.X x) (hm : Γ.X.mg x = some (.str i t)) (hd : (x == ("__debug__" : Str)) = false := by decide) : EvV Γ (.Name x pos) (kS i) :=
  ev_c (fun _ _ => .str i) (pe_glob hg hm ⟨t, rfl⟩ hd)

/-- a name read to be kept elsewhere: its lists are shared from now on -/
def nmV (i : Nat) : En → R D := fun env =>
  match env[i]? with
  | some (some (d, _)) => .ok d (env.set i (some (d, 0)))
  | _ => .no
/-- a name read as an operand -/
def nmO (i : Nat) : En → R Opd := fun env =>
  match env[i]? with
  | some (some (d, 0)) => .ok (.val d) env
  | some (some (_, 1)) => .ok (.pla i) env
  | some (some (d, _)) => .ok (.val d) (env.set i (some (d, 0)))
  | _ => .no
theorem Stt.share {C : RC} {io : List Nat} {σ₀ σ : L2.St} {Z : Fp} {H : Hp} {env : En} {φ : Nat → Fp} (S : Stt C io σ₀ Z σ H env φ) {i : Nat} {d : D} {k : Nat} (h : env[i]? = some (some (d, k))) :
    ∃ v, σ[i]? = some (some v) ∧ Stt C io σ₀ (fun y => Z y ∨ φ i y) σ H (env.set i (some (d, 0))) (fun j => if j = i then (fun _ => False) else φ j) ∧ Sh C (fun y => Z y ∨ φ i y) H v d ∧
      Evo Z H (Tot φ) (fun y => Z y ∨ φ i y) H (Tot fun j => if j = i then (fun _ => False) else φ j) := by
  obtain ⟨v, hv, o⟩ := S.slot i d k h
  have sh : Sh C (fun y => Z y ∨ φ i y) H v d := o.frz (fun _ z => .inl z) fun _ z => .inr z
  have x : Ext Z H (fun y => Z y ∨ φ i y) H := ⟨fun _ _ _ q => q, fun _ z => .inl z, fun _ _ q => q, fun _ _ _ q => q⟩
  have zh : ∀ a, Z a ∨ φ i a → H a ≠ none := fun a z => z.elim (S.zh a) fun z e => by
    have := S.mu a ⟨i, z⟩
    rw [e] at this; exact this
  have S1 := (S.drop i).go x (fun _ _ _ q => q) (fun a ⟨j, q, z⟩ zz => zz.elim (S.nz j a z) fun y => q (S.dj j i a z y)) zh
  have hi : i < env.length := (List.getElem?_eq_some_iff.mp h).1
  have S2 := S1.reput (i := i) (by simpa using hi) hv (Ow.sh sh) (fun _ _ _ _ z => z) (fun _ z => z.elim)
  refine ⟨v, hv, ?_, sh, ⟨fun _ _ q _ => q, fun _ z => .inl z, fun a z => z.elim .inl fun z => .inr (.inl ⟨i, z⟩), fun a ⟨j, z⟩ => ?_⟩⟩
  · have e1 : (env.set i none).set i (some (d, 0)) = env.set i (some (d, 0)) := by rw [List.set_set]
    rw [e1] at S2
    have e2 : (fun j => if j = i then (fun _ : Addr => False) else fun a => j ≠ i ∧ φ j a) = fun j => if j = i then (fun _ => False) else φ j := by
      funext j
      by_cases q : j = i
      · rw [if_pos q, if_pos q]
      · rw [if_neg q, if_neg q]
        funext a
        exact propext ⟨fun z => z.2, fun z => ⟨q, z⟩⟩
    rw [e2] at S2
    exact S2
  · by_cases q : j = i
    · simp only [if_pos q] at z
    · simp only [if_neg q] at z; exact .inl ⟨j, z⟩
theorem ev_name {i : Nat} {x : Str} (hN : Γ.X.N[i]? = some x) (hv : Vis Γ.X.env.scope x) (hd : (x == ("__debug__" : Str)) = false := by decide) (hcd : (x == ("__classdict__" : Str)) = false := by decide) : EvV Γ (.Name x pos) (nmV i) := by
  refine ⟨_, pe_var hN hv hd hcd, fun σ H Z env φ S Q P => ?_⟩
  unfold nmV at P
  split at P
  · rename_i d k h
    obtain ⟨v, h1, S1, sh, ev⟩ := S.share h
    exact ⟨v, h1, Post.here (P.mono ev) S1 sh⟩
  · exact P.elim
theorem ev_nameO {i : Nat} {x : Str} (hN : Γ.X.N[i]? = some x) (hv : Vis Γ.X.env.scope x) (hd : (x == ("__debug__" : Str)) = false := by decide) (hcd : (x == ("__classdict__" : Str)) = false := by decide) : EvO Γ (.Name x pos) (nmO i) := by
  refine ⟨_, pe_var hN hv hd hcd, fun σ H Z env φ S Q P => ?_⟩
  unfold nmO at P
  split at P
  · rename_i d h
    obtain ⟨v, h1, o⟩ := S.slot i d 0 h
    exact ⟨v, h1, Post.here P S o.1⟩
  · rename_i d h
    obtain ⟨v, h1, o⟩ := S.slot i d 1 h
    exact ⟨v, h1, Post.here P S h1⟩
  · rename_i d k _ _ h
    obtain ⟨v, h1, S1, sh, ev⟩ := S.share h
    exact ⟨v, h1, Post.here (P.mono ev) S1 sh⟩
  · exact P.elim

/-! ### operators by values -/
/-- what an operation makes of data: with the depth that is its own -/
def own1 : D → Nat
  | .lst _ => 1
  | .dic _ _ => 1
  | _ => 0
def op2 (g : D → D → Option (D × Nat)) (fa fb : En → R Opd) : En → R (D × Nat) := fun env => (fa env).bind fun oa env1 => (fb env1).bind fun ob env2 =>
  match oa.get env2, ob.get env2 with
  | some x, some y => R.of (g x y) env2
  | _, _ => .no
/-- a rule's reading r does what g tells -/
def Does2 (Γ : Ct) (g : D → D → Option (D × Nat)) (r : R2) : Prop :=
  ∀ σ H Z env φ, SttC Γ Z σ H env φ → ∀ x y d e p, Rd1 Γ.C Z H x d → Rd1 Γ.C Z H y e → g d e = some p → ∀ Q : VK, Post Γ σ Z H (Tot φ) (ER Γ.C σ) (.ok p env) Q → r x y H Q
theorem ev_op2 {ta : R2} {mk : TE → TE → TE} {g : D → D → Option (D × Nat)} {r : R2} {fa fb : En → R Opd} (ha : EvO Γ a fa) (hb : EvO Γ b fb) (hp : ∀ ta tb, PE Γ.X a ta → PE Γ.X b tb → PE Γ.X e (tOp r ta tb)) (hr : Does2 Γ g r) : EvE Γ e (op2 g fa fb) := by
  obtain ⟨ta, a1, a2⟩ := ha
  obtain ⟨tb, b1, b2⟩ := hb
  refine ⟨_, hp ta tb a1 b1, fun σ H Z env φ S Q P => ?_⟩
  refine a2.bind S P fun oa env1 x H1 Z1 φ1 A e1 S1 q1 dj1 ev1 P1 => ?_
  refine b2.bind S1 (P1.mono (Evo.refl.sub fun _ z => .inl z)) fun ob env2 y H2 Z2 φ2 B e2 S2 q2 dj2 ev2 P2 => ?_
  have P3 := P2.mono (Evo.refl.sub (F2 := Tot φ2) fun _ z => .inl z)
  have q1' : OR Γ.C σ B Z2 H2 oa x := OR.go (S1.ext ev2) q1
  cases ga : oa.get env2 with
  | none => rw [ga] at P3; exact P3.elim
  | some d =>
    cases gb : ob.get env2 with
    | none => rw [ga, gb] at P3; exact P3.elim
    | some e =>
      rw [ga, gb] at P3
      cases gg : g d e with
      | none => simp only [gg] at P3; exact P3.elim
      | some p =>
        simp only [gg] at P3
        exact hr σ H2 Z2 env2 φ2 S2 x y d e p (Opd.rd S2 q1' ga) (Opd.rd S2 q2 gb) gg Q P3
end
end Pv
end

section
set_option Elab.async false
set_option linter.all false
set_option maxRecDepth 100000
set_option maxHeartbeats 4000000
/-! Pv3: operators, comparisons, tests. -/
namespace Pv
open PySem PySem.Spec PyProof.Rows L2

def lim : Nat := 16000000
theorem lim_le {n : Nat} (h : n ≤ lim) : n ≤ sizeLine := Nat.le_trans h (by decide)

/-! ### arithmetic -/
def sml (i : Int) : Bool := Nat.ble i.natAbs 18446744073709551615
theorem sml_ok {i : Int} (h : sml i = true) : -(2 ^ 64) < i ∧ i < 2 ^ 64 := by
  have h1 := Nat.le_of_ble_eq_true h
  omega
def mulOk (i j : Int) : Bool := sml j || (sml i || decide (i.natAbs.log2 + j.natAbs.log2 < 1000000))
theorem mulOk.ok {i j : Int} (h : mulOk i j = true) : IntMulOk i j := by
  unfold mulOk at h
  simp only [Bool.or_eq_true, decide_eq_true_eq] at h
  rcases h with h | h | h
  · exact CMul.ok (.inr (sml_ok h))
  · exact CMul.ok (.inl (sml_ok h))
  · exact CMulW.ok h
def addD : D → D → Option (D × Nat)
  | .int i, .int j => some (.int (i + j), 0)
  | .tup xs, .tup ys => if xs.length + ys.length ≤ lim then some (.tup (xs ++ ys), 0) else none
  | .lst xs, .lst ys => if xs.length + ys.length ≤ lim then some (.lst (xs ++ ys), 1) else none
  | .str x, .str y => if x.length + y.length ≤ lim then some (.str (x ++ y), 0) else none
  | _, _ => none
def subD : D → D → Option (D × Nat)
  | .int i, .int j => some (.int (i - j), 0)
  | _, _ => none
def mulD : D → D → Option (D × Nat)
  | .int i, .int j => if mulOk i j then some (.int (i * j), 0) else none
  | .lst xs, .int k => if xs.length * k.toNat ≤ lim ∧ -(2 ^ 63) ≤ k ∧ k < 2 ^ 63 then some (.lst (List.replicate k.toNat xs).flatten, 1) else none
  | .tup xs, .int k => if xs ≠ [] ∧ 2 ≤ k ∧ k ≤ 1000 ∧ xs.length ≤ 1000 then some (.tup (List.replicate k.toNat xs).flatten, 0) else none
  | _, _ => none
def fdivD : D → D → Option (D × Nat)
  | .int i, .int j => if j ≠ 0 ∧ j.natAbs.log2 < 9000 then some (.int (i.fdiv j), 0) else none
  | _, _ => none
def modD : D → D → Option (D × Nat)
  | .int i, .int j => if j ≠ 0 then some (.int (i.fmod j), 0) else none
  | _, _ => none
def rMulZ : R2 := fun x y H Q => ∃ i j, x = .int i ∧ y = .int j ∧ IntMulOk i j ∧ Q (.int (i * j)) H
def rDivZ : R2 := fun x y H Q => ∃ i j : Int, x = .int i ∧ y = .int j ∧ (j ≠ 0 ∧ j.natAbs.log2 < 9000) ∧ Q (.int (i.fdiv j)) H
section
variable {X : Cx}
theorem op_mulZ : OpR X (binaryOp .Mult) rMulZ := by
  intro pins s σ H x y v u Q I rx ry h
  obtain ⟨i, j, rfl, rfl, hc, q⟩ := h
  obtain ⟨t, rfl⟩ := rx
  obtain ⟨t', rfl⟩ := ry
  exact mul_int ⟨.int _, H, I.tok _, ⟨_, rfl⟩, q⟩ hc
theorem op_divZ : OpR X (binaryOp .FloorDiv) rDivZ := by
  intro pins s σ H x y v u Q I rx ry h
  obtain ⟨i, j, rfl, rfl, hc, q⟩ := h
  obtain ⟨t, rfl⟩ := rx
  obtain ⟨t', rfl⟩ := ry
  exact floordiv_int hc.1 ⟨.int _, H, I.tok _, ⟨_, rfl⟩, q⟩ (.inl (PyProof.noPylong_of_log2 hc.2))
theorem iop_divZ : OpR X (inplaceOp .FloorDiv) rDivZ := by
  intro pins s σ H x y v u Q I rx ry h
  obtain ⟨i, j, rfl, rfl, hc, q⟩ := h
  obtain ⟨t, rfl⟩ := rx
  obtain ⟨t', rfl⟩ := ry
  exact ifloordiv_int hc.1 ⟨.int _, H, I.tok _, ⟨_, rfl⟩, q⟩ (.inl (PyProof.noPylong_of_log2 hc.2))
end
abbrev rAddA (K : PySem.W.Frag) : R2 := fun x y H Q => rI0 (fun i j => .int (i + j)) x y H Q ∨ rCatA K x y H Q ∨ rCat x y H Q ∨ (∃ i j, x = .str i ∧ y = .str j ∧ i.length + j.length ≤ sizeLine ∧ Q (.str (i ++ j)) H)
abbrev rMulA (K : PySem.W.Frag) : R2 := fun x y H Q => rMulZ x y H Q ∨ rRep x y H Q ∨ rRepT K x y H Q
section
variable {Γ : Ct} (G : Good Γ)
include G
theorem does_add : Does2 Γ addD (rAddA Γ.X.K) := by
  intro σ H Z env φ S x y d e p hx hy hg Q P
  unfold addD at hg
  split at hg
  · cases hg
    rw [hx.intI, hy.intI]
    exact .inl ⟨_, _, rfl, rfl, Post.here P S (Ow.sh (.int _))⟩
  · rename_i xs ys
    split at hg
    · rename_i hz
      cases hg
      obtain ⟨a, us, rfl, ha, ra⟩ := hx.tupI
      obtain ⟨b, vs, rfl, hb, rb⟩ := hy.tupI
      have la := ra.length
      have lb := rb.length
      rw [G.hK] at ha hb
      refine .inr (.inl ⟨a, b, us, vs, rfl, rfl, ha, hb, by rw [la, lb]; exact lim_le hz, fun e => ?_, fun _ e => ?_, fun _ _ p hp => ?_⟩)
      · subst e
        cases ra
        exact Post.here P S (Ow.sh (.tup (by rw [G.hK]; exact hb) rb))
      · subst e
        cases rb
        rw [List.append_nil] at P
        exact Post.here P S (Ow.sh (.tup (by rw [G.hK]; exact ha) ra))
      · have x : Ext Z H Z (upd H p (.tup (us ++ vs))) := Ext.new hp
        exact Post.newT P S hp (Ow.sh (.tup (SqT.of upd_same) ((ra.append rb).ext x)))
    · cases hg
  · rename_i xs ys
    split at hg
    · rename_i hz
      cases hg
      obtain ⟨a, us, rfl, ha, ra⟩ := hx.lstI
      obtain ⟨b, vs, rfl, hb, rb⟩ := hy.lstI
      have la := ra.length
      have lb := rb.length
      refine .inr (.inr (.inl ⟨a, b, us, vs, rfl, rfl, ha, hb, by rw [la, lb]; exact lim_le hz, fun p hp => ?_⟩))
      have x : Ext Z H Z (upd H p (.lst (us ++ vs))) := Ext.new hp
      exact Post.newL P S hp (Ow.lst1 upd_same ((ra.append rb).ext x))
    · cases hg
  · split at hg
    · rename_i hz
      cases hg
      rw [hx.strI, hy.strI]
      exact .inr (.inr (.inr ⟨_, _, rfl, rfl, lim_le hz, Post.here P S (Ow.sh (.str _))⟩))
    · cases hg
  · cases hg
omit G in
theorem does_sub : Does2 Γ subD (rI0 fun i j => .int (i - j)) := by
  intro σ H Z env φ S x y d e p hx hy hg Q P
  unfold subD at hg
  split at hg
  · cases hg
    rw [hx.intI, hy.intI]
    exact ⟨_, _, rfl, rfl, Post.here P S (Ow.sh (.int _))⟩
  · cases hg
theorem does_mul : Does2 Γ mulD (rMulA Γ.X.K) := by
  intro σ H Z env φ S x y d e p hx hy hg Q P
  unfold mulD at hg
  split at hg
  · split at hg
    · rename_i hz
      cases hg
      rw [hx.intI, hy.intI]
      exact .inl ⟨_, _, rfl, rfl, mulOk.ok hz, Post.here P S (Ow.sh (.int _))⟩
    · cases hg
  · rename_i xs k
    split at hg
    · rename_i hz
      cases hg
      obtain ⟨a, us, rfl, ha, ra⟩ := hx.lstI
      rw [hy.intI]
      have la := ra.length
      refine .inr (.inl ⟨a, k, us, rfl, rfl, ha, hz.2.1, hz.2.2, by rw [la]; exact lim_le hz.1, fun p hp => ?_⟩)
      have x : Ext Z H Z (upd H p (.lst (List.replicate k.toNat us).flatten)) := Ext.new hp
      exact Post.newL P S hp (Ow.lst1 upd_same (ra.flat.ext x))
    · cases hg
  · rename_i xs k
    split at hg
    · rename_i hz
      cases hg
      obtain ⟨a, us, rfl, ha, ra⟩ := hx.tupI
      rw [hy.intI]
      have la := ra.length
      rw [G.hK] at ha
      refine .inr (.inr ⟨a, k, us, rfl, rfl, ha, fun e => hz.1 (by subst e; cases ra; rfl), hz.2.1, hz.2.2.1, by rw [la]; exact hz.2.2.2, fun p hp => ?_⟩)
      have x : Ext Z H Z (upd H p (.tup (List.replicate k.toNat us).flatten)) := Ext.new hp
      exact Post.newT P S hp (Ow.sh (.tup (SqT.of upd_same) (ra.flat.ext x)))
    · cases hg
  · cases hg
omit G in
theorem does_fdiv : Does2 Γ fdivD rDivZ := by
  intro σ H Z env φ S x y d e p hx hy hg Q P
  unfold fdivD at hg
  split at hg
  · split at hg
    · rename_i hz
      cases hg
      rw [hx.intI, hy.intI]
      exact ⟨_, _, rfl, rfl, hz, Post.here P S (Ow.sh (.int _))⟩
    · cases hg
  · cases hg
omit G in
theorem does_mod : Does2 Γ modD (rI (fun _ j => j ≠ 0) fun i j => .int (i.fmod j)) := by
  intro σ H Z env φ S x y d e p hx hy hg Q P
  unfold modD at hg
  split at hg
  · split at hg
    · rename_i hz
      cases hg
      rw [hx.intI, hy.intI]
      exact ⟨_, _, rfl, rfl, hz, Post.here P S (Ow.sh (.int _))⟩
    · cases hg
  · cases hg
end
section
variable {Γ : Ct} {a b : Expr} {fa fb : En → R Opd} {pos : Pos}
theorem ev_add (G : Good Γ) (ha : EvO Γ a fa) (hb : EvO Γ b fb) : EvE Γ (.BinOp a .Add b pos) (op2 addD fa fb) := ev_op2 (ta := rAddA Γ.X.K) (mk := fun x _ => x) ha hb (fun _ _ p q => pe_op (op_add.or (op_catA.or (op_cat.or op_add_str))) p q) (does_add G)
theorem ev_sub (ha : EvO Γ a fa) (hb : EvO Γ b fb) : EvE Γ (.BinOp a .Sub b pos) (op2 subD fa fb) := ev_op2 (ta := rAddA Γ.X.K) (mk := fun x _ => x) ha hb (fun _ _ p q => pe_op op_sub p q) does_sub
theorem ev_mul (G : Good Γ) (ha : EvO Γ a fa) (hb : EvO Γ b fb) : EvE Γ (.BinOp a .Mult b pos) (op2 mulD fa fb) := ev_op2 (ta := rAddA Γ.X.K) (mk := fun x _ => x) ha hb (fun _ _ p q => pe_op (op_mulZ.or (op_rep.or op_repT)) p q) (does_mul G)
theorem ev_fdiv (ha : EvO Γ a fa) (hb : EvO Γ b fb) : EvE Γ (.BinOp a .FloorDiv b pos) (op2 fdivD fa fb) := ev_op2 (ta := rAddA Γ.X.K) (mk := fun x _ => x) ha hb (fun _ _ p q => pe_op op_divZ p q) does_fdiv
theorem ev_mod (ha : EvO Γ a fa) (hb : EvO Γ b fb) : EvE Γ (.BinOp a .Mod b pos) (op2 modD fa fb) := ev_op2 (ta := rAddA Γ.X.K) (mk := fun x _ => x) ha hb (fun _ _ p q => pe_op op_modN p q) does_mod
end

/-! ### data for == -/
mutual
def D.py : D → Option PyData
  | .non => some .none
  | .bl b => some (.bool b)
  | .int i => some (.int i)
  | .str x => some (.str x)
  | .tup ds => (D.pyL ds).map .tuple
  | .lst ds => (D.pyL ds).map .list
  | .fn _ => none
  | .dic _ _ => none
  | .scr _ => none
def D.pyL : List D → Option (List PyData)
  | [] => some []
  | d :: ds => match D.py d, D.pyL ds with
    | some p, some ps => some (p :: ps)
    | _, _ => none
end
section
variable {C : RC} {Z : Fp} {H : Hp}
mutual
theorem Sh.dp : ∀ (d : D) (v : V) (p : PyData), Sh C Z H v d → d.py = some p → Dp C.K H v p
  | .non, _, _, h, e => by cases h; cases e; exact .non
  | .bl b, _, _, h, e => by cases h; cases e; exact .bl b
  | .int i, _, _, h, e => by cases h; cases e; exact .int i
  | .str x, _, _, h, e => by cases h; cases e; exact .str x
  | .tup ds, _, p, h, e => by
    cases h with
    | tup s r =>
      unfold D.py at e
      obtain ⟨ps, e1, rfl⟩ := Option.map_eq_some_iff.mp e
      exact .tup s (ShL.dp ds _ ps r e1)
  | .lst ds, _, p, h, e => by
    cases h with
    | lst s z r =>
      unfold D.py at e
      obtain ⟨ps, e1, rfl⟩ := Option.map_eq_some_iff.mp e
      exact .lst (SqL.of s) (ShL.dp ds _ ps r e1)
  | .fn _, _, _, _, e => by cases e
  | .dic _ _, _, _, _, e => by cases e
  | .scr _, _, _, _, e => by cases e
theorem ShL.dp : ∀ (ds : List D) (vs : List V) (ps : List PyData), ShL C Z H vs ds → D.pyL ds = some ps → DpAll C.K H vs ps
  | [], _, _, h, e => by cases h; cases e; exact .nil
  | d :: ds, _, ps, h, e => by
    cases h with
    | cons h r =>
      unfold D.pyL at e
      split at e
      · rename_i p qs e1 e2
        cases e
        exact .cons (Sh.dp d _ _ h e1) (ShL.dp ds _ _ r e2)
      · cases e
end
theorem Rd1.dp {v : V} {d : D} {p : PyData} (h : Rd1 C Z H v d) (e : d.py = some p) : Dp C.K H v p := by
  cases h with
  | sh h => exact Sh.dp d v p h e
  | lst s r =>
    unfold D.py at e
    obtain ⟨ps, e1, rfl⟩ := Option.map_eq_some_iff.mp e
    exact .lst (SqL.of s) (ShL.dp _ _ ps r e1)
  | dic s l r => cases e
end
/-- == where both can be compared -/
def eqB (d e : D) : Option Bool :=
  match d.py, e.py with
  | some p, some q => if SeqAt.shaped p && SeqAt.shaped q then some (PyData.eqv p q) else none
  | _, _ => none
def eqD (d e : D) : Option (D × Nat) := (eqB d e).map fun b => (.bl b, 0)
def neD (d e : D) : Option (D × Nat) := (eqB d e).map fun b => (.bl (!b), 0)
def cmpD (f : Int → Int → Bool) : D → D → Option (D × Nat)
  | .int i, .int j => some (.bl (f i j), 0)
  | _, _ => none
def D.ints : List D → Option (List Int)
  | [] => some []
  | .int i :: r => (D.ints r).map (i :: ·)
  | _ :: _ => none
theorem D.ints_eq : ∀ {ds : List D} {ns : List Int}, D.ints ds = some ns → ds = ns.map D.int
  | [], ns, h => by cases h; rfl
  | .int i :: r, ns, h => by
    unfold D.ints at h
    obtain ⟨ms, e, rfl⟩ := Option.map_eq_some_iff.mp h
    rw [List.map_cons, ← D.ints_eq e]
  | .non :: _, _, h => by cases h
  | .bl _ :: _, _, h => by cases h
  | .str _ :: _, _, h => by cases h
  | .fn _ :: _, _, h => by cases h
  | .tup _ :: _, _, h => by cases h
  | .lst _ :: _, _, h => by cases h
  | .dic _ _ :: _, _, h => by cases h
  | .scr _ :: _, _, h => by cases h
@[simp] theorem D.ints_map : ∀ ns : List Int, D.ints (ns.map D.int) = some ns
  | [] => rfl
  | n :: ns => by rw [List.map_cons, D.ints, D.ints_map ns]; rfl
/-- flat data -/
def D.flat : D → Bool
  | .non => true
  | .bl _ => true
  | .int _ => true
  | .str _ => true
  | _ => false
def eqF : D → D → Bool
  | .non, .non => true
  | .bl a, .bl b => a == b
  | .bl a, .int b => (if a then 1 else 0) == b
  | .int a, .bl b => a == (if b then 1 else 0)
  | .int a, .int b => a == b
  | .str a, .str b => a == b
  | _, _ => false
def keyD : D → Option Key
  | .int i => some (.inl i)
  | .str x => some (.inr x)
  | _ => none
theorem keyD_eq {d : D} {k : Key} (h : keyD d = some k) {C : RC} {Z : Fp} {H : Hp} {v : V} (r : Rd1 C Z H v d) : v = kV k := by
  cases d with
  | int i => cases h; exact r.intI
  | str x => cases h; exact r.strI
  | _ => cases h
section
variable {C : RC} {Z : Fp} {H : Hp}
theorem Sh.flat {v : V} {d : D} (h : Sh C Z H v d) (f : d.flat = true) : flatV v = true := by
  cases h <;> first | rfl | cases f
theorem ShL.flat_all : ∀ {vs : List V} {ds : List D}, ShL C Z H vs ds → ds.all D.flat = true → vs.all flatV = true
  | _, _, .nil, _ => rfl
  | _, _, .cons h r, f => by
    rw [List.all_cons, Bool.and_eq_true] at f ⊢
    exact ⟨h.flat f.1, r.flat_all f.2⟩
theorem eqV_eqF {v w : V} {d e : D} (h : Sh C Z H v d) (h' : Sh C Z H w e) (f : d.flat = true) (f' : e.flat = true) : eqV v w = eqF d e := by
  cases h <;> first | (cases f; done) | (cases h' <;> first | (cases f'; done) | rfl)
theorem inV_eqF {v : V} {d : D} (h : Sh C Z H v d) (f : d.flat = true) : ∀ {vs : List V} {ds : List D}, ShL C Z H vs ds → ds.all D.flat = true → inV v vs = ds.any fun e => eqF e d
  | _, _, .nil, _ => rfl
  | _, _, .cons (v := w) (d := e) h1 r, g => by
    rw [List.all_cons, Bool.and_eq_true] at g
    unfold inV
    rw [List.any_cons, List.any_cons, eqV_eqF h1 h g.1 f]
    have := inV_eqF h f r g.2
    unfold inV at this
    rw [this]
end
def hasK {κ : Type} [DecidableEq κ] (ks : List κ) (k : κ) : Bool := ks.any fun j => decide (j = k)
def inB (d : D) : D → Option Bool
  | .tup ds => if d.flat && ds.all D.flat then some (ds.any fun e => eqF e d) else none
  | .lst ds => if d.flat && ds.all D.flat then some (ds.any fun e => eqF e d) else
      match d.py, D.pyL ds with
      | some p, some qs => if SeqAt.shaped p && SeqAt.shaped (.list qs) then some (qs.any fun q => PyData.eqv q p) else none
      | _, _ => none
  | .dic ks _ => (keyD d).map fun k => hasK ks k
  | .str y => match d with
    | .str x => some (!(Builtin.Str.occurrences y x 0 y.length 1).isEmpty)
    | _ => none
  | _ => none
def inD (d e : D) : Option (D × Nat) := (inB d e).map fun b => (.bl b, 0)
def ninD (d e : D) : Option (D × Nat) := (inB d e).map fun b => (.bl (!b), 0)
def isNB : D → Bool
  | .non => true
  | _ => false
/-- x is e, e a written None, True, False; what is known of other values: they are not None -/
def isD (d e : D) : Option (D × Nat) :=
  match e, d with
  | .non, d => some (.bl (isNB d), 0)
  | .bl b, .bl c => some (.bl (decide (c = b)), 0)
  | _, _ => none
def nisD (d e : D) : Option (D × Nat) :=
  match e, d with
  | .non, d => some (.bl (!isNB d), 0)
  | .bl b, .bl c => some (.bl (!decide (c = b)), 0)
  | _, _ => none

theorem cval {κ : Type} [DecidableEq κ] : ∀ (ks : List κ) (xs : List V) (k : κ), ks.length = xs.length → (valV (ks.zip xs) k).isSome = hasK ks k
  | [], _, _, _ => rfl
  | _ :: _, [], _, h => by simp at h
  | j :: ks, x :: xs, k, h => by
    rw [List.zip_cons_cons]
    unfold hasK
    rw [List.any_cons]
    by_cases e : j = k
    · rw [valV_pos e, e]; simp
    · rw [valV_neg e, cval ks xs k (by simpa using h), decide_eq_false e, Bool.false_or]
      rfl
abbrev rDIn : R2 := fun x y H Q => ∃ a o, y = .ref a ∧ DGet H a x o ∧ Q (.bl o.isSome) H
abbrev rDNin : R2 := fun x y H Q => ∃ a o, y = .ref a ∧ DGet H a x o ∧ Q (.bl (!o.isSome)) H
section
variable {X : Cx}
theorem op_din (hu : X.A.units + 1 < cLine) : OpR X (compareOp .In) rDIn := by
  intro pins s σ H x y v u Q I rx ry h
  obtain ⟨a, o, rfl, g, q⟩ := h
  cases ry
  exact d_in hu I g rx fun s' I' => ⟨.bl _, H, I', rfl, q⟩
theorem op_dnin (hu : X.A.units + 1 < cLine) : OpR X (compareOp .NotIn) rDNin := by
  intro pins s σ H x y v u Q I rx ry h
  obtain ⟨a, o, rfl, g, q⟩ := h
  cases ry
  exact d_notIn hu I g rx fun s' I' => ⟨.bl _, H, I', rfl, q⟩
end
end Pv
end

section
set_option Elab.async false
set_option linter.all false
set_option maxRecDepth 100000
set_option maxHeartbeats 4000000
/-! Pv4: comparisons, tests, subscripts, slices, displays. -/
namespace Pv
open PySem PySem.Spec PyProof.Rows L2

/-- a rule that hands back a bool that is reckoned of the data -/
theorem does_bool {Γ : Ct} {g : D → D → Option Bool} {h : D → D → Option (D × Nat)} {r : R2} (hh : ∀ d e, h d e = (g d e).map fun b => (.bl b, 0))
    (k : ∀ (Z : Fp) (H : Hp) (x y : V) (d e : D) (b : Bool), Rd1 Γ.C Z H x d → Rd1 Γ.C Z H y e → g d e = some b → ∀ Q : VK, Q (.bl b) H → r x y H Q) : Does2 Γ h r := by
  intro σ H Z env φ S x y d e p hx hy hg Q P
  rw [hh] at hg
  obtain ⟨b, e1, rfl⟩ := Option.map_eq_some_iff.mp hg
  exact k Z H x y d e b hx hy e1 Q (Post.here P S (Ow.sh (.bl b)))
abbrev rInA (K : PySem.W.Frag) : R2 := fun x y H Q => rIn K false x y H Q ∨ rInD K x y H Q ∨ rDIn x y H Q ∨ (∃ i j, x = .str i ∧ y = .str j ∧ Q (.bl (!(Builtin.Str.occurrences j i 0 j.length 1).isEmpty)) H)
abbrev rNinA (K : PySem.W.Frag) : R2 := fun x y H Q => rIn K true x y H Q ∨ rNotInD K x y H Q ∨ rDNin x y H Q ∨ (∃ i j, x = .str i ∧ y = .str j ∧ Q (.bl (!(!(Builtin.Str.occurrences j i 0 j.length 1).isEmpty))) H)
theorem inB_sound {Γ : Ct} (G : Good Γ) {Z : Fp} {H : Hp} {x y : V} {d e : D} {b : Bool} (hx : Rd1 Γ.C Z H x d) (hy : Rd1 Γ.C Z H y e) (h : inB d e = some b) :
    (∀ Q : VK, Q (.bl b) H → rInA Γ.X.K x y H Q) ∧ ∀ Q : VK, Q (.bl (!b)) H → rNinA Γ.X.K x y H Q := by
  unfold inB at h
  split at h
  · rename_i ds
    split at h
    · rename_i hf
      cases h
      rw [Bool.and_eq_true] at hf
      obtain ⟨a, vs, rfl, ha, ra⟩ := hy.tupI
      rw [G.hK] at ha
      have hx' : Sh Γ.C Z H x d := by
        cases hx with
        | sh h => exact h
        | lst _ _ => cases hf.1
        | dic _ _ _ => cases hf.1
      have e1 := inV_eqF hx' hf.1 ra hf.2
      exact ⟨fun Q q => .inl ⟨a, vs, rfl, .inr ha, hx'.flat hf.1, ra.flat_all hf.2, by rw [e1]; exact q⟩, fun Q q => .inl ⟨a, vs, rfl, .inr ha, hx'.flat hf.1, ra.flat_all hf.2, by rw [e1]; exact q⟩⟩
    · cases h
  · rename_i ds
    split at h
    · rename_i hf
      cases h
      rw [Bool.and_eq_true] at hf
      obtain ⟨a, vs, rfl, ha, ra⟩ := hy.lstI
      have ha' : SqL Γ.X.K H a vs := SqL.of ha
      have hx' : Sh Γ.C Z H x d := by
        cases hx with
        | sh h => exact h
        | lst _ _ => cases hf.1
        | dic _ _ _ => cases hf.1
      have e1 := inV_eqF hx' hf.1 ra hf.2
      exact ⟨fun Q q => .inl ⟨a, vs, rfl, .inl ha', hx'.flat hf.1, ra.flat_all hf.2, by rw [e1]; exact q⟩, fun Q q => .inl ⟨a, vs, rfl, .inl ha', hx'.flat hf.1, ra.flat_all hf.2, by rw [e1]; exact q⟩⟩
    · split at h
      · rename_i p qs e1 e2
        split at h
        · rename_i hs
          cases h
          rw [Bool.and_eq_true] at hs
          have d1 := hx.dp e1
          have d2 := hy.dp (show (D.lst ds).py = some (.list qs) by unfold D.py; rw [e2]; rfl)
          rw [G.hK] at d1 d2
          exact ⟨fun Q q => .inr (.inl ⟨p, qs, d1, d2, hs.1, hs.2, q⟩), fun Q q => .inr (.inl ⟨p, qs, d1, d2, hs.1, hs.2, q⟩)⟩
        · cases h
      · cases h
  · rename_i ks vs
    obtain ⟨k, e1, rfl⟩ := Option.map_eq_some_iff.mp h
    obtain ⟨a, xs, rfl, ha, hl, ra⟩ := hy.dicI
    have ex := keyD_eq e1 hx
    subst ex
    have g := DGet.k (k := k) ha
    have e2 := cval ks xs k hl
    exact ⟨fun Q q => .inr (.inr (.inl ⟨a, _, rfl, g, by rw [e2]; exact q⟩)), fun Q q => .inr (.inr (.inl ⟨a, _, rfl, g, by rw [e2]; exact q⟩))⟩
  · split at h
    · cases h
      rw [hx.strI, hy.strI]
      exact ⟨fun Q q => .inr (.inr (.inr ⟨_, _, rfl, rfl, q⟩)), fun Q q => .inr (.inr (.inr ⟨_, _, rfl, rfl, q⟩))⟩
    · cases h
  · cases h
abbrev rIsA : R2 := fun x y H Q => (y = .non ∧ Q (.bl (decide (x = .non))) H) ∨ ∃ a b, x = .bl a ∧ y = .bl b ∧ Q (.bl (decide (a = b))) H
abbrev rNisA : R2 := fun x y H Q => (y = .non ∧ Q (.bl (!decide (x = .non))) H) ∨ ∃ a b, x = .bl a ∧ y = .bl b ∧ Q (.bl (!decide (a = b))) H
theorem isNB_eq {C : RC} {Z : Fp} {H : Hp} {x : V} {d : D} (h : Rd1 C Z H x d) : decide (x = .non) = isNB d := by
  cases h with
  | sh h => cases h <;> first | rfl | (apply decide_eq_false; intro e; cases e)
  | lst _ _ => rfl
  | dic _ _ _ => rfl
section
variable {Γ : Ct} {a b c : Expr} {fa fb fc : En → R Opd} {pos : Pos}
theorem does_eq (G : Good Γ) : Does2 Γ eqD (rEqD Γ.X.K) := does_bool (g := eqB) (fun _ _ => rfl) fun Z H x y d e b hx hy h Q q => by
  unfold eqB at h
  split at h
  · rename_i p q' e1 e2
    split at h
    · rename_i hs
      cases h
      rw [Bool.and_eq_true] at hs
      have d1 := hx.dp e1
      have d2 := hy.dp e2
      rw [G.hK] at d1 d2
      exact ⟨p, q', d1, d2, hs.1, hs.2, q⟩
    · cases h
  · cases h
theorem does_ne (G : Good Γ) : Does2 Γ neD (rNeD Γ.X.K) := does_bool (g := fun d e => (eqB d e).map (!·)) (fun d e => by unfold neD; cases eqB d e <;> rfl) fun Z H x y d e b hx hy h Q q => by
  obtain ⟨b', h', eb⟩ := Option.map_eq_some_iff.mp h
  subst eb
  clear h
  have h := h'
  unfold eqB at h
  split at h
  · rename_i p q' e1 e2
    split at h
    · rename_i hs
      have eb := Option.some.inj h
      subst eb
      rw [Bool.and_eq_true] at hs
      have d1 := hx.dp e1
      have d2 := hy.dp e2
      rw [G.hK] at d1 d2
      exact ⟨p, q', d1, d2, hs.1, hs.2, q⟩
    · cases h
  · cases h
theorem does_in (G : Good Γ) : Does2 Γ inD (rInA Γ.X.K) := does_bool (g := inB) (fun _ _ => rfl) fun Z H x y d e b hx hy h Q q => (inB_sound G hx hy h).1 Q q
theorem does_nin (G : Good Γ) : Does2 Γ ninD (rNinA Γ.X.K) := does_bool (g := fun d e => (inB d e).map (!·)) (fun d e => by unfold ninD; cases inB d e <;> rfl) fun Z H x y d e b hx hy h Q q => by
  obtain ⟨b', h', rfl⟩ := Option.map_eq_some_iff.mp h
  exact (inB_sound G hx hy h').2 Q q
theorem does_is : Does2 Γ isD rIsA := by
  intro σ H Z env φ S x y d e p hx hy hg Q P
  unfold isD at hg
  split at hg
  · cases hg
    exact .inl ⟨hy.nonI, by rw [isNB_eq hx]; exact Post.here P S (Ow.sh (.bl _))⟩
  · cases hg
    exact .inr ⟨_, _, hx.blI, hy.blI, Post.here P S (Ow.sh (.bl _))⟩
  · cases hg
theorem does_nis : Does2 Γ nisD rNisA := by
  intro σ H Z env φ S x y d e p hx hy hg Q P
  unfold nisD at hg
  split at hg
  · cases hg
    exact .inl ⟨hy.nonI, by rw [isNB_eq hx]; exact Post.here P S (Ow.sh (.bl _))⟩
  · cases hg
    exact .inr ⟨_, _, hx.blI, hy.blI, Post.here P S (Ow.sh (.bl _))⟩
  · cases hg
theorem does_cmp {f : Int → Int → Bool} : Does2 Γ (cmpD f) (rI0 fun i j => .bl (f i j)) := by
  intro σ H Z env φ S x y d e p hx hy hg Q P
  unfold cmpD at hg
  split at hg
  · cases hg
    rw [hx.intI, hy.intI]
    exact ⟨_, _, rfl, rfl, Post.here P S (Ow.sh (.bl _))⟩
  · cases hg

/-! ### comparisons as values, as tests -/
/-- the operator's rule: what it asks, what it tells -/
structure CmpR (Γ : Ct) (op : CmpOp) (g : D → D → Option (D × Nat)) where
  r : R2
  ok : OpR Γ.X (compareOp op) r
  does : Does2 Γ g r
def cEq (G : Good Γ) {k : Nat} (hr : Room k Γ.X.A) : CmpR Γ .Eq eqD := ⟨_, op_eqD hr.units, does_eq G⟩
def cNe (G : Good Γ) {k : Nat} (hr : Room k Γ.X.A) : CmpR Γ .NotEq neD := ⟨_, op_neD hr.units, does_ne G⟩
def cIn (G : Good Γ) {k : Nat} (hr : Room k Γ.X.A) : CmpR Γ .In inD := ⟨_, op_in_seq.or ((op_inD (by have := hr.un; omega)).or ((op_din (by have := hr.un; omega)).or op_in_str)), does_in G⟩
def cNin (G : Good Γ) {k : Nat} (hr : Room k Γ.X.A) : CmpR Γ .NotIn ninD := ⟨_, op_notIn_seq.or ((op_notInD (by have := hr.un; omega)).or ((op_dnin (by have := hr.un; omega)).or op_notIn_str)), does_nin G⟩
def cIs : CmpR Γ .Is isD := ⟨_, op_isN.or op_is_bl, does_is⟩
def cNis : CmpR Γ .IsNot nisD := ⟨_, op_notN.or op_isnot_bl, does_nis⟩
def cLt : CmpR Γ .Lt (cmpD fun i j => decide (i < j)) := ⟨_, op_lt, does_cmp⟩
def cLe : CmpR Γ .LtE (cmpD fun i j => decide (i ≤ j)) := ⟨_, op_le, does_cmp⟩
def cGt : CmpR Γ .Gt (cmpD fun i j => decide (j < i)) := ⟨_, op_gt, does_cmp⟩
def cGe : CmpR Γ .GtE (cmpD fun i j => decide (j ≤ i)) := ⟨_, op_ge, does_cmp⟩
theorem ev_cmp {op : CmpOp} {g : D → D → Option (D × Nat)} (c : CmpR Γ op g) (ha : EvO Γ a fa) (hb : EvO Γ b fb) (hm : behindInMarks op b = false := by first | exact nomark _ | rfl) : EvE Γ (.Compare a [op] [b] pos) (op2 g fa fb) :=
  ev_op2 (ta := rIsA) (mk := fun x _ => x) ha hb (fun _ _ p q => pe_cmpR c.ok p q hm) c.does
/-- the truth of a result that is True or False -/
def tst (f : En → R (D × Nat)) : En → R Bool := fun env => (f env).bind fun p env1 => match p with
  | (.bl b, _) => .ok b env1
  | _ => .no
theorem Ev.test {f : En → R (D × Nat)} {t : TE} (h : Ev Γ (ER Γ.C) f t) : Ev Γ TR (tst f) (tTest t) := by
  intro σ H Z env φ S Q P
  refine h.bind S P fun p env1 v H1 Z1 φ1 A e1 S1 o dj ev P1 => ?_
  obtain ⟨d, k⟩ := p
  have P2 := P1.mono (Evo.refl.sub (F2 := Tot φ1) fun _ z => .inl z)
  cases d with
  | bl b =>
    have e : v = .bl b := (Rd1.sh (o.im_inv rfl)).blI
    exact ⟨b, e, Post.here P2 S1 rfl⟩
  | _ => exact P2.elim
end
end Pv
end

section
set_option Elab.async false
set_option linter.all false
set_option maxRecDepth 100000
set_option maxHeartbeats 4000000
/-! Pv5: tests, and, or, not, if .. else; argument lists, displays, subscripts, slices, unary minus. -/
namespace Pv
open PySem PySem.Spec PyProof.Rows L2
section
variable {Γ : Ct} {e a b c : Expr} {rest : List Expr} {fa fb fc : En → R Opd} {pos : Pos}

/-! ### tests -/
def EvW (Γ : Ct) (e : Expr) (f : En → R Bool) : Prop := ∃ t, PW Γ.X e t ∧ Ev Γ TR f t
theorem et_cmp {op : CmpOp} {g : D → D → Option (D × Nat)} (c : CmpR Γ op g) (ha : EvO Γ a fa) (hb : EvO Γ b fb) (hm : behindInMarks op b = false := by first | exact nomark _ | rfl) : EvT Γ (.Compare a [op] [b] pos) (tst (op2 g fa fb)) := by
  obtain ⟨ta, a1, a2⟩ := ha
  obtain ⟨tb, b1, b2⟩ := hb
  refine ⟨_, pt_cmpR c.ok a1 b1 hm, Ev.test fun σ H Z env φ S Q P => ?_⟩
  refine a2.bind S P fun oa env1 x H1 Z1 φ1 A e1 S1 q1 dj1 ev1 P1 => ?_
  refine b2.bind S1 (P1.mono (Evo.refl.sub fun _ z => .inl z)) fun ob env2 y H2 Z2 φ2 B e2 S2 q2 dj2 ev2 P2 => ?_
  have P3 := P2.mono (Evo.refl.sub (F2 := Tot φ2) fun _ z => .inl z)
  have q1' : OR Γ.C σ B Z2 H2 oa x := OR.go (S1.ext ev2) q1
  cases ga : oa.get env2 with
  | none => rw [ga] at P3; exact P3.elim
  | some d =>
    cases gb : ob.get env2 with
    | none => rw [ga, gb] at P3; exact P3.elim
    | some e =>
      rw [ga, gb] at P3
      cases gg : g d e with
      | none => simp only [gg] at P3; exact P3.elim
      | some p =>
        simp only [gg] at P3
        exact c.does σ H2 Z2 env2 φ2 S2 x y d e p (Opd.rd S2 q1' ga) (Opd.rd S2 q2 gb) gg Q P3
/-- an expression that is no test by its form -/
abbrev IsVal (X : Cx) (e : Expr) : Prop := ∀ whole, isTrue e X.env whole = (do let v ← whole; standAt e.pos; holding [v] (truthy v))
theorem et_val {f : En → R (D × Nat)} (h : EvE Γ e f) (he : IsVal Γ.X e := by intro _; rfl) : EvT Γ e (tst f) := by
  obtain ⟨t, h1, h2⟩ := h
  exact ⟨_, pt_val h1 he, h2.test⟩
theorem zip_isEmpty : ∀ {ks : List Key} {vs : List V}, ks.length = vs.length → (ks.zip vs).isEmpty = ks.isEmpty
  | [], _, _ => rfl
  | _ :: _, [], h => by simp at h
  | _ :: _, _ :: _, _ => rfl
/-- truth of a value of any kind -/
def truD : D → Option Bool
  | .non => some false
  | .bl b => some b
  | .int i => some (i != 0)
  | .str x => if x.length ≤ lim then some ((x.length : Int) != 0) else none
  | .tup xs => some (!xs.isEmpty)
  | .lst xs => some (!xs.isEmpty)
  | .dic ks _ => some (!ks.isEmpty)
  | _ => none
def tru (fa : En → R Opd) : En → R Bool := fun env => (fa env).bind fun o env1 => match o.get env1 with
  | some d => R.of (truD d) env1
  | none => .no
theorem et_tru (G : Good Γ) (ha : EvO Γ e fa) (he : IsVal Γ.X e := by intro _; rfl) : EvT Γ e (tru fa) := by
  obtain ⟨ta, a1, a2⟩ := ha
  refine ⟨_, pt_truth a1 he, fun σ H Z env φ S Q P => ?_⟩
  refine a2.bind S P fun oa env1 x H1 Z1 φ1 A e1 S1 q1 dj1 ev1 P1 => ?_
  have P3 := P1.mono (Evo.refl.sub (F2 := Tot φ1) fun _ z => .inl z)
  cases ga : oa.get env1 with
  | none => rw [ga] at P3; exact P3.elim
  | some d =>
    rw [ga] at P3
    have rd := Opd.rd S1 q1 ga
    cases gd : truD d with
    | none => simp only [gd] at P3; exact P3.elim
    | some k =>
      simp only [gd] at P3
      refine ⟨k, ?_, Post.here P3 S1 rfl⟩
      unfold truD at gd
      split at gd
      · cases gd; rw [rd.nonI]; rfl
      · cases gd; rw [rd.blI]; rfl
      · cases gd; rw [rd.intI]; rfl
      · split at gd
        · rename_i hz
          cases gd; rw [rd.strI]; exact ⟨lim_le hz, rfl⟩
        · cases gd
      · cases gd
        obtain ⟨p, vs, rfl, hp, r⟩ := rd.tupI
        rw [G.hK] at hp
        refine .inr (.inl ⟨vs, hp, ?_⟩)
        cases r <;> rfl
      · cases gd
        obtain ⟨p, vs, rfl, hp, r⟩ := rd.lstI
        refine .inl ⟨vs, SqL.of hp, ?_⟩
        cases r <;> rfl
      · cases gd
        obtain ⟨p, vs, rfl, hp, hl, r⟩ := rd.dicI
        exact .inr (.inr ⟨_, hp, by rw [zip_isEmpty hl]⟩)
      · cases gd
def notT (f : En → R Bool) : En → R Bool := fun env => (f env).bind fun b env1 => .ok (!b) env1
def andT (f g : En → R Bool) : En → R Bool := fun env => (f env).bind fun b env1 => if b = true then g env1 else .ok false env1
def orT (f g : En → R Bool) : En → R Bool := fun env => (f env).bind fun b env1 => if b = true then .ok true env1 else g env1
variable {f g h : En → R Bool}
theorem et_not (ha : EvT Γ a f) : EvT Γ (.UnaryOp .Not a pos) (notT f) := by
  obtain ⟨t, h1, h2⟩ := ha
  refine ⟨_, pt_not h1, fun σ H Z env φ S Q P => ?_⟩
  refine h2.bind S P fun x env1 y H1 Z1 φ1 A e1 S1 q1 dj1 ev1 P1 => ?_
  cases (show x = y from q1)
  exact Post.here (P1.mono (Evo.refl.sub fun _ z => .inl z)) S1 rfl
theorem ew_and1 (ha : EvT Γ a f) : EvW Γ (.BoolOp .And [a] pos) f := by
  obtain ⟨t, h1, h2⟩ := ha
  exact ⟨_, pw_and1 h1, h2⟩
theorem ew_or1 (ha : EvT Γ a f) : EvW Γ (.BoolOp .Or [a] pos) f := by
  obtain ⟨t, h1, h2⟩ := ha
  exact ⟨_, pw_or1 h1, h2⟩
theorem ew_and (ha : EvT Γ a f) (hb : EvW Γ (.BoolOp .And (b :: rest) pos) g) : EvW Γ (.BoolOp .And (a :: b :: rest) pos) (andT f g) := by
  obtain ⟨t, h1, h2⟩ := ha
  obtain ⟨u, k1, k2⟩ := hb
  refine ⟨_, pw_and h1 k1, fun σ H Z env φ S Q P => ?_⟩
  refine h2.bind S P fun x env1 y H1 Z1 φ1 A e1 S1 q1 dj1 ev1 P1 => ?_
  cases (show x = y from q1)
  have P2 := P1.mono (Evo.refl.sub (F2 := Tot φ1) fun _ z => .inl z)
  cases x with
  | true => exact k2 σ H1 Z1 env1 φ1 S1 Q P2
  | false => exact Post.here P2 S1 rfl
theorem ew_or (ha : EvT Γ a f) (hb : EvW Γ (.BoolOp .Or (b :: rest) pos) g) : EvW Γ (.BoolOp .Or (a :: b :: rest) pos) (orT f g) := by
  obtain ⟨t, h1, h2⟩ := ha
  obtain ⟨u, k1, k2⟩ := hb
  refine ⟨_, pw_or h1 k1, fun σ H Z env φ S Q P => ?_⟩
  refine h2.bind S P fun x env1 y H1 Z1 φ1 A e1 S1 q1 dj1 ev1 P1 => ?_
  cases (show x = y from q1)
  have P2 := P1.mono (Evo.refl.sub (F2 := Tot φ1) fun _ z => .inl z)
  cases x with
  | true => exact Post.here P2 S1 rfl
  | false => exact k2 σ H1 Z1 env1 φ1 S1 Q P2
theorem EvW.t (h : EvW Γ e f) : EvT Γ e f := by
  obtain ⟨t, h1, h2⟩ := h
  exact ⟨t, h1.pt, h2⟩
/-! ### as values -/
def blV (f : En → R Bool) : En → R D := fun env => (f env).bind fun b env1 => .ok (.bl b) env1
/-- a value that is True or False -/
def vbl (f : En → R D) : En → R Bool := fun env => (f env).bind fun p env1 => match p with
  | .bl b => .ok b env1
  | _ => .no
theorem Ev.vtest {f : En → R D} {t : TE} (h : Ev Γ (VR Γ.C) f t) {σ : L2.St} {Z : Fp} {H : Hp} {env : En} {φ : Nat → Fp} (S : SttC Γ Z σ H env φ) {γ δ : Type} {rel : Rel γ δ} {g : Bool → En → R γ} {Q : δ → Hp → Prop} {Q1 : VK}
    (P : Post Γ σ Z H (Tot φ) rel ((vbl f env).bind g) Q)
    (k : ∀ b env1 H1 Z1 φ1, SttC Γ Z1 σ H1 env1 φ1 → Evo Z H (Tot φ) Z1 H1 (Tot φ1) → Post Γ σ Z1 H1 (Tot φ1) rel (g b env1) Q → Q1 (.bl b) H1) : t σ H Q1 := by
  have P' : Post Γ σ Z H (Tot φ) rel ((f env).bind fun p env1 => match p with
    | .bl b => g b env1
    | _ => .no) Q := by
    unfold vbl at P
    cases e : f env with
    | ok p env1 =>
      rw [e] at P
      cases p <;> exact P
    | ex x => rw [e] at P; exact P
    | no => rw [e] at P; exact P
  refine h.bind S P' fun p env1 v H1 Z1 φ1 A e1 S1 o dj ev P1 => ?_
  have P2 := P1.mono (Evo.refl.sub (F2 := Tot φ1) fun _ z => .inl z)
  cases p with
  | bl b =>
    have e : v = .bl b := (Rd1.sh (C := Γ.C) o).blI
    subst e
    exact k b env1 H1 Z1 φ1 S1 (ev.sub fun _ z => .inl z) P2
  | _ => exact P2.elim
def andV (f : En → R D) (g : En → R D) : En → R D := fun env => (vbl f env).bind fun b env1 => if b = true then g env1 else .ok (.bl false) env1
def orV (f : En → R D) (g : En → R D) : En → R D := fun env => (vbl f env).bind fun b env1 => if b = true then .ok (.bl true) env1 else g env1
variable {u v : En → R D}
theorem ev_one {op : BoolOp} (hb : EvV Γ b u) : EvV Γ (.BoolOp op [b] pos) u := by
  obtain ⟨t, h1, h2⟩ := hb
  exact ⟨t, pe_one h1, h2⟩
theorem ev_and (ha : EvV Γ a u) (hb : EvV Γ (.BoolOp .And (b :: rest) pos) v) : EvV Γ (.BoolOp .And (a :: b :: rest) pos) (andV u v) := by
  obtain ⟨t, h1, h2⟩ := ha
  obtain ⟨w, k1, k2⟩ := hb
  refine ⟨_, pe_and h1 k1, fun σ H Z env φ S Q P => ?_⟩
  refine h2.vtest S P fun x env1 H1 Z1 φ1 S1 ev P2 => ?_
  refine ⟨x, rfl, ?_⟩
  cases x with
  | true => exact k2 σ H1 Z1 env1 φ1 S1 Q P2
  | false => exact Post.here P2 S1 (.bl false)
theorem ev_or (ha : EvV Γ a u) (hb : EvV Γ (.BoolOp .Or (b :: rest) pos) v) : EvV Γ (.BoolOp .Or (a :: b :: rest) pos) (orV u v) := by
  obtain ⟨t, h1, h2⟩ := ha
  obtain ⟨w, k1, k2⟩ := hb
  refine ⟨_, pe_or h1 k1, fun σ H Z env φ S Q P => ?_⟩
  refine h2.vtest S P fun x env1 H1 Z1 φ1 S1 ev P2 => ?_
  refine ⟨x, rfl, ?_⟩
  cases x with
  | true => exact Post.here P2 S1 (.bl true)
  | false => exact k2 σ H1 Z1 env1 φ1 S1 Q P2
def notV (f : En → R D) : En → R D := fun env => (vbl f env).bind fun b env1 => .ok (.bl (!b)) env1
theorem ev_not (ha : EvV Γ a u) : EvV Γ (.UnaryOp .Not a pos) (notV u) := by
  obtain ⟨t, h1, h2⟩ := ha
  refine ⟨_, pe_not h1, fun σ H Z env φ S Q P => ?_⟩
  refine h2.vtest S P fun x env1 H1 Z1 φ1 S1 ev P2 => ?_
  exact ⟨x, rfl, Post.here P2 S1 (.bl _)⟩
def iteE {α : Type} (f : En → R Bool) (g h : En → R α) : En → R α := fun env => (f env).bind fun b env1 => if b = true then g env1 else h env1
theorem ev_ite {p q : En → R (D × Nat)} (hc : EvT Γ c f) (ha : EvE Γ a p) (hb : EvE Γ b q) : EvE Γ (.IfExp c a b pos) (iteE f p q) := by
  obtain ⟨t, h1, h2⟩ := hc
  obtain ⟨w, k1, k2⟩ := ha
  obtain ⟨z, l1, l2⟩ := hb
  refine ⟨_, pe_ifExp h1 k1 l1, fun σ H Z env φ S Q P => ?_⟩
  refine h2.bind S P fun x env1 y H1 Z1 φ1 A e1 S1 q1 dj1 ev1 P1 => ?_
  cases (show x = y from q1)
  have P2 := P1.mono (Evo.refl.sub (F2 := Tot φ1) fun _ z => .inl z)
  cases x with
  | true => exact k2 σ H1 Z1 env1 φ1 S1 Q P2
  | false => exact l2 σ H1 Z1 env1 φ1 S1 Q P2
/-- a op1 b op2 c -/
def opC (g g' : D → D → Option (D × Nat)) (fa fb fc : En → R Opd) : En → R (D × Nat) := fun env => (fa env).bind fun oa env1 => (fb env1).bind fun ob env2 =>
  match oa.get env2, ob.get env2 with
  | some x, some y => (match g x y with
    | some (.bl true, _) => (fc env2).bind fun oc env3 => (match ob.get env3, oc.get env3 with
      | some y, some z => R.of (g' y z) env3
      | _, _ => .no)
    | some (.bl false, _) => .ok (.bl false, 0) env2
    | _ => .no)
  | _, _ => .no
/-- a comparison that tells True or False -/
structure CmpB (Γ : Ct) (op : CmpOp) (g : D → D → Option (D × Nat)) extends CmpR Γ op g where
  bool : ∀ (σ : L2.St) (Z : Fp) (H : Hp) (x y : V) (d e : D) (b : Bool) (k : Nat), Rd1 Γ.C Z H x d → Rd1 Γ.C Z H y e → g d e = some (.bl b, k) → ∀ Q : VK, Q (.bl b) H → r x y H Q
theorem cmp_bool {C : RC} {Z : Fp} {H : Hp} {x y : V} {d e : D} {b : Bool} {k : Nat} {f : Int → Int → Bool} (hx : Rd1 C Z H x d) (hy : Rd1 C Z H y e) (h : cmpD f d e = some (.bl b, k)) {Q : VK} (q : Q (.bl b) H) : rI0 (fun i j => .bl (f i j)) x y H Q := by
  unfold cmpD at h
  split at h
  · cases h; rw [hx.intI, hy.intI]; exact ⟨_, _, rfl, rfl, q⟩
  · cases h
def bLt : CmpB Γ .Lt (cmpD fun i j => decide (i < j)) := ⟨cLt, fun _ _ _ _ _ d e b _ hx hy h Q q => cmp_bool hx hy h q⟩
def bLe : CmpB Γ .LtE (cmpD fun i j => decide (i ≤ j)) := ⟨cLe, fun _ _ _ _ _ d e b _ hx hy h Q q => cmp_bool hx hy h q⟩
def bGt : CmpB Γ .Gt (cmpD fun i j => decide (j < i)) := ⟨cGt, fun _ _ _ _ _ d e b _ hx hy h Q q => cmp_bool hx hy h q⟩
def bGe : CmpB Γ .GtE (cmpD fun i j => decide (j ≤ i)) := ⟨cGe, fun _ _ _ _ _ d e b _ hx hy h Q q => cmp_bool hx hy h q⟩
theorem eq_bool (G : Good Γ) {Z : Fp} {H : Hp} {x y : V} {d e : D} {b : Bool} {k : Nat} (hx : Rd1 Γ.C Z H x d) (hy : Rd1 Γ.C Z H y e) (h : eqD d e = some (.bl b, k)) {Q : VK} (q : Q (.bl b) H) : rEqD Γ.X.K x y H Q := by
  unfold eqD at h
  obtain ⟨b', h, e'⟩ := Option.map_eq_some_iff.mp h
  cases e'
  unfold eqB at h
  split at h
  · rename_i p q' e1 e2
    split at h
    · rename_i hs
      cases h
      rw [Bool.and_eq_true] at hs
      have d1 := hx.dp e1
      have d2 := hy.dp e2
      rw [G.hK] at d1 d2
      exact ⟨p, q', d1, d2, hs.1, hs.2, q⟩
    · cases h
  · cases h
def bEq (G : Good Γ) {k : Nat} (hr : Room k Γ.X.A) : CmpB Γ .Eq eqD := ⟨cEq G hr, fun _ _ _ _ _ d e b _ hx hy h Q q => eq_bool G hx hy h q⟩
theorem Ev.chain {op op' : CmpOp} {g g' : D → D → Option (D × Nat)} (k : CmpB Γ op g) (k' : CmpR Γ op' g') {ta tb tc : TE} (a2 : Ev Γ (OR Γ.C) fa ta) (b2 : Ev Γ (OR Γ.C) fb tb) (c2 : Ev Γ (OR Γ.C) fc tc) : Ev Γ (ER Γ.C) (opC g g' fa fb fc) (tChain k.r k'.r ta tb tc) := by
  intro σ H Z env φ S Q P
  refine a2.bind S P fun oa env1 x H1 Z1 φ1 A e1 S1 q1 dj1 ev1 P1 => ?_
  refine b2.bind S1 (P1.mono (Evo.refl.sub fun _ z => .inl z)) fun ob env2 y H2 Z2 φ2 B e2 S2 q2 dj2 ev2 P2 => ?_
  have P3 := P2.mono (Evo.refl.sub (F2 := Tot φ2) fun _ z => .inl z)
  have q1' : OR Γ.C σ B Z2 H2 oa x := OR.go (S1.ext ev2) q1
  cases ga : oa.get env2 with
  | none => rw [ga] at P3; exact P3.elim
  | some d =>
    cases gb : ob.get env2 with
    | none => rw [ga, gb] at P3; exact P3.elim
    | some e =>
      simp only [ga, gb] at P3
      have ra := Opd.rd S2 q1' ga
      have rb := Opd.rd S2 q2 gb
      cases gg : g d e with
      | none => rw [gg] at P3; exact P3.elim
      | some p =>
        obtain ⟨p, m⟩ := p
        rw [gg] at P3
        cases p with
        | bl w =>
          refine k.bool σ Z2 H2 x y d e w m ra rb gg _ ⟨w, rfl, ?_⟩
          cases w with
          | false => exact Post.here P3 S2 (Ow.sh (.bl false))
          | true =>
            rw [if_pos rfl]
            refine c2.bind S2 P3 fun oc env3 z H3 Z3 φ3 B3 e3 S3 q3 dj3 ev3 P4 => ?_
            have P5 := P4.mono (Evo.refl.sub (F2 := Tot φ3) fun _ z => .inl z)
            have q2' : OR Γ.C σ B3 Z3 H3 ob y := OR.go (S2.ext ev3) q2
            cases gb3 : ob.get env3 with
            | none => rw [gb3] at P5; exact P5.elim
            | some d3 =>
              cases gc3 : oc.get env3 with
              | none => rw [gb3, gc3] at P5; exact P5.elim
              | some f3 =>
                simp only [gb3, gc3] at P5
                cases g3 : g' d3 f3 with
                | none => rw [g3] at P5; exact P5.elim
                | some p3 =>
                  rw [g3] at P5
                  exact k'.does σ H3 Z3 env3 φ3 S3 y z d3 f3 p3 (Opd.rd S3 q2' gb3) (Opd.rd S3 q3 gc3) g3 Q P5
        | _ => exact P3.elim
theorem ev_chain {op op' : CmpOp} {g g' : D → D → Option (D × Nat)} (k : CmpB Γ op g) (k' : CmpR Γ op' g') (ha : EvO Γ a fa) (hb : EvO Γ b fb) (hc : EvO Γ c fc) (hm : lastMarks [op, op'] [b, c] = false := by with_unfolding_all rfl) : EvE Γ (.Compare a [op, op'] [b, c] pos) (opC g g' fa fb fc) := by
  obtain ⟨ta, a1, a2⟩ := ha
  obtain ⟨tb, b1, b2⟩ := hb
  obtain ⟨tc, c1, c2⟩ := hc
  exact ⟨_, pe_chain k.ok k'.ok a1 b1 c1 hm, Ev.chain k k' a2 b2 c2⟩
theorem et_chain {op op' : CmpOp} {g g' : D → D → Option (D × Nat)} (k : CmpB Γ op g) (k' : CmpR Γ op' g') (ha : EvO Γ a fa) (hb : EvO Γ b fb) (hc : EvO Γ c fc) (hm : lastMarks [op, op'] [b, c] = false := by with_unfolding_all rfl) : EvT Γ (.Compare a [op, op'] [b, c] pos) (tst (opC g g' fa fb fc)) := by
  obtain ⟨ta, a1, a2⟩ := ha
  obtain ⟨tb, b1, b2⟩ := hb
  obtain ⟨tc, c1, c2⟩ := hc
  exact ⟨_, pt_chain k.ok k'.ok a1 b1 c1 hm, (Ev.chain k k' a2 b2 c2).test⟩

/-! ### argument lists, displays -/
def aNil : En → R (List D) := fun env => .ok [] env
def aCons (u : En → R D) (r : En → R (List D)) : En → R (List D) := fun env => (u env).bind fun d env1 => (r env1).bind fun ds env2 => .ok (d :: ds) env2
theorem ea_nil : EvA Γ [] aNil := ⟨_, pa_nil, fun σ H Z env φ S Q P => Post.here P S .nil⟩
theorem ea_cons {es : List Expr} {r : En → R (List D)} (ha : EvV Γ e u) (hr : EvA Γ es r) (hs : starEach (e :: es) Γ.X.env = (false, eval e Γ.X.env) :: starEach es Γ.X.env := by rfl) : EvA Γ (e :: es) (aCons u r) := by
  obtain ⟨t, h1, h2⟩ := ha
  obtain ⟨w, k1, k2⟩ := hr
  refine ⟨_, pa_cons h1 k1 hs, fun σ H Z env φ S Q P => ?_⟩
  refine h2.bind S P fun d env1 x H1 Z1 φ1 A e1 S1 q1 dj1 ev1 P1 => ?_
  refine k2.bind S1 (P1.mono (Evo.refl.sub fun _ z => .inl z)) fun ds env2 xs H2 Z2 φ2 B e2 S2 q2 dj2 ev2 P2 => ?_
  exact Post.here (P2.mono (Evo.refl.sub fun _ z => .inl z)) S2 (.cons (Sh.ext (S1.ext ev2) _ _ q1) q2)
def tupE (r : En → R (List D)) : En → R D := fun env => (r env).bind fun ds env1 => if ds.length ≤ lim then .ok (.tup ds) env1 else .no
def lstE (r : En → R (List D)) : En → R (D × Nat) := fun env => (r env).bind fun ds env1 => if ds.length ≤ lim then .ok (.lst ds, 1) env1 else .no
theorem ev_tup {es : List Expr} {r : En → R (List D)} {k : Nat} (h : EvA Γ es r) : EvV Γ (.Tuple es k pos) (tupE r) := by
  obtain ⟨t, h1, h2⟩ := h
  refine ⟨_, pe_tup h1, fun σ H Z env φ S Q P => ?_⟩
  refine h2.bind S P fun ds env1 xs H1 Z1 φ1 A e1 S1 q1 dj1 ev1 P1 => ?_
  have P2 := P1.mono (Evo.refl.sub (F2 := Tot φ1) fun _ z => .inl z)
  have r : ShL Γ.C Z1 H1 xs ds := q1
  by_cases hz : ds.length ≤ lim
  · rw [if_pos hz] at P2
    refine ⟨by rw [r.length]; exact lim_le hz, fun p hp => ?_⟩
    exact Post.newT P2 S1 hp (.tup (SqT.of upd_same) (ShL.ext (Ext.new hp) _ _ r))
  · rw [if_neg hz] at P2; exact P2.elim
theorem ev_lst {es : List Expr} {r : En → R (List D)} (h : EvA Γ es r) : EvE Γ (.List es pos) (lstE r) := by
  obtain ⟨t, h1, h2⟩ := h
  refine ⟨_, pe_lst h1, fun σ H Z env φ S Q P => ?_⟩
  refine h2.bind S P fun ds env1 xs H1 Z1 φ1 A e1 S1 q1 dj1 ev1 P1 => ?_
  have P2 := P1.mono (Evo.refl.sub (F2 := Tot φ1) fun _ z => .inl z)
  have r : ShL Γ.C Z1 H1 xs ds := q1
  by_cases hz : ds.length ≤ lim
  · rw [if_pos hz] at P2
    refine ⟨by rw [r.length]; exact lim_le hz, fun p hp => ?_⟩
    exact Post.newL P2 S1 hp (Ow.lst1 upd_same (ShL.ext (Ext.new hp) _ _ r))
  · rw [if_neg hz] at P2; exact P2.elim
/-- {} (keys will be ints or texts) -/
def dicE : En → R (D × Nat) := fun env => .ok (.dic [] [], 1) env
theorem ev_dic : EvE Γ (.Dict [] [] pos) dicE :=
  ⟨_, pe_dnewK, fun σ H Z env φ S Q P p hp => Post.newL P S hp (Ow.dic1 (ks := []) (xs := []) upd_same rfl .nil)⟩
/-! ### unary minus -/
def op1 (g : D → Option (D × Nat)) (fa : En → R Opd) : En → R (D × Nat) := fun env => (fa env).bind fun oa env1 => match oa.get env1 with
  | some x => R.of (g x) env1
  | none => .no
def Does1 (Γ : Ct) (g : D → Option (D × Nat)) (r : V → Hp → VK → Prop) : Prop :=
  ∀ σ H Z env φ, SttC Γ Z σ H env φ → ∀ x d p, Rd1 Γ.C Z H x d → g d = some p → ∀ Q : VK, Post Γ σ Z H (Tot φ) (ER Γ.C σ) (.ok p env) Q → r x H Q
theorem Ev.op1 {g : D → Option (D × Nat)} {r : V → Hp → VK → Prop} {t : TE} (a2 : Ev Γ (OR Γ.C) fa t) (hr : Does1 Γ g r) : Ev Γ (ER Γ.C) (op1 g fa) (tUn r t) := by
  intro σ H Z env φ S Q P
  refine a2.bind S P fun oa env1 x H1 Z1 φ1 A e1 S1 q1 dj1 ev1 P1 => ?_
  have P3 := P1.mono (Evo.refl.sub (F2 := Tot φ1) fun _ z => .inl z)
  cases ga : oa.get env1 with
  | none => rw [ga] at P3; exact P3.elim
  | some d =>
    simp only [ga] at P3
    cases gg : g d with
    | none => rw [gg] at P3; exact P3.elim
    | some p =>
      rw [gg] at P3
      exact hr σ H1 Z1 env1 φ1 S1 x d p (Opd.rd S1 q1 ga) gg Q P3
def negD : D → Option (D × Nat)
  | .int i => some (.int (-i), 0)
  | _ => none
theorem ev_neg (ha : EvO Γ a fa) : EvE Γ (.UnaryOp .USub a pos) (op1 negD fa) := by
  obtain ⟨t, h1, h2⟩ := ha
  refine ⟨_, pe_un un_neg h1, h2.op1 fun σ H Z env φ S x d p hx hg Q P => ?_⟩
  unfold negD at hg
  split at hg
  · cases hg
    rw [hx.intI]
    exact ⟨_, rfl, Post.here P S (Ow.sh (.int _))⟩
  · cases hg

/-! ### subscripts -/
def keyV (ks : List Key) (vs : List D) (k : Key) : Option D := ((ks.zip vs).find? fun p => decide (p.1 = k)).map (·.2)
theorem keyV_val {C : RC} {Z : Fp} {H : Hp} : ∀ {ks : List Key} {xs : List V} {ds : List D} {k : Key} {d : D}, ShL C Z H xs ds → keyV ks ds k = some d → ∃ x, valV (ks.zip xs) k = some x ∧ Sh C Z H x d
  | [], _, _, _, _, _, h => by simp [keyV] at h
  | _ :: _, _, _, _, _, .nil, h => by simp [keyV] at h
  | j :: ks, _, _, k, d, .cons (v := x) (d := d') h1 r, h => by
    rw [List.zip_cons_cons]
    unfold keyV at h
    rw [List.zip_cons_cons, List.find?_cons] at h
    by_cases e : j = k
    · rw [valV_pos e]
      simp only [e, decide_true, Option.map_some, Option.some.injEq] at h
      exact ⟨x, rfl, h ▸ h1⟩
    · rw [valV_neg e]
      simp only [e, decide_false] at h
      exact keyV_val r h
def idxD : D → D → Option (D × Nat)
  | .tup xs, .int i => (atI xs i).map (·, 0)
  | .lst xs, .int i => (atI xs i).map (·, 0)
  | .scr ns, .int i => (atI ns i).map fun n => (.int n, 0)
  | .str z, .int i => if z.length ≤ lim then (atI z.cps.toList i).map fun c => (.str ⟨#[c]⟩, 0) else none
  | .dic ks vs, d => (keyD d).bind fun k => (keyV ks vs k).map (·, 0)
  | _, _ => none
theorem atI_sh {C : RC} {Z : Fp} {H : Hp} {xs : List V} {ds : List D} {i : Int} {d : D} (r : ShL C Z H xs ds) (h : atI ds i = some d) : ∃ x, atI xs i = some x ∧ Sh C Z H x d := by
  unfold atI at h ⊢
  rw [r.length]
  cases e : ixN ds.length i with
  | none => rw [e] at h; cases h
  | some j => rw [e] at h; exact r.get' h
abbrev rIxA (K : PySem.W.Frag) : R2 := fun x y H Q => rIx K x y H Q ∨ ∃ a v, x = .ref a ∧ DGet H a y (some v) ∧ Q v H
theorem ix_dict {X : Cx} (hu : X.A.units + 1 < cLine) : IxR X (fun x y H Q => ∃ a v, x = .ref a ∧ DGet H a y (some v) ∧ Q v H) := by
  intro value slice pins s σ H x y v u Q I rx ry h hs
  obtain ⟨a, z, rfl, g, q⟩ := h
  cases rx
  have hT := dict_typeIs I g
  unfold subscriptTail
  refine wpAny_bind ?_
  rw [getitemInPython_of_ne hT.not_modules]
  refine wpAny_bind (wpAny_specialOf hT PySem.F.slot_dict_getitem.lookup ?_)
  have fin : wpAny (model X.prog X.w) X.A (subscripted slice false (.ref a) u) (fun r s₃ => wpAny (model X.prog X.w) X.A (letTemporaryGo value (.ref a) r >>= fun _ => pure r) (EP X pins σ Q) X.xe s₃) X.xe s := by
    rw [hs]
    exact wpAny_operating (d_getItem hu I g ry fun w' s' I' r' => wpAny_bind (wpAny_letTemporaryGo (wpAny_pure ⟨z, H, I', r', q⟩)))
  first
    | exact wpAny_pure (wpAny_bind fin)
    | exact wpAny_bind (wpAny_pure (wpAny_bind fin))
    | exact wpAny_bind fin
end
end Pv
end

section
set_option Elab.async false
set_option linter.all false
set_option maxRecDepth 100000
set_option maxHeartbeats 4000000
/-! Pv6: subscripts, slices, calls of built-ins. -/
namespace Pv
open PySem PySem.Spec PyProof.Rows L2

theorem CallR.or {X : Cx} {f : Value} {r r' : List V → Hp → VK → Prop} (h : CallR X f r) (h' : CallR X f r') : CallR X f (fun xs H Q => r xs H Q ∨ r' xs H Q) := by
  intro pins s σ H xs us Q I rx q
  rcases q with q | q
  · exact h pins s σ H xs us Q I rx q
  · exact h' pins s σ H xs us Q I rx q
section
variable {Γ : Ct} {e a b c : Expr} {fa fb fc : En → R Opd} {pos p q : Pos} {x : Str}
theorem does_idx (G : Good Γ) : Does2 Γ idxD (rIxA Γ.X.K) := by
  intro σ H Z env φ S x y d e p hx hy hg Q P
  unfold idxD at hg
  split at hg
  · rename_i xs i
    obtain ⟨z, e1, rfl⟩ := Option.map_eq_some_iff.mp hg
    obtain ⟨a, us, rfl, ha, ra⟩ := hx.tupI
    obtain ⟨w, h1, h2⟩ := atI_sh ra e1
    rw [G.hK] at ha
    rw [hy.intI]
    exact .inl (.inr (.inl ⟨a, us, i, w, rfl, rfl, ha, h1, Post.here P S (Ow.sh h2)⟩))
  · rename_i xs i
    obtain ⟨z, e1, rfl⟩ := Option.map_eq_some_iff.mp hg
    obtain ⟨a, us, rfl, ha, ra⟩ := hx.lstI
    obtain ⟨w, h1, h2⟩ := atI_sh ra e1
    rw [hy.intI]
    exact .inl (.inl ⟨a, us, i, w, rfl, rfl, SqL.of ha, h1, Post.here P S (Ow.sh h2)⟩)
  · rename_i ns i
    obtain ⟨z, e1, rfl⟩ := Option.map_eq_some_iff.mp hg
    obtain ⟨a, rfl, ha⟩ := hx.scrI
    obtain ⟨w, h1, h2⟩ := atI_sh (C := Γ.C) (Z := Z) (H := H) (shl_ints (ns := ns)) (i := i) (d := .int z) (by
      unfold atI at e1 ⊢
      rw [List.length_map]
      cases q : ixN ns.length i with
      | none => rw [q] at e1; cases e1
      | some j =>
        rw [q] at e1
        have e1 : ns[j]? = some z := e1
        show (ns.map D.int)[j]? = _
        rw [List.getElem?_map, e1]; rfl)
    rw [G.hK] at ha
    rw [hy.intI]
    exact .inl (.inl ⟨a, _, i, w, rfl, rfl, ha, h1, Post.here P S (Ow.sh h2)⟩)
  · rename_i z i
    split at hg
    · rename_i hz
      obtain ⟨c, e1, rfl⟩ := Option.map_eq_some_iff.mp hg
      rw [hx.strI, hy.intI]
      exact .inl (.inr (.inr ⟨z, i, c, rfl, rfl, lim_le hz, e1, Post.here P S (Ow.sh (.str _))⟩))
    · cases hg
  · rename_i ks vs d
    obtain ⟨k, e1, e2⟩ := Option.bind_eq_some_iff.mp hg
    obtain ⟨z, e3, rfl⟩ := Option.map_eq_some_iff.mp e2
    obtain ⟨a, us, rfl, ha, hl, ra⟩ := hx.dicI
    obtain ⟨w, h1, h2⟩ := keyV_val ra e3
    have ey := keyD_eq e1 hy
    subst ey
    have g := DGet.k (k := k) ha
    rw [h1] at g
    exact .inr ⟨a, w, rfl, g, Post.here P S (Ow.sh h2)⟩
  · cases hg
theorem ev_idx (G : Good Γ) {k : Nat} (hr : Room k Γ.X.A) (ha : EvO Γ a fa) (hb : EvO Γ b fb) (hs : PlainIx b := by exact fun _ _ => rfl) : EvE Γ (.Subscript a b pos) (op2 idxD fa fb) :=
  ev_op2 (ta := rIsA) (mk := fun x _ => x) ha hb (fun _ _ p q => pe_ix (ix_seq.or (ix_dict (by have := hr.un; omega))) p q hs) (does_idx G)

/-! ### slices -/
def cutD {α : Type} (xs : List α) (lo hi : Option Int) : List α := (xs.drop (HT.sIx xs.length 0 lo)).take (HT.sIx xs.length xs.length hi - HT.sIx xs.length 0 lo)
theorem cut_sh {C : RC} {Z : Fp} {H : Hp} {us : List V} {ds : List D} (r : ShL C Z H us ds) (lo hi : Option Int) : ShL C Z H (cutV us lo hi) (cutD ds lo hi) := by
  unfold cutV cutD
  rw [r.length]
  exact (r.drop _).take _
def slD (d : D) (lo hi : Option Int) : Option (D × Nat) :=
  match d with
  | .tup xs => some (.tup (cutD xs lo hi), 0)
  | .lst xs => some (.lst (cutD xs lo hi), 1)
  | .scr ns => some (.lst ((cutD ns lo hi).map D.int), 1)
  | _ => none
/-- a part of a slice -/
def EvP (Γ : Ct) (e : Option Expr) (f : En → R (Option Int)) : Prop := ∃ t, PO Γ.X e t ∧ Ev Γ (fun _ _ _ _ (i : Option Int) (j : Option Int) => i = j) f t
def pNone : En → R (Option Int) := fun env => .ok none env
def pSome (f : En → R D) : En → R (Option Int) := fun env => (f env).bind fun d env1 => match d with
  | .int i => .ok (some i) env1
  | _ => .no
theorem ep_none : EvP Γ none pNone := ⟨_, po_none, fun σ H Z env φ S Q P => Post.here P S rfl⟩
theorem ep_some {f : En → R D} (h : EvV Γ e f) : EvP Γ (some e) (pSome f) := by
  obtain ⟨t, h1, h2⟩ := h
  refine ⟨_, po_some h1, fun σ H Z env φ S Q P => ?_⟩
  refine h2.bind S P fun d env1 v H1 Z1 φ1 A e1 S1 o dj ev P1 => ?_
  have P2 := P1.mono (Evo.refl.sub (F2 := Tot φ1) fun _ z => .inl z)
  cases d with
  | int i => exact ⟨i, (Rd1.sh (C := Γ.C) o).intI, Post.here P2 S1 rfl⟩
  | _ => exact P2.elim
def opS (fa : En → R Opd) (fl fu : En → R (Option Int)) : En → R (D × Nat) := fun env => (fa env).bind fun oa env1 => (fl env1).bind fun l env2 => (fu env2).bind fun u env3 =>
  match oa.get env3 with
  | some d => R.of (slD d l u) env3
  | none => .no
abbrev rSlAll (K : PySem.W.Frag) : V → Option Int → Option Int → Hp → VK → Prop := fun x lo hi H Q => rSlL K x lo hi H Q ∨ rSlA K x lo hi H Q
theorem ev_slice (G : Good Γ) {lo hi : Option Expr} {fl fu : En → R (Option Int)} (ha : EvO Γ a fa) (hl : EvP Γ lo fl) (hu : EvP Γ hi fu) : EvE Γ (.Subscript a (.Slice lo hi none q) pos) (opS fa fl fu) := by
  obtain ⟨ta, a1, a2⟩ := ha
  obtain ⟨tl, l1, l2⟩ := hl
  obtain ⟨tu, u1, u2⟩ := hu
  refine ⟨_, pe_slice (sl_list.or sl_tupA) a1 l1 u1, fun σ H Z env φ S Q P => ?_⟩
  refine a2.bind S P fun oa env1 x H1 Z1 φ1 A e1 S1 q1 dj1 ev1 P1 => ?_
  refine l2.bind S1 (P1.mono (Evo.refl.sub fun _ z => .inl z)) fun l env2 l' H2 Z2 φ2 B e2 S2 q2 dj2 ev2 P2 => ?_
  cases (show l = l' from q2)
  refine u2.bind S2 (P2.mono (Evo.refl.sub fun _ z => .inl z)) fun u env3 u' H3 Z3 φ3 B3 e3 S3 q3 dj3 ev3 P3 => ?_
  cases (show u = u' from q3)
  have P4 := P3.mono (Evo.refl.sub (F2 := Tot φ3) fun _ z => .inl z)
  have q1' : OR Γ.C σ B3 Z3 H3 oa x := OR.go (S2.ext ev3) (OR.go (B := B) (S1.ext ev2) q1)
  cases ga : oa.get env3 with
  | none => rw [ga] at P4; exact P4.elim
  | some d =>
    simp only [ga] at P4
    have rd := Opd.rd S3 q1' ga
    unfold slD at P4
    split at P4
    · rename_i xs
      obtain ⟨z, us, rfl, hz, r⟩ := rd.tupI
      have hz' := hz
      rw [G.hK] at hz'
      refine .inr ⟨z, us, rfl, hz', fun hw => ?_, fun hw p hp => ?_⟩
      · have e : cutD xs l u = xs := by
          unfold cutD
          rw [← r.length, hw.1, hw.2, List.drop_zero, Nat.sub_zero, r.length, List.take_length]
        rw [e] at P4
        exact Post.here P4 S3 (Ow.sh (.tup hz r))
      · exact Post.newT P4 S3 hp (Ow.sh (.tup (SqT.of upd_same) ((cut_sh r l u).ext (Ext.new hp))))
    · rename_i xs
      obtain ⟨z, us, rfl, hz, r⟩ := rd.lstI
      exact .inl ⟨z, us, rfl, SqL.of hz, fun p hp => Post.newL P4 S3 hp (Ow.lst1 upd_same ((cut_sh r l u).ext (Ext.new hp)))⟩
    · rename_i ns
      obtain ⟨z, rfl, hz⟩ := rd.scrI
      rw [G.hK] at hz
      refine .inl ⟨z, _, rfl, hz, fun p hp => ?_⟩
      have r : ShL Γ.C Z3 H3 (cutV (ns.map V.int) l u) ((cutD ns l u).map D.int) := by
        have e : cutV (ns.map V.int) l u = (cutD ns l u).map V.int := by
          unfold cutV cutD
          rw [List.length_map, List.map_take, List.map_drop]
        rw [e]
        exact shl_ints
      exact Post.newL P4 S3 hp (Ow.lst1 upd_same (r.ext (Ext.new hp)))
    · exact P4.elim

/-! ### calls of built-ins -/
theorem ev_b1 {id : String} {r : List V → Hp → VK → Prop} {g : D → Option (D × Nat)} (hc : CallR Γ.X (.builtin id) r) (hr : Does1 Γ g (fun v H Q => r [v] H Q)) (hg : Gl Γ.X x) (hm : Γ.X.mg x = none) (hv : bootBuiltins x = some (.builtin id)) (ha : EvO Γ a fa)
    (hn : x ≠ "__name__" := by decide) (hdb : (x == ("__debug__" : Str)) = false := by decide) (hs : starEach [a] Γ.X.env = [(false, eval a Γ.X.env)] := by rfl) : EvE Γ (.Call (.Name x p) [a] [] pos) (op1 g fa) := by
  obtain ⟨t, h1, h2⟩ := ha
  have pa : PA Γ.X [a] (tCons t tNil) := pa_cons h1 pa_nil hs
  exact ⟨_, pe_callB hc hg hm hv pa hn hdb hs rfl, h2.op1 hr⟩
theorem ev_t1 {T : String} {r : List V → Hp → VK → Prop} {g : D → Option (D × Nat)} (hc : CallR Γ.X (.type T) r) (hr : Does1 Γ g (fun v H Q => r [v] H Q)) (hg : Gl Γ.X x) (hm : Γ.X.mg x = none) (hv : bootBuiltins x = some (.type T)) (ha : EvO Γ a fa)
    (hn : x ≠ "__name__" := by decide) (hdb : (x == ("__debug__" : Str)) = false := by decide) (hs : starEach [a] Γ.X.env = [(false, eval a Γ.X.env)] := by rfl) : EvE Γ (.Call (.Name x p) [a] [] pos) (op1 g fa) := by
  obtain ⟨t, h1, h2⟩ := ha
  have pa : PA Γ.X [a] (tCons t tNil) := pa_cons h1 pa_nil hs
  exact ⟨_, pe_callTy hc hg hm hv pa hn hdb hs rfl, h2.op1 hr⟩
theorem ev_b2 {id : String} {r : List V → Hp → VK → Prop} {g : D → D → Option (D × Nat)} (hc : CallR Γ.X (.builtin id) r) (hr : Does2 Γ g (fun v w H Q => r [v, w] H Q)) (hg : Gl Γ.X x) (hm : Γ.X.mg x = none) (hv : bootBuiltins x = some (.builtin id)) (ha : EvO Γ a fa) (hb : EvO Γ b fb)
    (hn : x ≠ "__name__" := by decide) (hdb : (x == ("__debug__" : Str)) = false := by decide) (hs : starEach [a, b] Γ.X.env = [(false, eval a Γ.X.env), (false, eval b Γ.X.env)] := by rfl) (hs2 : starEach [b] Γ.X.env = [(false, eval b Γ.X.env)] := by rfl) : EvE Γ (.Call (.Name x p) [a, b] [] pos) (op2 g fa fb) := by
  refine ev_op2 (ta := rIsA) (mk := fun x _ => x) ha hb (fun ta tb h1 h2 => ?_) hr
  have pb : PA Γ.X [b] (tCons tb tNil) := pa_cons h2 pa_nil hs2
  have pa : PA Γ.X [a, b] (tCons ta (tCons tb tNil)) := pa_cons h1 pb (by rw [hs, hs2])
  exact pe_callB hc hg hm hv pa hn hdb (by rw [hs, hs2]) (by rw [hs2]; rfl)
theorem does1_here {g : D → Option (D × Nat)} {r : V → Hp → VK → Prop} (k : ∀ (Z : Fp) (H : Hp) (x : V) (d e : D), Rd1 Γ.C Z H x d → g d = some (e, 0) → ∀ Q : VK, (∀ v, Sh Γ.C Z H v e → Q v H) → r x H Q) (h0 : ∀ d p, g d = some p → p.2 = 0) : Does1 Γ g r := by
  intro σ H Z env φ S x d p hx hg Q P
  obtain ⟨e, n⟩ := p
  have en := h0 d _ hg
  simp only at en
  subst en
  exact k Z H x d e hx hg Q fun v hv => Post.here P S (Ow.sh hv)

def lenD : D → Option (D × Nat)
  | .tup xs => some (.int xs.length, 0)
  | .lst xs => some (.int xs.length, 0)
  | .scr ns => some (.int ns.length, 0)
  | .str z => if z.length ≤ lim then some (.int z.length, 0) else none
  | .dic ks _ => some (.int ks.length, 0)
  | _ => none
abbrev rLenA (K : PySem.W.Frag) : List V → Hp → VK → Prop := fun xs H Q => (∃ p ys, xs = [.ref p] ∧ (SqL K H p ys ∨ SqT K H p ys) ∧ Q (.int ys.length) H) ∨ (∃ z, xs = [.str z] ∧ z.length ≤ sizeLine ∧ Q (.int z.length) H) ∨ (∃ a kvs, xs = [V.ref a] ∧ H a = some (.dK kvs) ∧ Q (.int kvs.length) H)
theorem does_len (G : Good Γ) : Does1 Γ lenD (fun v H Q => rLenA Γ.X.K [v] H Q) := by
  intro σ H Z env φ S x d p hx hg Q P
  unfold lenD at hg
  split at hg
  · cases hg
    obtain ⟨a, us, rfl, ha, r⟩ := hx.tupI
    rw [G.hK] at ha
    exact .inl ⟨a, us, rfl, .inr ha, by rw [r.length]; exact Post.here P S (Ow.sh (.int _))⟩
  · cases hg
    obtain ⟨a, us, rfl, ha, r⟩ := hx.lstI
    exact .inl ⟨a, us, rfl, .inl (SqL.of ha), by rw [r.length]; exact Post.here P S (Ow.sh (.int _))⟩
  · cases hg
    obtain ⟨a, rfl, ha⟩ := hx.scrI
    rw [G.hK] at ha
    exact .inl ⟨a, _, rfl, .inl ha, by rw [List.length_map]; exact Post.here P S (Ow.sh (.int _))⟩
  · split at hg
    · rename_i hz
      cases hg
      rw [hx.strI]
      exact .inr (.inl ⟨_, rfl, lim_le hz, Post.here P S (Ow.sh (.int _))⟩)
    · cases hg
  · cases hg
    obtain ⟨a, us, rfl, ha, hl, r⟩ := hx.dicI
    refine .inr (.inr ⟨a, _, rfl, ha, ?_⟩)
    rw [List.length_zip, hl, Nat.min_self, ← hl]
    exact Post.here P S (Ow.sh (.int _))
  · cases hg
theorem ev_len (G : Good Γ) (hg : Gl Γ.X "len") (hm : Γ.X.mg "len" = none) (ha : EvO Γ a fa) (hs : starEach [a] Γ.X.env = [(false, eval a Γ.X.env)] := by rfl) : EvE Γ (.Call (.Name "len" p) [a] [] pos) (op1 lenD fa) :=
  ev_b1 (CallR.or call_len_seq (CallR.or call_len_str call_lenD)) (does_len G) hg hm PySem.boot_len ha (hs := hs)

def intD : D → Option (D × Nat)
  | .int i => some (.int i, 0)
  | .bl b => some (.int (if b then 1 else 0), 0)
  | _ => none
theorem ev_int1 (hg : Gl Γ.X "int") (hm : Γ.X.mg "int" = none) (ha : EvO Γ a fa) (hs : starEach [a] Γ.X.env = [(false, eval a Γ.X.env)] := by rfl) : EvE Γ (.Call (.Name "int" p) [a] [] pos) (op1 intD fa) :=
  ev_t1 call_int1 (fun σ H Z env φ S x d p hx hg Q P => by
    unfold intD at hg
    split at hg
    · cases hg
      rw [hx.intI]
      exact .inl ⟨_, rfl, Post.here P S (Ow.sh (.int _))⟩
    · cases hg
      rw [hx.blI]
      exact .inr ⟨_, rfl, Post.here P S (Ow.sh (.int _))⟩
    · cases hg) hg hm (by decide +kernel) ha (hs := hs)
def tupD : D → Option (D × Nat)
  | .tup xs => some (.tup xs, 0)
  | .lst xs => some (.tup xs, 0)
  | _ => none
theorem ev_tuple (G : Good Γ) (hg : Gl Γ.X "tuple") (hm : Γ.X.mg "tuple" = none) (ha : EvO Γ a fa) (hs : starEach [a] Γ.X.env = [(false, eval a Γ.X.env)] := by rfl) : EvE Γ (.Call (.Name "tuple" p) [a] [] pos) (op1 tupD fa) :=
  ev_t1 call_tuple_of (fun σ H Z env φ S x d p hx hg Q P => by
    unfold tupD at hg
    split at hg
    · cases hg
      obtain ⟨a, us, rfl, ha, r⟩ := hx.tupI
      have ha' := ha
      rw [G.hK] at ha'
      exact ⟨a, us, rfl, .inr ⟨ha', Post.here P S (Ow.sh (.tup ha r))⟩⟩
    · cases hg
      obtain ⟨a, us, rfl, ha, r⟩ := hx.lstI
      exact ⟨a, us, rfl, .inl ⟨SqL.of ha, fun l hl => Post.newT P S hl (Ow.sh (.tup (SqT.of upd_same) (r.ext (Ext.new hl))))⟩⟩
    · cases hg) hg hm (by decide +kernel) ha (hs := hs)
def lisD : D → Option (D × Nat)
  | .tup xs => some (.lst xs, 1)
  | .lst xs => some (.lst xs, 1)
  | .scr ns => some (.lst (ns.map D.int), 1)
  | _ => none
theorem ev_list (G : Good Γ) (hg : Gl Γ.X "list") (hm : Γ.X.mg "list" = none) (ha : EvO Γ a fa) (hs : starEach [a] Γ.X.env = [(false, eval a Γ.X.env)] := by rfl) : EvE Γ (.Call (.Name "list" p) [a] [] pos) (op1 lisD fa) :=
  ev_t1 call_list_of (fun σ H Z env φ S x d p hx hg Q P => by
    unfold lisD at hg
    split at hg
    · cases hg
      obtain ⟨a, us, rfl, ha, r⟩ := hx.tupI
      rw [G.hK] at ha
      exact ⟨a, us, rfl, .inr ha, fun l hl => Post.newL P S hl (Ow.lst1 upd_same (r.ext (Ext.new hl)))⟩
    · cases hg
      obtain ⟨a, us, rfl, ha, r⟩ := hx.lstI
      exact ⟨a, us, rfl, .inl (SqL.of ha), fun l hl => Post.newL P S hl (Ow.lst1 upd_same (r.ext (Ext.new hl)))⟩
    · cases hg
      obtain ⟨a, rfl, ha⟩ := hx.scrI
      rw [G.hK] at ha
      exact ⟨a, _, rfl, .inl ha, fun l hl => Post.newL P S hl (Ow.lst1 upd_same (shl_ints.ext (Ext.new hl)))⟩
    · cases hg) hg hm (by decide +kernel) ha (hs := hs)
def absD : D → Option (D × Nat)
  | .int i => some (.int (if i < 0 then -i else i), 0)
  | _ => none
theorem ev_abs (hg : Gl Γ.X "abs") (hm : Γ.X.mg "abs" = none) (ha : EvO Γ a fa) (hs : starEach [a] Γ.X.env = [(false, eval a Γ.X.env)] := by rfl) : EvE Γ (.Call (.Name "abs" p) [a] [] pos) (op1 absD fa) :=
  ev_b1 call_abs (fun σ H Z env φ S x d p hx hg Q P => by
    unfold absD at hg
    split at hg
    · cases hg
      rw [hx.intI]
      exact ⟨_, rfl, Post.here P S (Ow.sh (.int _))⟩
    · cases hg) hg hm (by decide +kernel) ha (hs := hs)
def sumD : D → Option (D × Nat)
  | .lst xs => (D.ints xs).map fun ns => (.int ns.sum, 0)
  | _ => none
theorem ev_sum (G : Good Γ) (hg : Gl Γ.X "sum") (hm : Γ.X.mg "sum" = none) (ha : EvO Γ a fa) (hs : starEach [a] Γ.X.env = [(false, eval a Γ.X.env)] := by rfl) : EvE Γ (.Call (.Name "sum" p) [a] [] pos) (op1 sumD fa) :=
  ev_b1 (cr_sum G.calm) (fun σ H Z env φ S x d p hx hg Q P => by
    unfold sumD at hg
    split at hg
    · obtain ⟨ns, e1, rfl⟩ := Option.map_eq_some_iff.mp hg
      obtain ⟨a, us, rfl, ha, r⟩ := hx.lstI
      rw [D.ints_eq e1] at r
      rw [r.ints] at ha
      exact ⟨a, ns, rfl, SqL.of ha, Post.here P S (Ow.sh (.int _))⟩
    · cases hg) hg hm (by decide +kernel) ha (hs := hs)
def D.bls : List D → Option (List Bool)
  | [] => some []
  | .bl i :: r => (D.bls r).map (i :: ·)
  | _ :: _ => none
theorem D.bls_eq : ∀ {ds : List D} {ns : List Bool}, D.bls ds = some ns → ds = ns.map D.bl
  | [], ns, h => by cases h; rfl
  | .bl i :: r, ns, h => by
    unfold D.bls at h
    obtain ⟨ms, e, rfl⟩ := Option.map_eq_some_iff.mp h
    rw [List.map_cons, ← D.bls_eq e]
  | .non :: _, _, h => by cases h
  | .int _ :: _, _, h => by cases h
  | .str _ :: _, _, h => by cases h
  | .fn _ :: _, _, h => by cases h
  | .tup _ :: _, _, h => by cases h
  | .lst _ :: _, _, h => by cases h
  | .dic _ _ :: _, _, h => by cases h
  | .scr _ :: _, _, h => by cases h
@[simp] theorem D.bls_map : ∀ ns : List Bool, D.bls (ns.map D.bl) = some ns
  | [] => rfl
  | n :: ns => by rw [List.map_cons, D.bls, D.bls_map ns]; rfl
def anyD : D → Option (D × Nat)
  | .lst xs => (D.bls xs).map fun ns => (.bl (ns.any id), 0)
  | _ => none
def allD : D → Option (D × Nat)
  | .lst xs => (D.bls xs).map fun ns => (.bl (ns.all id), 0)
  | _ => none
theorem ev_any (G : Good Γ) (hg : Gl Γ.X "any") (hm : Γ.X.mg "any" = none) (ha : EvO Γ a fa) (hs : starEach [a] Γ.X.env = [(false, eval a Γ.X.env)] := by rfl) : EvE Γ (.Call (.Name "any" p) [a] [] pos) (op1 anyD fa) :=
  ev_b1 (cr_any G.calm) (fun σ H Z env φ S x d p hx hg Q P => by
    unfold anyD at hg
    split at hg
    · obtain ⟨ns, e1, rfl⟩ := Option.map_eq_some_iff.mp hg
      obtain ⟨a, us, rfl, ha, r⟩ := hx.lstI
      rw [D.bls_eq e1] at r
      rw [r.bools] at ha
      exact ⟨a, ns, rfl, SqL.of ha, Post.here P S (Ow.sh (.bl _))⟩
    · cases hg) hg hm (by decide +kernel) ha (hs := hs)
theorem ev_all (G : Good Γ) (hg : Gl Γ.X "all") (hm : Γ.X.mg "all" = none) (ha : EvO Γ a fa) (hs : starEach [a] Γ.X.env = [(false, eval a Γ.X.env)] := by rfl) : EvE Γ (.Call (.Name "all" p) [a] [] pos) (op1 allD fa) :=
  ev_b1 (cr_all G.calm) (fun σ H Z env φ S x d p hx hg Q P => by
    unfold allD at hg
    split at hg
    · obtain ⟨ns, e1, rfl⟩ := Option.map_eq_some_iff.mp hg
      obtain ⟨a, us, rfl, ha, r⟩ := hx.lstI
      rw [D.bls_eq e1] at r
      rw [r.bools] at ha
      exact ⟨a, ns, rfl, SqL.of ha, Post.here P S (Ow.sh (.bl _))⟩
    · cases hg) hg hm (by decide +kernel) ha (hs := hs)

/-! max, min of two ints, of a list or tuple of ints -/
def max2D : D → D → Option (D × Nat)
  | .int i, .int j => some (.int (max i j), 0)
  | _, _ => none
def min2D : D → D → Option (D × Nat)
  | .int i, .int j => some (.int (min i j), 0)
  | _, _ => none
theorem ev_max2 (G : Good Γ) (hg : Gl Γ.X "max") (hm : Γ.X.mg "max" = none) (ha : EvO Γ a fa) (hb : EvO Γ b fb) (hs : starEach [a, b] Γ.X.env = [(false, eval a Γ.X.env), (false, eval b Γ.X.env)] := by rfl) (hs2 : starEach [b] Γ.X.env = [(false, eval b Γ.X.env)] := by rfl) : EvE Γ (.Call (.Name "max" p) [a, b] [] pos) (op2 max2D fa fb) :=
  ev_b2 (call_max2 G.calm) (fun σ H Z env φ S x y d e p hx hy hg Q P => by
    unfold max2D at hg
    split at hg
    · rename_i i j
      cases hg
      rw [hx.intI, hy.intI]
      refine ⟨_, _, rfl, ?_⟩
      have e : (if j > i then j else i) = max i j := by rw [Int.max_def]; split <;> split <;> omega
      rw [e]
      exact Post.here P S (Ow.sh (.int _))
    · cases hg) hg hm (by decide +kernel) ha hb (hs := hs) (hs2 := hs2)
theorem ev_min2 (G : Good Γ) (hg : Gl Γ.X "min") (hm : Γ.X.mg "min" = none) (ha : EvO Γ a fa) (hb : EvO Γ b fb) (hs : starEach [a, b] Γ.X.env = [(false, eval a Γ.X.env), (false, eval b Γ.X.env)] := by rfl) (hs2 : starEach [b] Γ.X.env = [(false, eval b Γ.X.env)] := by rfl) : EvE Γ (.Call (.Name "min" p) [a, b] [] pos) (op2 min2D fa fb) :=
  ev_b2 (call_min2 G.calm) (fun σ H Z env φ S x y d e p hx hy hg Q P => by
    unfold min2D at hg
    split at hg
    · rename_i i j
      cases hg
      rw [hx.intI, hy.intI]
      refine ⟨_, _, rfl, ?_⟩
      have e : (if j < i then j else i) = min i j := by rw [Int.min_def]; split <;> split <;> omega
      rw [e]
      exact Post.here P S (Ow.sh (.int _))
    · cases hg) hg hm (by decide +kernel) ha hb (hs := hs) (hs2 := hs2)
theorem foldl_max_le (ns : List Int) : ∀ n : Int, n ≤ ns.foldl max n ∧ ∀ y ∈ ns, y ≤ ns.foldl max n := by
  induction ns with
  | nil => intro n; exact ⟨Int.le_refl _, fun _ h => by cases h⟩
  | cons m ns ih =>
    intro n
    obtain ⟨h1, h2⟩ := ih (max n m)
    rw [List.foldl_cons]
    exact ⟨by omega, fun y hy => (List.mem_cons.mp hy).elim (fun e => by subst e; omega) (h2 y)⟩
theorem foldl_max_mem (ns : List Int) : ∀ n : Int, ns.foldl max n = n ∨ ns.foldl max n ∈ ns := by
  induction ns with
  | nil => intro n; exact .inl rfl
  | cons m ns ih =>
    intro n
    rw [List.foldl_cons]
    rcases ih (max n m) with h | h
    · rw [h]
      rcases Int.le_total n m with q | q
      · rw [Int.max_eq_right q]; exact .inr List.mem_cons_self
      · rw [Int.max_eq_left q]; exact .inl rfl
    · exact .inr (List.mem_cons_of_mem _ h)
theorem foldl_min_le (ns : List Int) : ∀ n : Int, ns.foldl min n ≤ n ∧ ∀ y ∈ ns, ns.foldl min n ≤ y := by
  induction ns with
  | nil => intro n; exact ⟨Int.le_refl _, fun _ h => by cases h⟩
  | cons m ns ih =>
    intro n
    obtain ⟨h1, h2⟩ := ih (min n m)
    rw [List.foldl_cons]
    exact ⟨by omega, fun y hy => (List.mem_cons.mp hy).elim (fun e => by subst e; omega) (h2 y)⟩
theorem foldl_min_mem (ns : List Int) : ∀ n : Int, ns.foldl min n = n ∨ ns.foldl min n ∈ ns := by
  induction ns with
  | nil => intro n; exact .inl rfl
  | cons m ns ih =>
    intro n
    rw [List.foldl_cons]
    rcases ih (min n m) with h | h
    · rw [h]
      rcases Int.le_total n m with q | q
      · rw [Int.min_eq_left q]; exact .inl rfl
      · rw [Int.min_eq_right q]; exact .inr List.mem_cons_self
    · exact .inr (List.mem_cons_of_mem _ h)
def maxI : List Int → Option Int
  | [] => none
  | n :: ns => some (ns.foldl max n)
def minI : List Int → Option Int
  | [] => none
  | n :: ns => some (ns.foldl min n)
def seqI : D → Option (List Int)
  | .lst xs => D.ints xs
  | .tup xs => D.ints xs
  | _ => none
def maxD1 (d : D) : Option (D × Nat) := (seqI d).bind fun ns => (maxI ns).map fun m => (.int m, 0)
def minD1 (d : D) : Option (D × Nat) := (seqI d).bind fun ns => (minI ns).map fun m => (.int m, 0)
def rMaxT (K : PySem.W.Frag) : List V → Hp → VK → Prop := fun vs H Q => ∃ (a : Addr) (n : Int) (ns : List Int), vs = [V.ref a] ∧ SqT K H a ((n :: ns).map V.int) ∧ Q (.int (ns.foldl max n)) H
def rMinT (K : PySem.W.Frag) : List V → Hp → VK → Prop := fun vs H Q => ∃ (a : Addr) (n : Int) (ns : List Int), vs = [V.ref a] ∧ SqT K H a ((n :: ns).map V.int) ∧ Q (.int (ns.foldl min n)) H
theorem readsAll_ints {h : Heap} : ∀ {ns : List Int} {us : List Value}, Vals (ns.map V.int) us → ∃ as, ReadsAll h us (ns.map PyData.int) as
  | [], _, r => by cases r; exact ⟨_, .nil⟩
  | n :: ns, _, r => by
    cases r with
    | cons r rr =>
      obtain ⟨t, rfl⟩ := r
      obtain ⟨as, q⟩ := readsAll_ints rr
      exact ⟨_, .cons (Reads.int n t) q⟩
theorem alikeAll_ints (ns : List Int) : PySem.W.AlikeAll (ns.map PyData.int) := by
  refine ⟨fun x hx y hy => ?_, fun x hx e => ?_⟩
  · obtain ⟨i, _, rfl⟩ := List.mem_map.mp hx
    obtain ⟨j, _, rfl⟩ := List.mem_map.mp hy
    rfl
  · obtain ⟨i, _, rfl⟩ := List.mem_map.mp hx
    cases e
theorem depthAll_ints (ns : List Int) : PyData.depthAll (ns.map PyData.int) = 0 := by
  induction ns with
  | nil => simp [PyData.depthAll]
  | cons n ns ih =>
    rw [List.map_cons, PyData.depthAll, ih]
    simp [PyData.depth]
theorem cr_maxT {X : Cx} {k : Nat} (hc : X.calm = true) (hr : Room k X.A) : CallR X (.builtin "max") (rMaxT X.K) := by
  intro pins s σ H vs us Q I r h
  obtain ⟨a, n, ns, rfl, hs, q⟩ := h
  obtain ⟨its, rv, hl, _⟩ := I.tuple hs
  rw [Vals.ref1 r]
  obtain ⟨as, ra⟩ := readsAll_ints (h := s.heap) rv
  refine PySem.W.max_tuple_data (I.ok.hd hc) (show s.heap.IsTuple a its.toArray from hl) (x := .int n) (xs := ns.map .int) (as := as) (by simpa using ra) (by simpa using alikeAll_ints (n :: ns)) (by
    have := hr.un
    have e := depthAll_ints (n :: ns)
    rw [List.map_cons] at e
    rw [e]; omega) fun i v h' tk bs hi hv hk => ?_
  rw [PySem.W.maxD_ints] at hv
  cases hv with
  | int _ t => exact ⟨.int _, H, I.kept hk, ⟨t, rfl⟩, q⟩
theorem cr_minT {X : Cx} {k : Nat} (hc : X.calm = true) (hr : Room k X.A) : CallR X (.builtin "min") (rMinT X.K) := by
  intro pins s σ H vs us Q I r h
  obtain ⟨a, n, ns, rfl, hs, q⟩ := h
  obtain ⟨its, rv, hl, _⟩ := I.tuple hs
  rw [Vals.ref1 r]
  obtain ⟨as, ra⟩ := readsAll_ints (h := s.heap) rv
  refine PySem.W.min_tuple_data (I.ok.hd hc) (show s.heap.IsTuple a its.toArray from hl) (x := .int n) (xs := ns.map .int) (as := as) (by simpa using ra) (by simpa using alikeAll_ints (n :: ns)) (by
    have := hr.un
    have e := depthAll_ints (n :: ns)
    rw [List.map_cons] at e
    rw [e]; omega) fun i v h' tk bs hi hv hk => ?_
  rw [PySem.W.minD_ints] at hv
  cases hv with
  | int _ t => exact ⟨.int _, H, I.kept hk, ⟨t, rfl⟩, q⟩
theorem ev_max1 (G : Good Γ) {k : Nat} (hr : Room k Γ.X.A) (hg : Gl Γ.X "max") (hm : Γ.X.mg "max" = none) (ha : EvO Γ a fa) (hs : starEach [a] Γ.X.env = [(false, eval a Γ.X.env)] := by rfl) : EvE Γ (.Call (.Name "max" p) [a] [] pos) (op1 maxD1 fa) :=
  ev_b1 (CallR.or (cr_max G.calm) (cr_maxT G.calm hr)) (fun σ H Z env φ S x d p hx hg Q P => by
    unfold maxD1 at hg
    obtain ⟨ns, e1, e2⟩ := Option.bind_eq_some_iff.mp hg
    obtain ⟨m, e3, rfl⟩ := Option.map_eq_some_iff.mp e2
    cases ns with
    | nil => cases e3
    | cons n ns =>
      cases e3
      unfold seqI at e1
      split at e1
      · obtain ⟨a, us, rfl, ha, r⟩ := hx.lstI
        rw [D.ints_eq e1] at r
        rw [r.ints] at ha
        refine .inl ⟨a, n :: ns, rfl, SqL.of ha, Nat.zero_lt_succ _, fun m hm h => ?_⟩
        have e : m = ns.foldl max n := by
          obtain ⟨h1, h2⟩ := foldl_max_le ns n
          have h3 : m ≤ ns.foldl max n := (List.mem_cons.mp hm).elim (fun e => by rw [e]; exact h1) (h2 m)
          have h4 : ns.foldl max n ≤ m := by
            rcases foldl_max_mem ns n with e | e
            · rw [e]; exact h n List.mem_cons_self
            · exact h _ (List.mem_cons_of_mem _ e)
          omega
        rw [e]
        exact Post.here P S (Ow.sh (.int _))
      · obtain ⟨a, us, rfl, ha, r⟩ := hx.tupI
        rw [D.ints_eq e1] at r
        rw [r.ints, G.hK] at ha
        exact .inr ⟨a, n, ns, rfl, ha, Post.here P S (Ow.sh (.int _))⟩
      · cases e1) hg hm (by decide +kernel) ha (hs := hs)
theorem ev_min1 (G : Good Γ) {k : Nat} (hr : Room k Γ.X.A) (hg : Gl Γ.X "min") (hm : Γ.X.mg "min" = none) (ha : EvO Γ a fa) (hs : starEach [a] Γ.X.env = [(false, eval a Γ.X.env)] := by rfl) : EvE Γ (.Call (.Name "min" p) [a] [] pos) (op1 minD1 fa) :=
  ev_b1 (CallR.or (cr_min G.calm) (cr_minT G.calm hr)) (fun σ H Z env φ S x d p hx hg Q P => by
    unfold minD1 at hg
    obtain ⟨ns, e1, e2⟩ := Option.bind_eq_some_iff.mp hg
    obtain ⟨m, e3, rfl⟩ := Option.map_eq_some_iff.mp e2
    cases ns with
    | nil => cases e3
    | cons n ns =>
      cases e3
      unfold seqI at e1
      split at e1
      · obtain ⟨a, us, rfl, ha, r⟩ := hx.lstI
        rw [D.ints_eq e1] at r
        rw [r.ints] at ha
        refine .inl ⟨a, n :: ns, rfl, SqL.of ha, Nat.zero_lt_succ _, fun m hm h => ?_⟩
        have e : m = ns.foldl min n := by
          obtain ⟨h1, h2⟩ := foldl_min_le ns n
          have h3 : ns.foldl min n ≤ m := (List.mem_cons.mp hm).elim (fun e => by rw [e]; exact h1) (h2 m)
          have h4 : m ≤ ns.foldl min n := by
            rcases foldl_min_mem ns n with e | e
            · rw [e]; exact h n List.mem_cons_self
            · exact h _ (List.mem_cons_of_mem _ e)
          omega
        rw [e]
        exact Post.here P S (Ow.sh (.int _))
      · obtain ⟨a, us, rfl, ha, r⟩ := hx.tupI
        rw [D.ints_eq e1] at r
        rw [r.ints, G.hK] at ha
        exact .inr ⟨a, n, ns, rfl, ha, Post.here P S (Ow.sh (.int _))⟩
      · cases e1) hg hm (by decide +kernel) ha (hs := hs)

/-! ### isinstance(e, T), T a built-in type -/
/-- the type's name of what data tells it -/
def tyD : D → Option String
  | .non => some "NoneType"
  | .bl _ => some "bool"
  | .int _ => some "int"
  | .str _ => some "str"
  | .tup _ => some "tuple"
  | .lst _ => some "list"
  | .dic _ _ => some "dict"
  | .scr _ => some "list"
  | .fn _ => none
def isiD (T : String) (d : D) : Option (D × Nat) := (tyD d).bind fun s => if s = T then some (.bl true, 0) else if s = "bool" ∧ T = "int" then some (.bl true, 0) else some (.bl false, 0)
end
theorem SqT.tyx {K : PySem.W.Frag} {H : Hp} {a : Addr} {xs : List V} (h : SqT K H a xs) : TyX K H (.ref a) (.type "tuple") := by
  rcases h with (h | ⟨o, h⟩) | ⟨o, its, n, h1, h2, _⟩
  · exact .base (.tup h)
  · exact .fTuple h
  · exact .kTuple h1 h2
theorem SqL.tyx {K : PySem.W.Frag} {H : Hp} {a : Addr} {xs : List V} (h : SqL K H a xs) : TyX K H (.ref a) (.type "list") := by
  rcases h with (h | ⟨o, h⟩) | ⟨o, its, n, h1, h2, _⟩
  · exact .base (.lst h)
  · exact .base (.frz h)
  · exact .kList h1 h2
theorem tyD_x {C : RC} {Z : Fp} {H : Hp} {v : V} {d : D} {T : String} (h : Rd1 C Z H v d) (e : tyD d = some T) : TyX C.K H v (.type T) := by
  cases h with
  | sh h =>
    cases h with
    | non => cases e; exact .base .non
    | bl b => cases e; exact .base (.bl b)
    | int i => cases e; exact .base (.int i)
    | str x => cases e; exact .base (.str x)
    | fn _ => cases e
    | tup s r => cases e; exact SqT.tyx s
    | lst s z r => cases e; exact .base (.lst s)
    | dic s z l r => cases e; exact .base (.dK s)
    | scr s => cases e; exact SqL.tyx s.sqL
  | lst s r => cases e; exact .base (.lst s)
  | dic s l r => cases e; exact .base (.dK s)
/-- the types that the programs ask for -/
def isiTs : List String := ["int", "bool", "str", "tuple", "list", "dict"]
theorem kit_all : ∀ s ∈ ["NoneType", "bool", "int", "str", "tuple", "list", "dict"], ∀ T ∈ isiTs, kitB s T = some (decide (s = T) || (decide (s = "bool") && decide (T = "int"))) := by decide +kernel
theorem tyD_mem {d : D} {s : String} (h : tyD d = some s) : s ∈ ["NoneType", "bool", "int", "str", "tuple", "list", "dict"] := by
  cases d <;> first | (cases h; decide) | cases h
section
variable {Γ : Ct} {e a b c : Expr} {fa fb fc : En → R Opd} {pos p q : Pos} {x : Str}
theorem ev_isi (G : Good Γ) {T : String} (hT : T ∈ isiTs) (hx : bootBuiltins x = some (.type T)) (hg : Gl Γ.X "isinstance") (hm : Γ.X.mg "isinstance" = none) (hg2 : Gl Γ.X x) (hm2 : Γ.X.mg x = none) (ha : EvO Γ a fa)
    (hn : x ≠ "__name__" := by decide) (hdb : (x == ("__debug__" : Str)) = false := by decide) (hs : starEach [a, .Name x q] Γ.X.env = [(false, eval a Γ.X.env), (false, eval (.Name x q) Γ.X.env)] := by rfl) : EvE Γ (.Call (.Name "isinstance" p) [a, .Name x q] [] pos) (op1 (isiD T) fa) := by
  obtain ⟨t, h1, h2⟩ := ha
  have pb : PA Γ.X [.Name x q] (tCons (tC (.ty T)) tNil) := pa_cons (pe_bltn hg2 hm2 hx rfl hn hdb) pa_nil
  have pa : PA Γ.X [a, .Name x q] (tCons t (tCons (tC (.ty T)) tNil)) := pa_cons h1 pb (by rw [hs]; rfl)
  refine ⟨_, pe_callB call_isi hg hm (by decide +kernel) pa (by decide) (by decide) (by rw [hs]; rfl) rfl, ?_⟩
  have h3 := Ev.op1 (g := isiD T) (r := fun v H Q => rIsi Γ.X.K [v, .ty T] H Q) h2 (fun σ H Z env φ S x d p hx hg Q P => by
    unfold isiD at hg
    obtain ⟨s, e1, e2⟩ := Option.bind_eq_some_iff.mp hg
    have k := kit_all s (tyD_mem e1) T hT
    have ty := tyD_x hx e1
    rw [G.hK] at ty
    refine ⟨x, .ty T, _, _, _, rfl, .ty T, ty, kit_ty k, ?_⟩
    have e3 : p = (.bl (decide (s = T) || (decide (s = "bool") && decide (T = "int"))), 0) := by
      by_cases h : s = T
      · rw [if_pos h] at e2
        cases e2
        simp [h]
      · rw [if_neg h] at e2
        by_cases h' : s = "bool" ∧ T = "int"
        · rw [if_pos h'] at e2
          cases e2
          simp [h'.1, h'.2]
        · rw [if_neg h'] at e2
          cases e2
          have : (decide (s = T) || (decide (s = "bool") && decide (T = "int"))) = false := by
            rw [Bool.or_eq_false_iff, Bool.and_eq_false_iff]
            refine ⟨decide_eq_false h, ?_⟩
            by_cases q : s = "bool"
            · exact .inr (decide_eq_false fun z => h' ⟨q, z⟩)
            · exact .inl (decide_eq_false q)
          rw [this]
    rw [e3] at P
    exact Post.here P S (Ow.sh (.bl _)))
  exact h3
end
end Pv
end

section
set_option Elab.async false
set_option linter.all false
set_option maxRecDepth 100000
set_option maxHeartbeats 4000000
/-! Pv7: statements, blocks, defs and their calls. -/
namespace Pv
open PySem PySem.Spec PyProof.Rows L2

/-! ### statements -/
inductive SR where
  | nx (e : En) | ret (p : D × Nat) (e : En) | bk (e : En) | ct (e : En) | ex (x : Xn) | no
def PostS (Γ : Ct) (Z : Fp) (H : Hp) (F : Fp) (r : SR) (Dn : Ends) : Prop :=
  match r with
  | .nx env' => ∀ σ' H' Z' φ', SttC Γ Z' σ' H' env' φ' → Evo Z H F Z' H' (Tot φ') → Dn.nx σ' H'
  | .bk env' => ∀ σ' H' Z' φ', SttC Γ Z' σ' H' env' φ' → Evo Z H F Z' H' (Tot φ') → Dn.bk σ' H'
  | .ct env' => ∀ σ' H' Z' φ', SttC Γ Z' σ' H' env' φ' → Evo Z H F Z' H' (Tot φ') → Dn.ct σ' H'
  | .ret p env' => ∀ v σ' H' Z' φ' A, SttC Γ Z' σ' H' env' φ' → Ow Γ.C Z' H' p.2 v p.1 A → (∀ x, A x → ¬ Tot φ' x ∧ ¬ Z' x) → Evo Z H F Z' H' (fun x => Tot φ' x ∨ A x) → Dn.rt v H'
  | .ex x => ∀ σ', (∀ i ∈ Γ.io, σ'[i]? = Γ.σ₀[i]?) → (Γ.io ≠ [] → σ'.length = Γ.σ₀.length) → PostX Γ σ' Z H F x
  | .no => False
def EvsT (Γ : Ct) (f : En → SR) (t : TS) : Prop := ∀ σ H Z env φ, SttC Γ Z σ H env φ → ∀ Dn : Ends, PostS Γ Z H (Tot φ) (f env) Dn → t Dn σ H
def EvS (Γ : Ct) (st : Stmt) (f : En → SR) : Prop := ∃ t, PS Γ.X st t ∧ EvsT Γ f t
def EvB (Γ : Ct) (st : List Stmt) (f : En → SR) : Prop := ∃ t, PSs Γ.X st t ∧ EvsT Γ f t
section
variable {Γ : Ct} {α β γ δ : Type} {σ : L2.St} {Z Z1 : Fp} {H H1 : Hp} {F F1 : Fp}
theorem PostS.mono {r : SR} {Dn : Ends} (h : PostS Γ Z H F r Dn) (e : Evo Z H F Z1 H1 F1) : PostS Γ Z1 H1 F1 r Dn := by
  cases r with
  | nx env => exact fun σ' H' Z' φ' S e2 => h σ' H' Z' φ' S (e.trans e2)
  | bk env => exact fun σ' H' Z' φ' S e2 => h σ' H' Z' φ' S (e.trans e2)
  | ct env => exact fun σ' H' Z' φ' S e2 => h σ' H' Z' φ' S (e.trans e2)
  | ret p env => exact fun v σ' H' Z' φ' A S o d e2 => h v σ' H' Z' φ' A S o d (e.trans e2)
  | ex x => exact fun σ' hσ hl => (h σ' hσ hl).mono e
  | no => exact h
/-- an expression's result, then a statement's -/
def R.then {α : Type} (r : R α) (g : α → En → SR) : SR :=
  match r with
  | .ok a e => g a e
  | .ex x => .ex x
  | .no => .no
@[simp] theorem R.then_ok (a : α) (e : En) (g : α → En → SR) : (R.ok a e).then g = g a e := rfl
@[simp] theorem R.then_ex (x : Xn) (g : α → En → SR) : (R.ex x : R α).then g = .ex x := rfl
@[simp] theorem R.then_no (g : α → En → SR) : (R.no : R α).then g = .no := rfl
theorem Ev.then {rel1 : L2.St → Rel α β} {f : En → R α} {t : L2.St → Hp → (β → Hp → Prop) → Prop} (h : Ev Γ rel1 f t) {env : En} {φ : Nat → Fp} (S : SttC Γ Z σ H env φ) {g : α → En → SR} {Dn : Ends} {Q1 : β → Hp → Prop}
    (P : PostS Γ Z H (Tot φ) ((f env).then g) Dn)
    (k : ∀ a env1 b H1 Z1 φ1 A, f env = .ok a env1 → SttC Γ Z1 σ H1 env1 φ1 → rel1 σ A Z1 H1 a b → (∀ x, A x → ¬ Tot φ1 x ∧ ¬ Z1 x) → Evo Z H (Tot φ) Z1 H1 (fun x => Tot φ1 x ∨ A x) →
      PostS Γ Z1 H1 (fun x => Tot φ1 x ∨ A x) (g a env1) Dn → Q1 b H1) : t σ H Q1 := by
  refine h σ H Z env φ S Q1 ?_
  cases e : f env with
  | ok a env1 =>
    rw [e] at P
    exact fun b H1 Z1 φ1 A S1 q d ev => k a env1 b H1 Z1 φ1 A e S1 q d ev (PostS.mono P ev)
  | ex x => rw [e] at P; exact P σ S.io S.l0
  | no => rw [e] at P; exact P
theorem Evo.dropA {φ : Nat → Fp} {A : Fp} : Evo Z H (fun x => Tot φ x ∨ A x) Z H (Tot φ) := Evo.refl.sub fun _ z => .inl z
theorem PostS.here {env : En} {φ : Nat → Fp} {Dn : Ends} (h : PostS Γ Z H (Tot φ) (.nx env) Dn) (S : SttC Γ Z σ H env φ) : Dn.nx σ H := h σ H Z φ S Evo.refl

/-! ### blocks -/
def passS : En → SR := fun env => .nx env
def seqS (f g : En → SR) : En → SR := fun env => match f env with
  | .nx e => g e
  | r => r
variable {st : Stmt} {rest body : List Stmt} {f g : En → SR} {e : Expr} {pos : Pos}
theorem eb_nil : EvB Γ [] passS := ⟨_, pss_nil, fun σ H Z env φ S Dn P => PostS.here P S⟩
theorem eb_one (h : EvS Γ st f) : EvB Γ [st] f := by
  obtain ⟨t, h1, h2⟩ := h
  exact ⟨t, pss_one h1, h2⟩
theorem eb_cons (h : EvS Γ st f) (k : EvB Γ rest g) : EvB Γ (st :: rest) (seqS f g) := by
  obtain ⟨t, h1, h2⟩ := h
  obtain ⟨u, k1, k2⟩ := k
  refine ⟨_, pss_cons h1 k1, fun σ H Z env φ S Dn P => ?_⟩
  refine h2 σ H Z env φ S _ ?_
  unfold seqS at P
  cases e : f env with
  | nx env1 =>
    rw [e] at P
    exact fun σ' H' Z' φ' S' ev => k2 σ' H' Z' env1 φ' S' Dn (PostS.mono P ev)
  | bk env1 => rw [e] at P; exact P
  | ct env1 => rw [e] at P; exact P
  | ret p env1 => rw [e] at P; exact P
  | ex x => rw [e] at P; exact P
  | no => rw [e] at P; exact P
theorem es_pass : EvS Γ (.Pass pos) passS := ⟨_, ps_pass, fun σ H Z env φ S Dn P => PostS.here P S⟩
theorem es_break : EvS Γ (.Break pos) (fun env => .bk env) := ⟨_, ps_break, fun σ H Z env φ S Dn P => P σ H Z φ S Evo.refl⟩
theorem es_continue : EvS Γ (.Continue pos) (fun env => .ct env) := ⟨_, ps_continue, fun σ H Z env φ S Dn P => P σ H Z φ S Evo.refl⟩
theorem es_doc {x j pos'} : EvS Γ (.Expr (.Constant (.str x) j pos) pos') passS := ⟨_, ps_doc, fun σ H Z env φ S Dn P => PostS.here P S⟩
/-- nothing is told of a statement -/
def noS : En → SR := fun _ => .no
theorem es_no : EvS Γ st noS := ⟨_, ps_never, fun _ _ _ _ _ _ _ P => P.elim⟩
theorem eb_no : EvB Γ rest noS := ⟨_, pss_never, fun _ _ _ _ _ _ _ P => P.elim⟩
def exprS (fe : En → R (D × Nat)) : En → SR := fun env => (fe env).then fun _ env1 => .nx env1
theorem es_expr {fe : En → R (D × Nat)} (h : EvE Γ e fe) (hs : swapsWith e none pos.line Γ.X.env = pure false := by rfl) : EvS Γ (.Expr e pos) (exprS fe) := by
  obtain ⟨t, h1, h2⟩ := h
  refine ⟨_, ps_expr h1 hs, fun σ H Z env φ S Dn P => ?_⟩
  refine h2.then S P fun p env1 v H1 Z1 φ1 A e1 S1 o dj ev P1 => ?_
  exact PostS.here (P1.mono Evo.dropA) S1
def retS (fe : En → R (D × Nat)) : En → SR := fun env => (fe env).then fun p env1 => .ret p env1
theorem es_ret {fe : En → R (D × Nat)} (h : EvE Γ e fe) : EvS Γ (.Return (some e) pos) (retS fe) := by
  obtain ⟨t, h1, h2⟩ := h
  refine ⟨_, ps_ret h1, fun σ H Z env φ S Dn P => ?_⟩
  refine h2.then S P fun p env1 v H1 Z1 φ1 A e1 S1 o dj ev P1 => ?_
  exact P1 v σ H1 Z1 φ1 A S1 o dj Evo.refl
def retN : En → SR := fun env => .ret (.non, 0) env
theorem es_retN : EvS Γ (.Return none pos) retN :=
  ⟨_, ps_retN, fun σ H Z env φ S Dn P => P .non σ H Z φ (fun _ => False) S (Ow.sh .non) (fun _ z => z.elim) (Evo.refl.sub fun _ z => z.elim id fun z => z.elim)⟩
/-- return x, x a local that dies: its lists go along -/
def retM (i : Nat) : En → SR := fun env => match env[i]? with
  | some (some p) => .ret p (env.set i none)
  | _ => .no
theorem es_retM {i : Nat} {x : Str} {pos' : Pos} (hN : Γ.X.N[i]? = some x) (hv : Vis Γ.X.env.scope x) (hd : (x == ("__debug__" : Str)) = false := by decide) (hcd : (x == ("__classdict__" : Str)) = false := by decide) : EvS Γ (.Return (some (.Name x pos')) pos) (retM i) := by
  refine ⟨_, ps_ret (pe_var hN hv hd hcd), fun σ H Z env φ S Dn P => ?_⟩
  unfold retM at P
  split at P
  · rename_i p h
    obtain ⟨d, k⟩ := p
    obtain ⟨v, h1, o⟩ := S.slot i d k h
    refine ⟨v, h1, P v σ H Z _ (φ i) (S.drop i) o (fun x z => ⟨fun ⟨j, q, y⟩ => q (S.dj j i x y z), S.nz i x z⟩) ⟨fun _ _ q _ => q, fun _ z => z, fun _ z => .inl z, fun x z => .inl (z.elim (fun ⟨j, _, y⟩ => ⟨j, y⟩) fun z => ⟨i, z⟩)⟩⟩
  · exact P.elim
/-- x = e -/
def putE (env : En) (i : Nat) (p : D × Nat) : SR := if i < env.length then .nx (env.set i (some p)) else .no
def setS (i : Nat) (fe : En → R (D × Nat)) : En → SR := fun env => (fe env).then fun p env1 => putE env1 i p
theorem put_ok {i : Nat} {env : En} {φ : Nat → Fp} (hio : i ∉ Γ.io) (S : SttC Γ Z σ H env φ) {p : D × Nat} {v : V} {A : Fp} (o : Ow Γ.C Z H p.2 v p.1 A) (dj : ∀ x, A x → ¬ Tot φ x ∧ ¬ Z x) {Dn : Ends} (P : PostS Γ Z H (fun x => Tot φ x ∨ A x) (putE env i p) Dn) : Dn.nx (σ.set i (some v)) H := by
  unfold putE at P
  split at P
  · rename_i hi
    refine P _ H Z _ (S.put hi hio o (fun j a _ h z => (dj a z).1 ⟨j, h⟩) fun a z => (dj a z).2) ⟨fun _ _ q _ => q, fun _ z => z, fun _ z => .inl z, fun x ⟨j, z⟩ => .inl ?_⟩
    by_cases q : j = i
    · simp only [if_pos q] at z; exact .inr z
    · simp only [if_neg q] at z; exact .inl ⟨j, z⟩
  · exact P.elim
theorem es_set {i : Nat} {x : Str} {pos' : Pos} {fe : En → R (D × Nat)} (G : Good Γ) (hi : Γ.X.N[i]? = some x) (hx : Loc Γ.X.env.scope x) (hio : i ∉ Γ.io) (h : EvE Γ e fe) (hs : swapsWith e (some (.Name x pos')) pos.line Γ.X.env = pure false := by rfl)
    (hf : Γ.X.fn x = true ∨ Γ.X.env.scope.names.lookup x = some .local := by first | exact .inl rfl | exact .inr rfl | assumption) : EvS Γ (.Assign [.Name x pos'] e pos) (setS i fe) := by
  obtain ⟨t, h1, h2⟩ := h
  refine ⟨_, ps_set G.nd hi hx h1 hs hf, fun σ H Z env φ S Dn P => ?_⟩
  refine h2.then S P fun p env1 v H1 Z1 φ1 A e1 S1 o dj ev P1 => ?_
  exact put_ok hio S1 o dj P1
def iteS (c : En → R Bool) (f g : En → SR) : En → SR := fun env => (c env).then fun b env1 => if b = true then f env1 else g env1
theorem es_if {c : Expr} {fc : En → R Bool} {els : List Stmt} (hc : EvT Γ c fc) (ha : EvB Γ body f) (hb : EvB Γ els g) : EvS Γ (.If c body els pos) (iteS fc f g) := by
  obtain ⟨t, h1, h2⟩ := hc
  obtain ⟨u, k1, k2⟩ := ha
  obtain ⟨w, l1, l2⟩ := hb
  refine ⟨_, ps_if h1 k1 l1, fun σ H Z env φ S Dn P => ?_⟩
  refine h2.then S P fun b env1 b' H1 Z1 φ1 A e1 S1 q dj ev P1 => ?_
  cases (show b = b' from q)
  have P2 := P1.mono Evo.dropA
  cases b with
  | true => exact k2 σ H1 Z1 env1 φ1 S1 Dn P2
  | false => exact l2 σ H1 Z1 env1 φ1 S1 Dn P2

/-! ### several values, each with its own lists -/
inductive OwL (C : RC) (Z : Fp) (H : Hp) : List V → List (D × Nat) → Fp → Prop
  | nil {A : Fp} : (∀ a, ¬ A a) → OwL C Z H [] [] A
  | cons {v : V} {vs : List V} {p : D × Nat} {ps : List (D × Nat)} {A B U : Fp} : Ow C Z H p.2 v p.1 A → OwL C Z H vs ps B → (∀ a, A a → ¬ B a) → (∀ a, U a ↔ A a ∨ B a) → OwL C Z H (v :: vs) (p :: ps) U
abbrev LR (C : RC) : L2.St → Rel (List (D × Nat)) (List V) := fun _ A Z H ps vs => OwL C Z H vs ps A
def EvL (Γ : Ct) (es : List Expr) (f : En → R (List (D × Nat))) : Prop := ∃ t, PA Γ.X es t ∧ Ev Γ (LR Γ.C) f t
def lNil : En → R (List (D × Nat)) := fun env => .ok [] env
def lCons (u : En → R (D × Nat)) (r : En → R (List (D × Nat))) : En → R (List (D × Nat)) := fun env => (u env).bind fun d env1 => (r env1).bind fun ds env2 => .ok (d :: ds) env2
theorem el_nil : EvL Γ [] lNil := ⟨_, pa_nil, fun σ H Z env φ S Q P => Post.here P S (.nil fun _ z => z)⟩
theorem el_cons {es : List Expr} {u : En → R (D × Nat)} {r : En → R (List (D × Nat))} (ha : EvE Γ e u) (hr : EvL Γ es r) (hs : starEach (e :: es) Γ.X.env = (false, eval e Γ.X.env) :: starEach es Γ.X.env := by rfl) : EvL Γ (e :: es) (lCons u r) := by
  obtain ⟨t, h1, h2⟩ := ha
  obtain ⟨w, k1, k2⟩ := hr
  refine ⟨_, pa_cons h1 k1 hs, fun σ H Z env φ S Q P => ?_⟩
  refine h2.bind S P fun d env1 x H1 Z1 φ1 A e1 S1 q1 dj1 ev1 P1 => ?_
  -- the values in hand are kept apart: they are shared by no slot
  have P1' : Post Γ σ Z1 H1 (fun x => Tot φ1 x ∨ A x) (LR Γ.C σ) ((r env1).bind fun ds env2 => .ok (d :: ds) env2) Q := P1
  refine k2 σ H1 Z1 env1 φ1 S1 _ ?_
  cases e2 : r env1 with
  | ok ds env2 =>
    rw [e2] at P1'
    intro xs H2 Z2 φ2 B S2 q2 dj2 ev2
    have am := Ow.mut q1
    have aF : ∀ a, A a → ¬ Tot φ1 a := fun a z => (dj1 a z).1
    have aZ : ∀ a, A a → ¬ Z2 a := fun a z y => by
      rcases ev2.zn a y with y | y | y
      · exact (dj1 a z).2 y
      · exact aF a z y
      · have := am a z; rw [y] at this; exact this
    have aT : ∀ a, A a → ¬ (Tot φ2 a ∨ B a) := fun a z y => by
      rcases ev2.fn a y with y | y
      · exact aF a z y
      · have := am a z; rw [y] at this; exact this
    refine P1' (x :: xs) H2 Z2 φ2 (fun a => A a ∨ B a) S2 (.cons (Ow.ext (S1.ext ev2) q1 fun a o z h => ev2.keep a o h (aF a z)) q2 (fun a z y => aT a z (.inr y)) fun _ => Iff.rfl) (fun a z => z.elim (fun z => ⟨fun y => aT a z (.inl y), aZ a z⟩) (dj2 a)) ?_
    refine ⟨fun a o h n => ev2.keep a o h fun z => n (.inl z), ev2.zm, fun a z => (ev2.zn a z).imp id fun q => q.imp .inl id, fun a z => ?_⟩
    rcases z with z | z | z
    · exact (ev2.fn a (.inl z)).imp .inl id
    · exact .inl (.inr z)
    · exact (ev2.fn a (.inr z)).imp .inl id
  | ex x => rw [e2] at P1'; exact PostX.mono P1' (Evo.refl.sub fun _ z => .inl z)
  | no => rw [e2] at P1'; exact P1'
/-- a, b = x, y -/
def parS (i j : Nat) (fa : En → R (List (D × Nat))) : En → SR := fun env => (fa env).then fun ps env1 => match ps with
  | [p, q] => if i < env1.length ∧ j < env1.length then .nx ((env1.set i (some p)).set j (some q)) else .no
  | _ => .no
theorem es_par {i j : Nat} {x y : Str} {a b : Expr} {fa : En → R (List (D × Nat))} {px py pt : Pos} {kt k2 : Nat} {pt2 : Pos} (G : Good Γ) (hi : Γ.X.N[i]? = some x) (hj : Γ.X.N[j]? = some y) (hij : i ≠ j) (hio : i ∉ Γ.io) (hjo : j ∉ Γ.io)
    (hx : Γ.X.env.scope.names.lookup x = some .local) (hy : Γ.X.env.scope.names.lookup y = some .local) (ha : EvL Γ [a, b] fa)
    (hw : swappedStores [.Tuple [.Name x px, .Name y py] kt pt] (.Tuple [a, b] k2 pt2) Γ.X.env = pure (some [x, y]) := by rfl)
    (hs : swapsWithSole [.Tuple [.Name x px, .Name y py] kt pt] (.Tuple [a, b] k2 pt2) pos.line Γ.X.env = pure false := by rfl) :
    EvS Γ (.Assign [.Tuple [.Name x px, .Name y py] kt pt] (.Tuple [a, b] k2 pt2) pos) (parS i j fa) := by
  obtain ⟨t, h1, h2⟩ := ha
  refine ⟨_, ps_par G.calm G.nd hi hj hij hx hy h1 hw hs, fun σ H Z env φ S Dn P => ?_⟩
  refine h2.then S P fun ps env1 vs H1 Z1 φ1 A e1 S1 q1 dj1 ev1 P1 => ?_
  have q1 : OwL Γ.C Z1 H1 vs ps A := q1
  cases q1 with
  | nil _ => exact P1.elim
  | @cons v vs p ps A1 B U o r d1 u1 =>
    cases r with
    | nil _ => exact P1.elim
    | @cons w ws q qs A2 B2 U2 o2 r2 d2 u2 =>
      cases r2 with
      | cons _ _ _ _ => exact P1.elim
      | nil n2 =>
        refine ⟨v, w, rfl, ?_⟩
        simp only at P1
        split at P1
        · rename_i hl
          have S2 := S1.put hl.1 hio o (fun j a _ h z => (dj1 a ((u1 a).mpr (.inl z))).1 ⟨j, h⟩) fun a z => (dj1 a ((u1 a).mpr (.inl z))).2
          have S3 := S2.put (i := j) (by simpa using hl.2) hjo o2 (fun l a hlj h z => by
            by_cases q : l = i
            · simp only [if_pos q] at h
              exact d1 a h ((u2 a).mpr (.inl z))
            · simp only [if_neg q] at h
              exact (dj1 a ((u1 a).mpr (.inr ((u2 a).mpr (.inl z))))).1 ⟨l, h⟩) fun a z => (dj1 a ((u1 a).mpr (.inr ((u2 a).mpr (.inl z))))).2
          refine P1 _ H1 Z1 _ S3 ⟨fun _ _ q _ => q, fun _ z => z, fun _ z => .inl z, fun x ⟨l, z⟩ => .inl ?_⟩
          by_cases q : l = j
          · simp only [if_pos q] at z; exact .inr ((u1 x).mpr (.inr ((u2 x).mpr (.inl z))))
          · simp only [if_neg q] at z
            by_cases q2 : l = i
            · simp only [if_pos q2] at z; exact .inr ((u1 x).mpr (.inl z))
            · simp only [if_neg q2] at z; exact .inl ⟨l, z⟩
        · exact P1.elim
end

/-! ### defs -/
/-- what a call hands back -/
inductive FR where
  | ok (p : D × Nat) (fin : Sl) | ex (x : Xn) | no
/-- what the first argument's lists are behind the call -/
def FinOk (C : RC) (Z : Fp) (H : Hp) (v₀ : V) (s : Sl) (φ : Fp) : Prop :=
  match s with
  | some q => Ow C Z H q.2 v₀ q.1 φ
  | none => ∀ a, ¬ φ a
/-- a def's promise: F of the arguments' data. io: the first argument's lists may be changed, then what they are stands in fin -/
def spF (C : RC) (n : Nat) (io : Bool) (F : Sl → List D → FR) : Sp := fun vs H Q E => vs.length = n ∧
  match io, vs with
  | false, vs => ∃ ds Z, ShL C Z H vs ds ∧ (∀ a, Z a → H a ≠ none) ∧ (match F none ds with
    | .ok p _ => ∀ v H' Z' A, Ow C Z' H' p.2 v p.1 A → (∀ a, A a → ¬ Z' a) → (∀ a, Z' a → H' a ≠ none) → Evo Z H (fun _ => False) Z' H' A → Q v H'
    | .ex x => ∀ cls dx H' Z', Evo Z H (fun _ => False) Z' H' (fun _ => False) → (∀ a, Z' a → H' a ≠ none) → ExR C Z' H' x cls dx → E cls dx H'
    | .no => False)
  | true, [] => False
  | true, v₀ :: vs => ∃ p₀ ds Z A₀, Ow C Z H p₀.2 v₀ p₀.1 A₀ ∧ ShL C Z H vs ds ∧ (∀ a, A₀ a → ¬ Z a) ∧ (∀ a, Z a → H a ≠ none) ∧ (match F (some p₀) ds with
    | .ok p fin => ∀ v H' Z' A φ, Ow C Z' H' p.2 v p.1 A → FinOk C Z' H' v₀ fin φ → (∀ a, A a → ¬ φ a ∧ ¬ Z' a) → (∀ a, φ a → ¬ Z' a) → (∀ a, Z' a → H' a ≠ none) → Evo Z H A₀ Z' H' (fun a => φ a ∨ A a) → Q v H'
    | .ex x => ∀ cls dx H' Z', Evo Z H A₀ Z' H' (fun _ => False) → (∀ a, Z' a → H' a ≠ none) → ExR C Z' H' x cls dx → E cls dx H'
    | .no => False)
abbrev FnV (P : Program) (w : World) (K : PySem.W.Frag) (mg : Str → Option Value) (base : Heap) (C : RC) (k : Nat) (f : Addr) (fd : FuncData) (ps : List Str) (io : Bool) (F : Sl → List D → FR) : Prop :=
  FnOk P w K mg base (L2.CX P w) k f fd ps (spF C ps.length io F)
/-- the slots at the entry -/
def en0 (n : Nat) (a₀ : Sl) (ds : List D) : En := (match a₀ with
  | some p => [some p]
  | none => []) ++ ds.map (fun d => some (d, 0)) ++ List.replicate (n - ((match a₀ with
  | some _ => 1
  | none => 0) + ds.length)) none
/-- what a body makes of the entry -/
def fnF (n : Nat) (io : Bool) (f : En → SR) : Sl → List D → FR := fun a₀ ds =>
  match f (en0 n a₀ ds) with
  | .nx e => .ok (.non, 0) (if io then (e[0]?).getD none else none)
  | .ret p e => .ok p (if io then (e[0]?).getD none else none)
  | .ex x => .ex x
  | _ => .no
end Pv
end

section
set_option Elab.async false
set_option linter.all false
set_option maxRecDepth 100000
set_option maxHeartbeats 4000000
/-! Pv8: a def by its body; calls of defs. -/
namespace Pv
open PySem PySem.Spec PyProof.Rows L2

/-- the place where a body's proof stands -/
def bodyCt (P : Program) (w : World) (K : PySem.W.Frag) (mg : Str → Option Value) (base : Heap) (C : RC) (N : List Str) (qual : Str) (sc : Scope) (f : Addr) (fx : List Nat) (cdv : Value) (A : Around) (outer : List Env) (s : Shared) (H : Hp) (E : XK) (σ₀ : L2.St) : Ct :=
  ⟨cxOf (L2.CX P w) P w K mg base N qual sc f cdv A outer s H E, C, fun cls d _ H' => E cls d H', fx, σ₀⟩
theorem en0_none {n : Nat} {ds : List D} {i : Nat} {d : D} {k : Nat} (h : (en0 n none ds)[i]? = some (some (d, k))) : ds[i]? = some d ∧ k = 0 := by
  unfold en0 at h
  rw [List.nil_append] at h
  by_cases hi : i < ds.length
  · rw [List.getElem?_append_left (by simpa using hi), List.getElem?_map] at h
    cases e : ds[i]? with
    | none => rw [e] at h; cases h
    | some d' => rw [e] at h; cases h; exact ⟨rfl, rfl⟩
  · rw [List.getElem?_append_right (by simpa using Nat.le_of_not_lt hi), List.getElem?_replicate] at h
    exact absurd h (by split <;> simp)
theorem start_get {N : List Str} {vs : List V} {i : Nat} {v : V} (h : vs[i]? = some v) : (start N vs)[i]? = some (some v) := by
  unfold L2.start
  have hi := (List.getElem?_eq_some_iff.mp h).1
  rw [List.getElem?_append_left (by simpa using hi), List.getElem?_map, h]
  rfl
theorem en0_len {N : List Str} {vs : List V} {a₀ : Sl} {ds : List D} {m : Nat} (hv : vs.length = m) (hm : m ≤ N.length) (hd : (match a₀ with
    | some _ => 1
    | none => 0) + ds.length = m) : (start N vs).length = (en0 N.length a₀ ds).length := by
  unfold L2.start en0
  cases a₀ with
  | none => simp at hd ⊢; omega
  | some p => simp at hd ⊢; omega
section
variable {P : Program} {w : World} {K : PySem.W.Frag} {mg : Str → Option Value} {base : Heap} {C : RC}
theorem fnV_of {x qual : Str} {st : Stmt} {f : Addr} {fd : FuncData} {N ps : List Str} {k : Nat} {g : En → SR} (F : Fun K x qual st f fd) (S : FnScope N ps (defScope st)) (io : Bool) (fx : List Nat) (hC : C.K = K)
    (hio : io = true → 0 < ps.length ∧ 0 ∈ fx)
    (hb : ∀ cdv A outer s H E σ₀, Room k (A.deeper (envOfC qual (defScope st) s.heap.objs.size f cdv)) → Good (bodyCt P w K mg base C N qual (defScope st) f fx cdv A outer s H E σ₀) → EvB (bodyCt P w K mg base C N qual (defScope st) f fx cdv A outer s H E σ₀) (defBody st) g) :
    FnV P w K mg base C (k + 1) f fd ps io (fnF N.length io g) := by
  have hpn : ps.length ≤ N.length := by
    have := congrArg List.length S.pre
    rw [List.length_take] at this
    omega
  refine F.okX S (fun vs H Q E h => h.1) fun cdv A outer s H vs Q E hr h => ?_
  have G : Good (bodyCt P w K mg base C N qual (defScope st) f fx cdv A outer s H E (start N vs)) := ⟨hC, S.nd, rfl, takes_of rfl rfl rfl rfl⟩
  obtain ⟨t, h1, h2⟩ := hb cdv A outer s H E (start N vs) hr G
  refine ⟨t, h1, ?_⟩
  obtain ⟨hl, h⟩ := h
  cases io with
  | false =>
    obtain ⟨ds, Z, r, zh, q⟩ := h
    have St0 : SttC (bodyCt P w K mg base C N qual (defScope st) f fx cdv A outer s H E (start N vs)) Z (start N vs) H (en0 N.length none ds) (fun _ _ => False) :=
      { len := en0_len hl hpn (by simp only [Nat.zero_add]; rw [← r.length]; exact hl)
        slot := fun i d k hi => by
          obtain ⟨e1, rfl⟩ := en0_none hi
          obtain ⟨v, e2, e3⟩ := r.get' e1
          exact ⟨v, start_get e2, e3, fun _ z => z⟩
        off := fun _ _ _ z => z
        dj := fun _ _ _ z => z.elim
        nz := fun _ _ z => z.elim
        zh := zh
        io := fun _ _ => rfl
        l0 := fun _ => rfl }
    have T0 : ∀ a, ¬ Tot (fun (_ : Nat) (_ : Addr) => False) a := fun a ⟨_, z⟩ => z
    have ev0 : ∀ {Z' H' F'}, Evo Z H (Tot (fun (_ : Nat) (_ : Addr) => False)) Z' H' F' → ∀ {F2 : Fp}, (∀ a, F2 a → F' a) → Evo Z H (fun _ => False) Z' H' F2 := fun {Z' H' F'} e {F2} hs => (e.sub hs).mono0 T0
    refine h2 _ H Z _ _ St0 _ ?_
    unfold fnF at q
    cases e : g (en0 N.length none ds) with
    | nx env =>
      rw [e] at q
      exact fun σ' H' Z' φ' S' ev => q .non H' Z' (fun _ => False) (Ow.sh .non) (fun _ z => z.elim) S'.zh (ev0 ev fun _ z => z.elim)
    | ret p env =>
      rw [e] at q
      exact fun v σ' H' Z' φ' B S' o d ev => q v H' Z' B o (fun a z => (d a z).2) S'.zh (ev0 ev fun _ z => .inr z)
    | ex x =>
      rw [e] at q
      exact fun σ' _ _ cls dx H' Z' ev zh' xr => q cls dx H' Z' (ev0 ev fun _ z => z.elim) zh' xr
    | bk env => rw [e] at q; exact q.elim
    | ct env => rw [e] at q; exact q.elim
    | no => rw [e] at q; exact q.elim
  | true =>
    cases vs with
    | nil => exact h.elim
    | cons v₀ vs =>
      obtain ⟨p₀, ds, Z, A₀, o₀, r, nz₀, zh, q⟩ := h
      obtain ⟨hp0, hfx⟩ := hio rfl
      have get1 : ∀ i d k, (en0 N.length (some p₀) ds)[i + 1]? = some (some (d, k)) → ds[i]? = some d ∧ k = 0 := fun i d k hi => by
        have : (en0 N.length (some p₀) ds)[i + 1]? = (ds.map (fun d => some (d, 0)) ++ List.replicate (N.length - (1 + ds.length)) (none : Sl))[i]? := by
          unfold en0
          simp only [List.cons_append, List.nil_append, List.getElem?_cons_succ]
        rw [this] at hi
        by_cases hi2 : i < ds.length
        · rw [List.getElem?_append_left (by simpa using hi2), List.getElem?_map] at hi
          cases e : ds[i]? with
          | none => rw [e] at hi; cases hi
          | some d' => rw [e] at hi; cases hi; exact ⟨rfl, rfl⟩
        · rw [List.getElem?_append_right (by simpa using Nat.le_of_not_lt hi2), List.getElem?_replicate] at hi
          exact absurd hi (by split <;> simp)
      have St0 : SttC (bodyCt P w K mg base C N qual (defScope st) f fx cdv A outer s H E (start N (v₀ :: vs))) Z (start N (v₀ :: vs)) H (en0 N.length (some p₀) ds) (fun i a => i = 0 ∧ A₀ a) :=
        { len := en0_len hl hpn (by have := r.length; simp at hl ⊢; omega)
          slot := fun i d k hi => by
            cases i with
            | zero =>
              have e : p₀ = (d, k) := by
                have : (en0 N.length (some p₀) ds)[0]? = some (some p₀) := by unfold en0; simp
                rw [this] at hi
                exact Option.some.inj (Option.some.inj hi)
              subst e
              exact ⟨v₀, start_get rfl, o₀.congr fun a => ⟨fun z => ⟨rfl, z⟩, fun z => z.2⟩⟩
            | succ i =>
              obtain ⟨e1, rfl⟩ := get1 i d k hi
              obtain ⟨v, e2, e3⟩ := r.get' e1
              exact ⟨v, start_get (by simpa using e2), e3, fun _ z => nomatch z.1⟩
          off := fun i h a z => by
            obtain ⟨rfl, z⟩ := z
            exact h p₀ (by unfold en0; simp)
          dj := fun _ _ _ z y => z.1.trans y.1.symm
          nz := fun _ a z => nz₀ a z.2
          zh := zh
          io := fun _ _ => rfl
          l0 := fun _ => rfl }
      have T0 : ∀ a, Tot (fun (i : Nat) (a : Addr) => i = 0 ∧ A₀ a) a ↔ A₀ a := fun a => ⟨fun ⟨_, z⟩ => z.2, fun z => ⟨0, rfl, z⟩⟩
      have ev0 : ∀ {Z' H' F'}, Evo Z H (Tot (fun (i : Nat) (a : Addr) => i = 0 ∧ A₀ a)) Z' H' F' → ∀ {F2 : Fp}, (∀ a, F2 a → F' a) → Evo Z H A₀ Z' H' F2 := fun {Z' H' F'} e {F2} hs => (e.sub hs).more fun a z => (T0 a).mp z
      have fin : ∀ {σ' : L2.St} {H' : Hp} {Z' : Fp} {φ' : Nat → Fp} {env : En}, SttC (bodyCt P w K mg base C N qual (defScope st) f fx cdv A outer s H E (start N (v₀ :: vs))) Z' σ' H' env φ' →
          FinOk C Z' H' v₀ ((env[0]?).getD none) (φ' 0) := fun {σ' H' Z' φ' env} S' => by
        cases e : (env[0]?).getD none with
        | none =>
          refine S'.off 0 fun p hp => ?_
          rw [hp] at e; cases e
        | some q =>
          obtain ⟨d, k⟩ := q
          have e2 : env[0]? = some (some (d, k)) := by
            cases e3 : env[0]? with
            | none => rw [e3] at e; cases e
            | some y => rw [e3] at e; exact congrArg some e
          obtain ⟨v, hv, o⟩ := S'.slot 0 d k e2
          have hs : σ'[0]? = (start N (v₀ :: vs))[0]? := S'.io 0 hfx
          rw [hs, start_get (v := v₀) rfl] at hv
          cases hv
          exact o
      refine h2 _ H Z _ _ St0 _ ?_
      unfold fnF at q
      cases e : g (en0 N.length (some p₀) ds) with
      | nx env =>
        rw [e] at q
        exact fun σ' H' Z' φ' S' ev => q .non H' Z' (fun _ => False) (φ' 0) (Ow.sh .non) (fin S') (fun _ z => z.elim) (fun a z => S'.nz 0 a z) S'.zh (ev0 ev fun a z => z.elim (fun z => ⟨0, z⟩) fun z => z.elim)
      | ret p env =>
        rw [e] at q
        exact fun v σ' H' Z' φ' B S' o d ev => q v H' Z' B (φ' 0) o (fin S') (fun a z => ⟨fun y => (d a z).1 ⟨0, y⟩, (d a z).2⟩) (fun a z => S'.nz 0 a z) S'.zh (ev0 ev fun a z => z.imp (fun z => ⟨0, z⟩) id)
      | ex x =>
        rw [e] at q
        exact fun σ' _ _ cls dx H' Z' ev zh' xr => q cls dx H' Z' (ev0 ev fun _ z => z.elim) zh' xr
      | bk env => rw [e] at q; exact q.elim
      | ct env => rw [e] at q; exact q.elim
      | no => rw [e] at q; exact q.elim
end

/-! ### calls -/
section
variable {Γ : Ct} {k : Nat} {f : Addr} {fd : FuncData} {ps : List Str} {F : Sl → List D → FR} {x : Str} {p pos : Pos} {e : Expr} {es : List Expr}
abbrev FnC (Γ : Ct) (k : Nat) (f : Addr) (fd : FuncData) (ps : List Str) (io : Bool) (F : Sl → List D → FR) : Prop := FnV Γ.X.prog Γ.X.w Γ.X.K Γ.X.mg Γ.X.base Γ.C k f fd ps io F
def frR (r : FR) (env : En) : R (D × Nat) :=
  match r with
  | .ok p _ => .ok p env
  | .ex x => .ex x
  | .no => .no
def callF (n : Nat) (F : Sl → List D → FR) (r : En → R (List D)) : En → R (D × Nat) := fun env => (r env).bind fun ds env1 => if ds.length = n then frR (F none ds) env1 else .no
theorem call_core {σ : L2.St} {Z : Fp} {H : Hp} {env : En} {φ : Nat → Fp} (S : SttC Γ Z σ H env φ) {vs : List V} {ds : List D} {n : Nat} (hn : ∀ H Q E, spF Γ.C n false F vs H Q E → vs.length = n) (hl : vs.length = n) (r : ShL Γ.C Z H vs ds) {Q : VK}
    (P : Post Γ σ Z H (Tot φ) (ER Γ.C σ) (frR (F none ds) env) Q) : spF Γ.C n false F vs H Q (WE Γ.W σ) := by
  refine ⟨hl, ds, Z, r, S.zh, ?_⟩
  have go : ∀ {Z' H' A}, Evo Z H (fun _ => False) Z' H' A → (∀ a, Z' a → H' a ≠ none) → SttC Γ Z' σ H' env φ := fun {Z' H' A} ev zh => S.go (ev.ext (fun _ z => z.elim) fun _ z => z.elim) (fun a o _ h => ev.keep a o h fun z => z) (fun a z y => by
    rcases ev.zn a y with y | y | y
    · exact S.tnz a z y
    · exact y
    · have := S.mu a z; rw [y] at this; exact this) zh
  cases e : F none ds with
  | ok q fin =>
    rw [e] at P
    intro v H' Z' A o nz zh ev
    refine P v H' Z' φ A (go ev zh) o (fun a z => ⟨fun y => ?_, nz a z⟩) ⟨fun a u h _ => ev.keep a u h fun z => z, ev.zm, fun a z => (ev.zn a z).imp id fun q => q.imp (fun z => z.elim) id, fun a z => z.elim .inl fun z => .inr ((ev.fn a z).elim (fun z => z.elim) id)⟩
    rcases ev.fn a z with z | z
    · exact z
    · have := S.mu a y; rw [z] at this; exact this
  | ex x =>
    rw [e] at P
    exact fun cls dx H' Z' ev zh xr => P cls dx H' Z' (ev.more fun _ z => z.elim) zh xr
  | no => rw [e] at P; exact P
theorem ev_call (G : Good Γ) (hF : FnC Γ k f fd ps false F) (hr : Room k Γ.X.A) (hg : Gl Γ.X x) (hm : Γ.X.mg x = some (.ref f)) (hk : PySem.W.keepIn Γ.X.K (.ref f) = true) (hb : Binds Γ.X.K fd ps []) {r : En → R (List D)} (ha : EvA Γ (e :: es) r) 
    (hdb : (x == ("__debug__" : Str)) = false := by decide) (he : starEach (e :: es) Γ.X.env = (false, eval e Γ.X.env) :: starEach es Γ.X.env := by rfl) (hpl : (backTo pos (starEach es Γ.X.env)).any (·.1) = false := by rfl) :
    EvE Γ (.Call (.Name x p) (e :: es) [] pos) (callF ps.length F r) := by
  obtain ⟨t, h1, h2⟩ := ha
  refine ⟨_, pe_callS hF hr hg hm hk hb (passAt G.tk) h1 hdb he hpl, fun σ H Z env φ S Q P => ?_⟩
  refine h2.bind S P fun ds env1 vs H1 Z1 φ1 A e1 S1 q1 dj1 ev1 P1 => ?_
  have q1 : ShL Γ.C Z1 H1 vs ds := q1
  have P2 := P1.mono Evo.dropA
  by_cases hl : ds.length = ps.length
  · rw [if_pos hl] at P2
    exact call_core S1 (fun _ _ _ h => h.1) (by rw [q1.length]; exact hl) q1 P2
  · rw [if_neg hl] at P2; exact P2.elim

/-! a def that a slot holds -/
/-- which def stands for the number, at which place -/
structure FnT (Γ : Ct) (k : Nat) (T : Nat → Option (Nat × (Sl → List D → FR))) : Prop where
  at' : ∀ i n F, T i = some (n, F) → ∀ a, Γ.C.fa i = some a → ∃ fd ps, FnC Γ k a fd ps false F ∧ PySem.W.keepIn Γ.X.K (.ref a) = true ∧ Binds Γ.X.K fd ps [] ∧ ps.length = n
def callL (T : Nat → Option (Nat × (Sl → List D → FR))) (i : Nat) (r : En → R (List D)) : En → R (D × Nat) := fun env => match env[i]? with
  | some (some (.fn m, _)) => (match T m with
    | some (n, F) => callF n F r env
    | none => .no)
  | _ => .no
def tCallX (W : WX) (i : Nat) (S : Addr → Sp → Prop) (t : TA) : TE := fun σ H Q => ∃ f sp, σ[i]? = some (some (.ref f)) ∧ S f sp ∧ t σ H fun vs H1 => sp vs H1 Q (WE W σ)
theorem pe_callX {X : Cx} {W : WX} {i : Nat} {S : Addr → Sp → Prop} {t : TA} (tk : Takes X W) (hS : ∀ f sp, S f sp → ∃ fd ps, FnOk X.prog X.w X.K X.mg X.base (L2.CX X.prog X.w) k f fd ps sp ∧ PySem.W.keepIn X.K (.ref f) = true ∧ Binds X.K fd ps []) (hr : Room k X.A) (hN : X.N[i]? = some x) (hv : Vis X.env.scope x) (ha : PA X (e :: es) t)
    (hdb : (x == ("__debug__" : Str)) = false := by decide) (hcd : (x == ("__classdict__" : Str)) = false := by decide)
    (he : starEach (e :: es) X.env = (false, eval e X.env) :: starEach es X.env := by rfl) (hpl : (backTo pos (starEach es X.env)).any (·.1) = false := by rfl) : PE X (.Call (.Name x p) (e :: es) [] pos) (tCallX W i S t) := by
  refine ⟨fun pins s σ H Q I h => ?_⟩
  obtain ⟨f, sp, hs, hSf, ht⟩ := h
  obtain ⟨fd, ps, F, hk, hb⟩ := hS f sp hSf
  refine wpAny_Call_Name_kw (thn ((pe_var (pos := p) hN hv hdb hcd).run pins s σ H (fun v H1 => v = .ref f ∧ H1 = H) I ⟨.ref f, hs, rfl, rfl⟩) fun u s1 ⟨v, H1, I1, r1, q1⟩ => ?_)
  obtain ⟨rfl, rfl⟩ := q1
  cases r1
  refine PySem.W.callWith_K (h₀ := X.base) I.ok.mod.kin hk (thn (ha.run pos pins s1 σ _ _ I1 ht) fun us s2 ⟨vs, H2, I2, r, q⟩ => ⟨I2.kIn, ?_⟩) he hpl
  exact run_fnS (E := WE W) F hr hb (passAt tk σ) I2 r q
theorem ev_callL (G : Good Γ) {T : Nat → Option (Nat × (Sl → List D → FR))} {i : Nat} (hT : FnT Γ k T) (hr : Room k Γ.X.A) (hN : Γ.X.N[i]? = some x) (hv : Vis Γ.X.env.scope x) {r : En → R (List D)} (ha : EvA Γ (e :: es) r)
    (hdb : (x == ("__debug__" : Str)) = false := by decide) (hcd : (x == ("__classdict__" : Str)) = false := by decide) (he : starEach (e :: es) Γ.X.env = (false, eval e Γ.X.env) :: starEach es Γ.X.env := by rfl) (hpl : (backTo pos (starEach es Γ.X.env)).any (·.1) = false := by rfl) :
    EvE Γ (.Call (.Name x p) (e :: es) [] pos) (callL T i r) := by
  obtain ⟨t, h1, h2⟩ := ha
  refine ⟨_, pe_callX (k := k) (W := Γ.W) (i := i) (S := fun f sp => ∃ m n F, Γ.C.fa m = some f ∧ T m = some (n, F) ∧ sp = spF Γ.C n false F) G.tk (fun f sp ⟨m, n, F, e1, e2, e3⟩ => ?_) hr hN hv h1 hdb hcd he hpl, fun σ H Z env φ S Q P => ?_⟩
  · obtain ⟨fd, ps, q1, q2, q3, q4⟩ := hT.at' m n F e2 f e1
    subst e3 q4
    exact ⟨fd, ps, q1, q2, q3⟩
  · unfold callL at P
    split at P
    · rename_i m d0 hm
      obtain ⟨v, hv1, o⟩ := S.slot i _ _ hm
      have sh := o.im_inv rfl
      cases sh with
      | @fn _ f0 hf =>
        cases eT : T m with
        | none => rw [eT] at P; exact P.elim
        | some nF =>
          obtain ⟨n, F⟩ := nF
          rw [eT] at P
          refine ⟨f0, spF Γ.C n false F, hv1, ⟨m, n, F, hf, eT, rfl⟩, ?_⟩
          refine h2.bind S P fun ds env1 vs H1 Z1 φ1 A e1 S1 q1 dj1 ev1 P1 => ?_
          have q1 : ShL Γ.C Z1 H1 vs ds := q1
          have P2 := P1.mono Evo.dropA
          by_cases hl : ds.length = n
          · rw [if_pos hl] at P2
            exact call_core S1 (fun _ _ _ h => h.1) (by rw [q1.length]; exact hl) q1 P2
          · rw [if_neg hl] at P2; exact P2.elim
    · exact P.elim

/-! a def that changes its first argument's lists -/
def callI (n : Nat) (F : Sl → List D → FR) (i : Nat) (r : En → R (List D)) : En → R (D × Nat) := fun env => match env[i]? with
  | some (some _) => (r env).bind fun ds env1 => if ds.length + 1 = n then
    (match env1[i]? with
      | some (some q) => (match F (some q) ds with
        | .ok p fin => .ok p (env1.set i fin)
        | .ex x => .ex x
        | .no => .no)
      | _ => .no) else .no
  | _ => .no
theorem Stt.putSl {i : Nat} {C : RC} {io : List Nat} {σ₀ σ : L2.St} {Z : Fp} {H : Hp} {env : En} {φ : Nat → Fp} (S : Stt C io σ₀ Z σ H (env.set i none) φ) {v : V} (hi : i < env.length) (hv : σ[i]? = some (some v)) {s : Sl} {A : Fp} (o : FinOk C Z H v s A) (dj : ∀ j a, j ≠ i → φ j a → ¬ A a) (nz : ∀ a, A a → ¬ Z a) :
    Stt C io σ₀ Z σ H (env.set i s) (fun j => if j = i then A else φ j) := by
  cases s with
  | some q =>
    have S2 := S.reput (i := i) (by simpa using hi) hv o dj nz
    have e1 : (env.set i none).set i (some (q.1, q.2)) = env.set i (some q) := by rw [List.set_set]
    rw [e1] at S2
    exact S2
  | none =>
    have o : ∀ a, ¬ A a := o
    have h0 : ∀ a, ¬ φ i a := S.off i fun p h => by rw [List.getElem?_set_self hi] at h; cases h
    have e : (fun j => if j = i then A else φ j) = φ := by
      funext j
      by_cases q : j = i
      · rw [if_pos q]
        funext a
        exact propext ⟨fun z => (o a z).elim, fun z => (h0 a (q ▸ z)).elim⟩
      · rw [if_neg q]
    rw [e]
    exact S
theorem ev_callI (G : Good Γ) (hF : FnC Γ k f fd ps true F) (hr : Room k Γ.X.A) (hg : Gl Γ.X x) (hm : Γ.X.mg x = some (.ref f)) (hk : PySem.W.keepIn Γ.X.K (.ref f) = true) (hb : Binds Γ.X.K fd ps []) {i : Nat} {y : Str} {yp : Pos} (hN : Γ.X.N[i]? = some y) (hv : Vis Γ.X.env.scope y) {r : En → R (List D)} (ha : EvA Γ es r)
    (hdb : (x == ("__debug__" : Str)) = false := by decide) (hdy : (y == ("__debug__" : Str)) = false := by decide) (hcy : (y == ("__classdict__" : Str)) = false := by decide) (he : starEach (.Name y yp :: es) Γ.X.env = (false, eval (.Name y yp) Γ.X.env) :: starEach es Γ.X.env := by rfl) (hpl : (backTo pos (starEach es Γ.X.env)).any (·.1) = false := by rfl) :
    EvE Γ (.Call (.Name x p) (.Name y yp :: es) [] pos) (callI ps.length F i r) := by
  obtain ⟨t, h1, h2⟩ := ha
  refine ⟨_, pe_callS hF hr hg hm hk hb (passAt G.tk) (pa_cons (pe_var hN hv hdy hcy) h1 he) hdb he hpl, fun σ H Z env φ S Q P => ?_⟩
  show ∃ v, σ[i]? = some (some v) ∧ t σ H fun vs H1 => spF Γ.C ps.length true F (v :: vs) H1 Q (WE Γ.W σ)
  unfold callI at P
  split at P
  case h_2 => exact P.elim
  rename_i q₀ hq₀
  obtain ⟨v₀, hv₀, _⟩ := S.slot i q₀.1 q₀.2 hq₀
  refine ⟨v₀, hv₀, ?_⟩
  suffices key : ∀ v, σ[i]? = some (some v) → t σ H fun vs H1 => spF Γ.C ps.length true F (v :: vs) H1 Q (WE Γ.W σ) from key v₀ hv₀
  intro v hv0
  · refine h2.bind S P fun ds env1 vs H1 Z1 φ1 A e1 S1 q1 dj1 ev1 P1 => ?_
    have q1 : ShL Γ.C Z1 H1 vs ds := q1
    have P2 := P1.mono Evo.dropA
    by_cases hl : ds.length + 1 = ps.length
    · rw [if_pos hl] at P2
      split at P2
      · rename_i q hq
        obtain ⟨d0, k0⟩ := q
        obtain ⟨v', hv', o⟩ := S1.slot i d0 k0 hq
        rw [hv0] at hv'; cases hv'
        have hi : i < env1.length := (List.getElem?_eq_some_iff.mp hq).1
        refine ⟨by rw [List.length_cons, q1.length]; exact hl, (d0, k0), ds, Z1, φ1 i, o, q1, fun a z => S1.nz i a z, S1.zh, ?_⟩
        have Sd := S1.drop i
        have go : ∀ {Z' H' B}, Evo Z1 H1 (φ1 i) Z' H' B → (∀ a, Z' a → H' a ≠ none) → SttC Γ Z' σ H' (env1.set i none) (fun j a => j ≠ i ∧ φ1 j a) := fun {Z' H' B} ev zh =>
          Sd.go (ev.ext (fun a z => S1.mu a ⟨i, z⟩) fun a z => S1.nz i a z) (fun a u ⟨j, hj, z⟩ h => ev.keep a u h fun y => hj (S1.dj j i a z y)) (fun a ⟨j, hj, z⟩ y => by
            rcases ev.zn a y with y | y | y
            · exact S1.nz j a z y
            · exact hj (S1.dj j i a z y)
            · have := S1.mu a ⟨j, z⟩; rw [y] at this; exact this) zh
        cases eF : F (some (d0, k0)) ds with
        | ok p' fin =>
          rw [eF] at P2
          intro w H' Z' B φ₀ o' fo d1 d2 zh ev
          have S3 := go ev zh
          have fr : ∀ a, (φ₀ a ∨ B a) → ∀ j, j ≠ i → ¬ φ1 j a := fun a z j hj y => by
            rcases ev.fn a z with z | z
            · exact hj (S1.dj j i a y z)
            · have := S1.mu a ⟨j, y⟩; rw [z] at this; exact this
          have S4 := S3.putSl hi hv0 fo (fun j a hj z y => fr a (.inl y) j hj z.2) d2
          refine P2 w H' Z' _ B S4 o' (fun a z => ⟨fun ⟨j, y⟩ => ?_, (d1 a z).2⟩) ⟨fun a u h n => ev.keep a u h fun z => n ⟨i, z⟩, ev.zm, fun a z => (ev.zn a z).imp id fun q => q.imp (fun z => ⟨i, z⟩) id, fun a z => ?_⟩
          · by_cases q : j = i
            · simp only [if_pos q] at y; exact (d1 a z).1 y
            · simp only [if_neg q] at y; exact fr a (.inr z) j q y.2
          · rcases z with ⟨j, z⟩ | z
            · by_cases q : j = i
              · simp only [if_pos q] at z; exact (ev.fn a (.inl z)).imp (fun z => ⟨i, z⟩) id
              · simp only [if_neg q] at z; exact .inl ⟨j, z.2⟩
            · exact (ev.fn a (.inr z)).imp (fun z => ⟨i, z⟩) id
        | ex x =>
          rw [eF] at P2
          exact fun cls dx H' Z' ev zh xr => P2 cls dx H' Z' (ev.more fun a z => ⟨i, z⟩) zh xr
        | no => rw [eF] at P2; exact P2
      · exact P2.elim
    · rw [if_neg hl] at P2; exact P2.elim
end
end Pv
end

section
set_option Elab.async false
set_option linter.all false
set_option maxRecDepth 100000
set_option maxHeartbeats 4000000
/-! Pv9: targets, what is walked, for, while, list comprehensions. -/
namespace Pv
open PySem PySem.Spec PyProof.Rows L2

/-! ### targets -/
section
variable {Γ : Ct} {x : Str} {p pos : Pos} {e a b : Expr} {es : List Expr}
def EvG (Γ : Ct) (tg : Expr) (ws : List Nat) (g : D → En → Option En) : Prop := ∃ t, PG Γ.X tg t ∧ ∀ σ H Z env φ, SttC Γ Z σ H env φ → ∀ v d env', Sh Γ.C Z H v d → g d env = some env' → ∀ Q : L2.St → Hp → Prop,
  (∀ σ' φ', SttC Γ Z σ' H env' φ' → (∀ a, Tot φ' a → Tot φ a) → (σ'.length = σ.length ∧ ∀ i, i ∉ ws → σ'[i]? = σ[i]?) → Q σ' H) → t v σ H Q
def EvGs (Γ : Ct) (tgs : List Expr) (ws : List Nat) (g : List D → En → Option En) : Prop := ∃ t, PGs Γ.X tgs t ∧ ∀ σ H Z env φ, SttC Γ Z σ H env φ → ∀ vs ds env', ShL Γ.C Z H vs ds → g ds env = some env' → ∀ Q : L2.St → Hp → Prop,
  (∀ σ' φ', SttC Γ Z σ' H env' φ' → (∀ a, Tot φ' a → Tot φ a) → (σ'.length = σ.length ∧ ∀ i, i ∉ ws → σ'[i]? = σ[i]?) → Q σ' H) → t vs σ H Q
def nameG (i : Nat) : D → En → Option En := fun d env => if i < env.length then some (env.set i (some (d, 0))) else none
theorem eg_name {i : Nat} (G : Good Γ) (hi : Γ.X.N[i]? = some x) (hx : Loc Γ.X.env.scope x) (hio : i ∉ Γ.io) (hf : Γ.X.fn x = true ∨ Γ.X.env.scope.names.lookup x = some .local := by first | exact .inl rfl | exact .inr rfl | assumption) : EvG Γ (.Name x pos) [i] (nameG i) := by
  refine ⟨_, pg_name G.nd hi hx hf, fun σ H Z env φ S v d env' sh hg Q q => ?_⟩
  unfold nameG at hg
  split at hg
  · rename_i hl
    cases hg
    refine q _ _ (S.put hl hio (Ow.sh sh) (fun _ _ _ _ z => z) fun _ z => z.elim) (fun a ⟨j, z⟩ => ?_) ⟨List.length_set, fun j hj => ?_⟩
    · by_cases q : j = i
      · simp only [if_pos q] at z
      · simp only [if_neg q] at z; exact ⟨j, z⟩
    · rw [List.getElem?_set_ne (by simpa [eq_comm] using hj)]
  · cases hg
def nilG : List D → En → Option En := fun ds env => if ds.isEmpty then some env else none
def consG (g : D → En → Option En) (r : List D → En → Option En) : List D → En → Option En := fun ds env => match ds with
  | d :: ds => (g d env).bind fun env1 => r ds env1
  | [] => none
theorem egs_nil : EvGs Γ [] [] nilG := by
  refine ⟨_, pgs_nil, fun σ H Z env φ S vs ds env' sh hg Q q => ?_⟩
  unfold nilG at hg
  split at hg
  · rename_i h
    cases hg
    cases sh with
    | nil => exact ⟨rfl, q σ φ S (fun _ z => z) ⟨rfl, fun _ _ => rfl⟩⟩
    | cons _ _ => cases h
  · cases hg
theorem egs_cons {ws us : List Nat} {g : D → En → Option En} {r : List D → En → Option En} (h1 : EvG Γ e ws g) (h2 : EvGs Γ es us r) (hs : (assignEach (e :: es) Γ.X.env).map (·.2) = assign e Γ.X.env :: (assignEach es Γ.X.env).map (·.2) := by rfl) : EvGs Γ (e :: es) (ws ++ us) (consG g r) := by
  obtain ⟨t, a1, a2⟩ := h1
  obtain ⟨u, b1, b2⟩ := h2
  refine ⟨_, pgs_cons a1 b1 hs, fun σ H Z env φ S vs ds env' sh hg Q q => ?_⟩
  unfold consG at hg
  cases sh with
  | nil => cases hg
  | @cons v vs d ds h r0 =>
    obtain ⟨env1, e1, e2⟩ := Option.bind_eq_some_iff.mp hg
    refine ⟨v, vs, rfl, a2 σ H Z env φ S v d env1 h e1 _ fun σ1 φ1 S1 t1 k1 => ?_⟩
    refine b2 σ1 H Z env1 φ1 S1 vs ds env' r0 e2 _ fun σ2 φ2 S2 t2 k2 => ?_
    exact q σ2 φ2 S2 (fun a z => t1 a (t2 a z)) ⟨k2.1.trans k1.1, fun i hi => (k2.2 i fun z => hi (List.mem_append_right _ z)).trans (k1.2 i fun z => hi (List.mem_append_left _ z))⟩
def tupG (n : Nat) (r : List D → En → Option En) : D → En → Option En := fun d env => match d with
  | .tup ds => if ds.length = n then r ds env else none
  | _ => none
theorem eg_tup {k : Nat} {ws : List Nat} {n : Nat} {r : List D → En → Option En} (G : Good Γ) (h : EvGs Γ es ws r) (hn : (assignEach es Γ.X.env).length = n := by rfl) (hst : (assignEach es Γ.X.env).findIdx? (·.1) = none := by rfl) : EvG Γ (.Tuple es k pos) ws (tupG n r) := by
  obtain ⟨t, h1, h2⟩ := h
  refine ⟨_, pg_tup G.calm h1 hn hst, fun σ H Z env φ S v d env' sh hg Q q => ?_⟩
  unfold tupG at hg
  split at hg
  · split at hg
    · rename_i hl
      cases sh with
      | tup s r0 =>
        have s' := s
        rw [G.hK] at s'
        exact ⟨_, _, rfl, s', by rw [r0.length]; exact hl, h2 σ H Z env φ S _ _ env' r0 hg Q q⟩
    · cases hg
  · cases hg
/-- target = value, the target of any form -/
def asgS (g : D → En → Option En) (f : En → R D) : En → SR := fun env => (f env).then fun d env1 => match g d env1 with
  | some e => .nx e
  | none => .no
theorem es_asg {ws : List Nat} {g : D → En → Option En} {f : En → R D} (he : EvV Γ e f) (hg : EvG Γ a ws g) (hs : swapsWithSole [a] e pos.line Γ.X.env = pure false := by rfl) (hw : swappedStores [a] e Γ.X.env = pure none := by rfl)
    (h1 : (assignEach [a] Γ.X.env).map (·.2) = [assign a Γ.X.env] := by rfl) : EvS Γ (.Assign [a] e pos) (asgS g f) := by
  obtain ⟨t, a1, a2⟩ := he
  obtain ⟨u, b1, b2⟩ := hg
  refine ⟨_, ps_asg a1 b1 hs hw h1, fun σ H Z env φ S Dn P => ?_⟩
  refine a2.then S P fun d env1 v H1 Z1 φ1 A e1 S1 q dj ev P1 => ?_
  have P2 := P1.mono Evo.dropA
  cases hg : g d env1 with
  | none => rw [hg] at P2; exact P2.elim
  | some env2 =>
    rw [hg] at P2
    exact b2 σ H1 Z1 env1 φ1 S1 v d env2 q hg _ fun σ' φ' S' t' _ => P2 σ' H1 Z1 φ' S' (Evo.refl.sub t')

/-! ### what is walked -/
def Grow (H H' : Hp) : Prop := H' = H ∨ ∃ T o, H T = none ∧ H' = upd H T o
def ItD (C : RC) (J : It) (ds : List D) (Z₀ : Fp) (H₀ : Hp) : Prop := ∀ Z H, Ext Z₀ H₀ Z H → J.stop ds.length H ∧ ∀ i d, ds[i]? = some d → J.go i H ∧ ∀ x H', J.yld i H x H' → Sh C Z H' x d ∧ Grow H H'
def EvI (Γ : Ct) (tg iter : Expr) (f : En → R (List D)) : Prop := ∃ wi, PI Γ.X tg iter wi ∧ ∀ σ H Z env φ, SttC Γ Z σ H env φ → ∀ R : It → Hp → Prop, (match f env with
  | .ok ds env1 => ∀ J H1 Z1 φ1, SttC Γ Z1 σ H1 env1 φ1 → ItD Γ.C J ds Z1 H1 → Evo Z H (Tot φ) Z1 H1 (Tot φ1) → R J H1
  | .ex x => PostX Γ σ Z H (Tot φ) x
  | .no => False) → wi σ H R
def iSeq (K : PySem.W.Frag) (tl : TE) : TI := fun σ H R => tl σ H fun v H1 => (∃ a xs, v = .ref a ∧ SqL K H1 a xs ∧ R (Itl K a) H1) ∨ (∃ a xs, v = .ref a ∧ SqT K H1 a xs ∧ R (Itt K a) H1) ∨ ∃ x, v = .str x ∧ R (Its x) H1
theorem pi_seq {X : Cx} {tg l : Expr} {tl : TE} (hl : PE X l tl) : PI X tg l (iSeq X.K tl) := by
  refine ⟨fun pins s σ H R I h => ?_⟩
  refine thn (hl.run pins s σ H _ I h) fun v s1 ⟨x, H1, I1, r1, q1⟩ => ?_
  rcases q1 with ⟨a, xs, rfl, hq, q⟩ | ⟨a, xs, rfl, hq, q⟩ | ⟨y, rfl, q⟩
  · have hk : PI X tg l (iList X.K tl) := pi_list hl
    cases r1
    obtain ⟨its, rv, p, hz⟩ := I1.list hq
    refine wpAny_pyIter_list p.isList ?_
    refine ⟨s1.heap.objs.size, [s1.heap.objs.size], _, _, H1, rfl, I1.kept (t' := s1.toks) fun b o e => Heap.get?_push_of_some _ e, turn_list a _, ⟨_, Heap.get?_push_size _ rfl, rfl, rfl⟩, fun b hb => ?_, q⟩
    have e : b = s1.heap.objs.size := by simpa using hb
    subst e
    exact I1.fpOk (Nat.le_refl _) (I1.hok.fresh (Nat.le_refl _))
  · cases r1
    obtain ⟨its, rv, p, hz⟩ := I1.tuple hq
    refine wpAny_pyIter_tuple (show s1.heap.IsTuple a its.toArray from p) ?_
    refine ⟨s1.heap.objs.size, [s1.heap.objs.size], _, _, H1, rfl, I1.kept (t' := s1.toks) fun b o e => Heap.get?_push_of_some _ e, turn_tuple a _, ⟨_, Heap.get?_push_size _ rfl, rfl, rfl⟩, fun b hb => ?_, q⟩
    have e : b = s1.heap.objs.size := by simpa using hb
    subst e
    exact I1.fpOk (Nat.le_refl _) (I1.hok.fresh (Nat.le_refl _))
  · obtain ⟨t, rfl⟩ := r1
    cases ha : y.cps.all (· < 128)
    · exact wpAny_pyIter_wide ha (pi_one (tk := s1.toks) I1 _ (turn_str _ y t "str_iterator" (.inr rfl)) ⟨_, Heap.get?_push_size _ rfl, rfl, rfl⟩ q)
    · exact wpAny_pyIter_ascii ha (pi_one (tk := s1.toks) I1 _ (turn_str _ y t "str_ascii_iterator" (.inl rfl)) ⟨_, Heap.get?_push_size _ rfl, rfl, rfl⟩ q)
/-- the items of a value that is walked -/
def itsD : D → Option (List D)
  | .lst ds => some ds
  | .tup ds => some ds
  | .scr ns => some (ns.map .int)
  | .str x => some (x.cps.toList.map fun c => .str ⟨#[c]⟩)
  | _ => none
def seqI' (f : En → R D) : En → R (List D) := fun env => (f env).bind fun d env1 => R.of (itsD d) env1
theorem ei_seq {tg l : Expr} {f : En → R D} (G : Good Γ) (h : EvV Γ l f) : EvI Γ tg l (seqI' f) := by
  obtain ⟨t, h1, h2⟩ := h
  refine ⟨_, pi_seq h1, fun σ H Z env φ S R P => ?_⟩
  refine h2 σ H Z env φ S _ ?_
  unfold seqI' at P
  cases e : f env with
  | ex x => rw [e] at P; exact P
  | no => rw [e] at P; exact P
  | ok d env1 =>
    rw [e] at P
    intro v H1 Z1 φ1 A S1 sh dj ev
    have ev' := ev.sub (F2 := Tot φ1) fun _ z => .inl z
    have sh : Sh Γ.C Z1 H1 v d := sh
    cases sh with
    | @lst a xs ds hs z r =>
      refine .inl ⟨a, xs, rfl, SqL.of hs, P (Itl Γ.X.K a) H1 Z1 φ1 S1 (fun Z2 H2 x => ?_) ev'⟩
      have h2' := x.zk a _ z hs
      have r2 := r.ext x
      refine ⟨⟨xs, SqL.of h2', by rw [r.length]; exact Nat.le_refl _⟩, fun i d hd => ?_⟩
      obtain ⟨w, hw, hwd⟩ := r2.get' hd
      refine ⟨⟨xs, w, SqL.of h2', hw⟩, fun y H' hy => ?_⟩
      obtain ⟨rfl, hy⟩ := hy
      have := hy xs (SqL.of h2')
      rw [hw] at this; cases this
      exact ⟨hwd, .inl rfl⟩
    | @tup a xs ds hs r =>
      have hs' := hs
      rw [G.hK] at hs'
      refine .inr (.inl ⟨a, xs, rfl, hs', P (Itt Γ.X.K a) H1 Z1 φ1 S1 (fun Z2 H2 x => ?_) ev'⟩)
      have h2' : SqT Γ.X.K H2 a xs := by rw [← G.hK]; exact x.sqT hs
      have r2 := r.ext x
      refine ⟨⟨xs, h2', by rw [r.length]; exact Nat.le_refl _⟩, fun i d hd => ?_⟩
      obtain ⟨w, hw, hwd⟩ := r2.get' hd
      refine ⟨⟨xs, w, h2', hw⟩, fun y H' hy => ?_⟩
      obtain ⟨rfl, hy⟩ := hy
      have := hy xs h2'
      rw [hw] at this; cases this
      exact ⟨hwd, .inl rfl⟩
    | @scr a ns hs =>
      have hq := hs.sqL
      rw [G.hK] at hq
      refine .inl ⟨a, _, rfl, hq, P (Itl Γ.X.K a) H1 Z1 φ1 S1 (fun Z2 H2 x => ?_) ev'⟩
      have h2' : SqL Γ.X.K H2 a (ns.map V.int) := by rw [← G.hK]; exact (x.scr hs).sqL
      have r2 : ShL Γ.C Z2 H2 (ns.map V.int) (ns.map D.int) := shl_ints
      refine ⟨⟨_, h2', by rw [List.length_map, List.length_map]; exact Nat.le_refl _⟩, fun i d hd => ?_⟩
      obtain ⟨w, hw, hwd⟩ := r2.get' hd
      refine ⟨⟨_, w, h2', hw⟩, fun y H' hy => ?_⟩
      obtain ⟨rfl, hy⟩ := hy
      have := hy _ h2'
      rw [hw] at this; cases this
      exact ⟨hwd, .inl rfl⟩
    | str y =>
      refine .inr (.inr ⟨y, rfl, P (Its y) H1 Z1 φ1 S1 (fun Z2 H2 x => ?_) ev'⟩)
      have hl : ∀ i : Nat, (y.cps.toList)[i]? = y.cps[i]? := fun i => Array.getElem?_toList
      refine ⟨(show y.cps.size ≤ (y.cps.toList.map fun c => D.str ⟨#[c]⟩).length by rw [List.length_map, Array.length_toList]; exact Nat.le_refl _), fun i d hd => ?_⟩
      rw [List.getElem?_map, hl] at hd
      obtain ⟨c, hc, rfl⟩ := Option.map_eq_some_iff.mp hd
      refine ⟨(Array.getElem?_eq_some_iff.mp hc).1, fun z H' hz => ?_⟩
      obtain ⟨rfl, c', hc', rfl⟩ := hz
      rw [hc] at hc'; cases hc'
      exact ⟨.str _, .inl rfl⟩
    | non => exact P.elim
    | bl _ => exact P.elim
    | int _ => exact P.elim
    | fn _ => exact P.elim
    | dic _ _ _ _ => exact P.elim
def rgB (lo hi : Int) : Bool := Nat.ble lo.natAbs 4611686018427387903 && Nat.ble hi.natAbs 4611686018427387903
theorem rgB_ok {lo hi : Int} (h : rgB lo hi = true) : -(2 ^ 62) ≤ lo ∧ lo < 2 ^ 62 ∧ -(2 ^ 62) ≤ hi ∧ hi < 2 ^ 62 := by
  unfold rgB at h
  rw [Bool.and_eq_true] at h
  have h1 := Nat.le_of_ble_eq_true h.1
  have h2 := Nat.le_of_ble_eq_true h.2
  omega
def rgD (lo hi : Int) : Option (List D) := if rgB lo hi = true then some ((List.range (hi - lo).toNat).map fun k : Nat => .int (lo + k)) else none
theorem itr_d {C : RC} {lo : Int} {n : Nat} {Z : Fp} {H : Hp} : ItD C (Itr lo n) ((List.range n).map fun k : Nat => .int (lo + k)) Z H := fun Z2 H2 x => by
  refine ⟨(show n ≤ ((List.range n).map fun k : Nat => D.int (lo + k)).length by simp), fun i d hd => ?_⟩
  rw [List.getElem?_map] at hd
  obtain ⟨j, hj, rfl⟩ := Option.map_eq_some_iff.mp hd
  obtain ⟨h1, h2⟩ := List.getElem?_eq_some_iff.mp hj
  rw [List.length_range] at h1
  rw [List.getElem_range] at h2
  subst h2
  exact ⟨h1, fun y H' ⟨e1, e2⟩ => by subst e1 e2; exact ⟨.int _, .inl rfl⟩⟩
def rg1D : List D → Option (List D)
  | [.int j] => rgD 0 j
  | _ => none
def rg2D : List D → Option (List D)
  | [.int i, .int j] => rgD i j
  | _ => none
def rg1 (f : En → R (List D)) : En → R (List D) := fun env => (f env).bind fun ds env1 => R.of (rg1D ds) env1
def rg2 (f : En → R (List D)) : En → R (List D) := fun env => (f env).bind fun ds env1 => R.of (rg2D ds) env1
theorem ei_rg1 {tg : Expr} {f : En → R (List D)} (hg : Gl Γ.X "range") (hm : Γ.X.mg "range" = none) (ha : EvA Γ [a] f) (hs : starEach [a] Γ.X.env = [(false, eval a Γ.X.env)] := by rfl) : EvI Γ tg (.Call (.Name "range" p) [a] [] pos) (rg1 f) := by
  obtain ⟨t, h1, h2⟩ := ha
  refine ⟨_, pi_range1 hg hm h1 hs, fun σ H Z env φ S R P => ?_⟩
  refine h2 σ H Z env φ S _ ?_
  unfold rg1 at P
  cases e : f env with
  | ex x => rw [e] at P; exact P
  | no => rw [e] at P; exact P
  | ok ds env1 =>
    rw [e] at P
    simp only [Pv.R.bind_ok] at P
    intro vs H1 Z1 φ1 A S1 sh0 dj ev
    have ev' := ev.sub (F2 := Tot φ1) fun _ z => .inl z
    have sh : ShL Γ.C Z1 H1 vs ds := sh0
    cases eD : rg1D ds with
    | none => rw [eD] at P; exact P.elim
    | some items =>
      rw [eD] at P
      unfold rg1D at eD
      split at eD
      · rename_i j
        cases sh with
        | cons h r =>
          cases r
          cases h
          unfold rgD at eD
          split at eD
          · rename_i hb
            have hb := rgB_ok hb
            cases eD
            have e0 : (j - 0).toNat = j.toNat := by rw [Int.sub_zero]
            refine ⟨j, rfl, hb.2.2.1, hb.2.2.2, P _ H1 Z1 φ1 S1 ?_ ev'⟩
            rw [e0]
            exact itr_d
          · cases eD
      · cases eD
theorem ei_rg2 {tg : Expr} {f : En → R (List D)} (hg : Gl Γ.X "range") (hm : Γ.X.mg "range" = none) (ha : EvA Γ [a, b] f) (hs : starEach [a, b] Γ.X.env = [(false, eval a Γ.X.env), (false, eval b Γ.X.env)] := by rfl) (hs2 : starEach [b] Γ.X.env = [(false, eval b Γ.X.env)] := by rfl) : EvI Γ tg (.Call (.Name "range" p) [a, b] [] pos) (rg2 f) := by
  obtain ⟨t, h1, h2⟩ := ha
  refine ⟨_, pi_range2 hg hm h1 hs hs2, fun σ H Z env φ S R P => ?_⟩
  refine h2 σ H Z env φ S _ ?_
  unfold rg2 at P
  cases e : f env with
  | ex x => rw [e] at P; exact P
  | no => rw [e] at P; exact P
  | ok ds env1 =>
    rw [e] at P
    simp only [Pv.R.bind_ok] at P
    intro vs H1 Z1 φ1 A S1 sh0 dj ev
    have ev' := ev.sub (F2 := Tot φ1) fun _ z => .inl z
    have sh : ShL Γ.C Z1 H1 vs ds := sh0
    cases eD : rg2D ds with
    | none => rw [eD] at P; exact P.elim
    | some items =>
      rw [eD] at P
      unfold rg2D at eD
      split at eD
      · rename_i i j
        cases sh with
        | cons h r =>
          cases r with
          | cons h' r =>
            cases r
            cases h
            cases h'
            unfold rgD at eD
            split at eD
            · rename_i hb
              have hb := rgB_ok hb
              cases eD
              exact ⟨i, j, rfl, hb, P _ H1 Z1 φ1 S1 itr_d ev'⟩
            · cases eD
      · cases eD
/-- zip of two lists or two tuples -/
def zipD : D → D → Option (List D)
  | .lst xs, .lst ys => some ((xs.zip ys).map fun q => .tup [q.1, q.2])
  | .tup xs, .tup ys => some ((xs.zip ys).map fun q => .tup [q.1, q.2])
  | _, _ => none
def zipD2 : List D → Option (List D)
  | [d, e] => zipD d e
  | _ => none
def zipI (f : En → R (List D)) : En → R (List D) := fun env => (f env).bind fun ds env1 => R.of (zipD2 ds) env1
theorem zip_get {α β : Type} {xs : List α} {ys : List β} {i : Nat} {q : α × β} (h : (xs.zip ys)[i]? = some q) : xs[i]? = some q.1 ∧ ys[i]? = some q.2 := by
  rw [List.zip, List.getElem?_zipWith] at h
  cases e1 : xs[i]? with
  | none => rw [e1] at h; simp at h
  | some x =>
    cases e2 : ys[i]? with
    | none => rw [e1, e2] at h; simp at h
    | some y => rw [e1, e2] at h; simp at h; subst h; exact ⟨rfl, rfl⟩
theorem ei_zip {ts : List Expr} {kk : Nat} {tpos : Pos} {f : En → R (List D)} (G : Good Γ) (hg : Gl Γ.X "zip") (hm : Γ.X.mg "zip" = none) (ha : EvA Γ [a, b] f)
    (hs : starEach [a, b] Γ.X.env = (false, eval a Γ.X.env) :: starEach [b] Γ.X.env := by rfl) (hpl : (backTo pos (starEach [b] Γ.X.env)).any (·.1) = false := by rfl) : EvI Γ (.Tuple ts kk tpos) (.Call (.Name "zip" p) [a, b] [] pos) (zipI f) := by
  obtain ⟨t, h1, h2⟩ := ha
  refine ⟨_, RZ.pi_zipA hg hm h1 hs hpl, fun σ H Z env φ S R P => ?_⟩
  refine h2 σ H Z env φ S _ ?_
  unfold zipI at P
  cases e : f env with
  | ex x => rw [e] at P; exact P
  | no => rw [e] at P; exact P
  | ok ds env1 =>
    rw [e] at P
    simp only [Pv.R.bind_ok] at P
    intro vs H1 Z1 φ1 A S1 sh0 dj ev
    have ev' := ev.sub (F2 := Tot φ1) fun _ z => .inl z
    have sh : ShL Γ.C Z1 H1 vs ds := sh0
    cases eD : zipD2 ds with
    | none => rw [eD] at P; exact P.elim
    | some items =>
     rw [eD] at P
     unfold zipD2 at eD
     split at eD
     · rename_i d e
       cases sh with
       | cons h r =>
         cases r with
         | cons h' r =>
           cases r
           unfold zipD at eD
           split at eD
           · rename_i xs ys
             cases eD
             cases h with
             | @lst a us _ ha za ra =>
               cases h' with
               | @lst b ws _ hb zb rb =>
                 refine ⟨a, b, us, ws, rfl, .inl ⟨SqL.of ha, SqL.of hb, P _ H1 Z1 φ1 S1 (fun Z2 H2 x => ?_) ev'⟩⟩
                 have ha2 := x.zk a _ za ha
                 have hb2 := x.zk b _ zb hb
                 have ra2 := ra.ext x
                 have rb2 := rb.ext x
                 refine ⟨⟨us, ws, SqL.of ha2, SqL.of hb2, by rw [List.length_map, List.length_zip, ra.length, rb.length]; omega⟩, fun i d hd => ?_⟩
                 rw [List.getElem?_map] at hd
                 obtain ⟨q, hq, rfl⟩ := Option.map_eq_some_iff.mp hd
                 obtain ⟨q1, q2⟩ := zip_get hq
                 obtain ⟨w1, e1, s1⟩ := ra2.get' q1
                 obtain ⟨w2, e2, s2⟩ := rb2.get' q2
                 refine ⟨⟨us, ws, w1, w2, SqL.of ha2, SqL.of hb2, e1, e2⟩, fun y H' hy => ?_⟩
                 obtain ⟨T, y1, y2, rfl, hT, rfl, k1, k2⟩ := hy
                 have f1 := k1 us (SqL.of ha2)
                 have f2 := k2 ws (SqL.of hb2)
                 rw [e1] at f1; cases f1
                 rw [e2] at f2; cases f2
                 have xn : Ext Z2 H2 Z2 (upd H2 T (.tup [w1, w2])) := Ext.new hT
                 exact ⟨.tup (SqT.of upd_same) (.cons (s1.ext xn) (.cons (s2.ext xn) .nil)), .inr ⟨T, _, hT, rfl⟩⟩
           · rename_i xs ys
             cases eD
             cases h with
             | @tup a us _ ha ra =>
               cases h' with
               | @tup b ws _ hb rb =>
                 have ha' := ha
                 have hb' := hb
                 rw [G.hK] at ha' hb'
                 refine ⟨a, b, us, ws, rfl, .inr ⟨ha', hb', P _ H1 Z1 φ1 S1 (fun Z2 H2 x => ?_) ev'⟩⟩
                 have ha2 : SqT Γ.X.K H2 a us := by rw [← G.hK]; exact x.sqT ha
                 have hb2 : SqT Γ.X.K H2 b ws := by rw [← G.hK]; exact x.sqT hb
                 have ra2 := ra.ext x
                 have rb2 := rb.ext x
                 refine ⟨⟨us, ws, ha2, hb2, by rw [List.length_map, List.length_zip, ra.length, rb.length]; omega⟩, fun i d hd => ?_⟩
                 rw [List.getElem?_map] at hd
                 obtain ⟨q, hq, rfl⟩ := Option.map_eq_some_iff.mp hd
                 obtain ⟨q1, q2⟩ := zip_get hq
                 obtain ⟨w1, e1, s1⟩ := ra2.get' q1
                 obtain ⟨w2, e2, s2⟩ := rb2.get' q2
                 refine ⟨⟨us, ws, w1, w2, ha2, hb2, e1, e2⟩, fun y H' hy => ?_⟩
                 obtain ⟨T, y1, y2, rfl, hT, rfl, k1, k2⟩ := hy
                 have f1 := k1 us ha2
                 have f2 := k2 ws hb2
                 rw [e1] at f1; cases f1
                 rw [e2] at f2; cases f2
                 have xn : Ext Z2 H2 Z2 (upd H2 T (.tup [w1, w2])) := Ext.new hT
                 exact ⟨.tup (SqT.of upd_same) (.cons (s1.ext xn) (.cons (s2.ext xn) .nil)), .inr ⟨T, _, hT, rfl⟩⟩
           · cases eD
     · cases eD

/-! ### for -/
def loopS (g : D → En → Option En) (body : En → SR) : List D → En → SR
  | [], env => .nx env
  | d :: ds, env => match g d env with
    | none => .no
    | some env1 => match body env1 with
      | .nx e => loopS g body ds e
      | .ct e => loopS g body ds e
      | .bk e => .nx e
      | .ret p e => .ret p e
      | .ex x => .ex x
      | .no => .no
def forS (fi : En → R (List D)) (g : D → En → Option En) (body : En → SR) : En → SR := fun env => (fi env).then fun ds env1 => loopS g body ds env1
theorem Grow.stt {σ : L2.St} {H H' : Hp} {Z : Fp} {env : En} {φ : Nat → Fp} (h : Grow H H') (S : SttC Γ Z σ H env φ) : SttC Γ Z σ H' env φ ∧ Ext Z H Z H' ∧ Evo Z H (Tot φ) Z H' (Tot φ) := by
  rcases h with rfl | ⟨T, o, hT, rfl⟩
  · exact ⟨S, Ext.refl, Evo.refl⟩
  · exact ⟨S.new hT, Ext.new hT, Evo.new hT fun _ z => .inl z⟩
theorem es_for {tg iter : Expr} {ws : List Nat} {body : List Stmt} {fi : En → R (List D)} {g : D → En → Option En} {fb : En → SR} (G : Good Γ) (hp : PassesOwn (model Γ.X.prog Γ.X.w) Γ.X.A Γ.X.env Γ.X.xe) (hi : EvI Γ tg iter fi) (hg : EvG Γ tg ws g) (hb : EvB Γ body fb)
    (hs : ∀ x, foldedSetIterable iter Γ.X.env x = pure x := by intro _; rfl) : EvS Γ (.For tg iter body [] pos) (forS fi g fb) := by
  obtain ⟨wi, i1, i2⟩ := hi
  obtain ⟨t, g1, g2⟩ := hg
  obtain ⟨u, b1, b2⟩ := hb
  refine ⟨_, ps_for hp G.calm i1 g1 b1 hs, fun σ H Z env φ S Dn P => ?_⟩
  refine i2 σ H Z env φ S _ ?_
  unfold forS at P
  cases e : fi env with
  | ex x => rw [e] at P; exact P σ S.io S.l0
  | no => rw [e] at P; exact P
  | ok ds env1 =>
    rw [e] at P
    simp only [Pv.R.then_ok] at P
    intro J H1 Z1 φ1 S1 it ev
    have P1 := PostS.mono P ev
    refine ⟨fun i m σ' H' => m = ds.length - i ∧ i ≤ ds.length ∧ ∃ env' Z' φ', SttC Γ Z' σ' H' env' φ' ∧ Ext Z1 H1 Z' H' ∧ PostS Γ Z' H' (Tot φ') (loopS g fb (ds.drop i) env') Dn, ⟨ds.length, by simp, Nat.zero_le _, env1, Z1, φ1, S1, Ext.refl, by rw [List.drop_zero]; exact P1⟩, ?_⟩
    rintro i m σ' H' ⟨rfl, hi, env', Z', φ', S', x', P'⟩
    obtain ⟨stop, go⟩ := it Z' H' x'
    by_cases hlt : i < ds.length
    · obtain ⟨hgo, hy⟩ := go i ds[i] (List.getElem?_eq_getElem hlt)
      refine .inr ⟨hgo, fun σ2 H2 => ∃ env2 Z2 φ2, SttC Γ Z2 σ2 H2 env2 φ2 ∧ Ext Z1 H1 Z2 H2 ∧ PostS Γ Z2 H2 (Tot φ2) (loopS g fb (ds.drop (i + 1)) env2) Dn, fun σ2 H2 ⟨env2, Z2, φ2, S2, x2, P2⟩ => ⟨ds.length - (i + 1), by omega, rfl, hlt, env2, Z2, φ2, S2, x2, P2⟩, fun v H2 hv => ?_⟩
      obtain ⟨sh, gr⟩ := hy v H2 hv
      obtain ⟨S2, x2, ev2⟩ := gr.stt S'
      have P2 := PostS.mono P' ev2
      rw [List.drop_eq_getElem_cons hlt] at P2
      unfold loopS at P2
      cases eg : g ds[i] env' with
      | none => rw [eg] at P2; exact P2.elim
      | some env2 =>
        rw [eg] at P2
        simp only at P2
        refine g2 σ' H2 Z' env' φ' S2 v ds[i] env2 sh eg _ fun σ3 φ3 S3 t3 _ => ?_
        have P3 := PostS.mono P2 (Evo.refl.sub t3)
        refine b2 σ3 H2 Z' env2 φ3 S3 _ ?_
        cases eb : fb env2 with
        | nx e =>
          rw [eb] at P3
          exact fun σ4 H4 Z4 φ4 S4 ev4 => ⟨e, Z4, φ4, S4, (x'.trans x2).trans (S3.ext ev4), PostS.mono P3 ev4⟩
        | ct e =>
          rw [eb] at P3
          exact fun σ4 H4 Z4 φ4 S4 ev4 => ⟨e, Z4, φ4, S4, (x'.trans x2).trans (S3.ext ev4), PostS.mono P3 ev4⟩
        | bk e => rw [eb] at P3; exact P3
        | ret p e => rw [eb] at P3; exact P3
        | ex x => rw [eb] at P3; exact P3
        | no => rw [eb] at P3; exact P3
    · have e1 : i = ds.length := by omega
      subst e1
      rw [List.drop_length] at P'
      exact .inl ⟨stop, PostS.here P' S'⟩

/-! ### while -/
def whileS (c : En → R Bool) (body : En → SR) : Nat → En → SR
  | 0, _ => .no
  | n + 1, env => (c env).then fun b env1 => if b = true then (match body env1 with
      | .nx e => whileS c body n e
      | .ct e => whileS c body n e
      | .bk e => .nx e
      | .ret p e => .ret p e
      | .ex x => .ex x
      | .no => .no) else .nx env1
theorem es_while {c : Expr} {body : List Stmt} {fc : En → R Bool} {fb : En → SR} (n : Nat) (hp : PassesOwn (model Γ.X.prog Γ.X.w) Γ.X.A Γ.X.env Γ.X.xe) (hc : EvT Γ c fc) (hb : EvB Γ body fb) : EvS Γ (.While c body [] pos) (whileS fc fb n) := by
  obtain ⟨t, c1, c2⟩ := hc
  obtain ⟨u, b1, b2⟩ := hb
  refine ⟨_, ps_while hp c1 b1, fun σ H Z env φ S Dn P => ?_⟩
  refine ⟨fun m σ' H' => ∃ env' Z' φ', SttC Γ Z' σ' H' env' φ' ∧ PostS Γ Z' H' (Tot φ') (whileS fc fb m env') Dn, ⟨n, env, Z, φ, S, P⟩, ?_⟩
  rintro m σ' H' ⟨env', Z', φ', S', P'⟩
  cases m with
  | zero => exact P'.elim
  | succ m =>
    unfold whileS at P'
    refine c2.then S' P' fun b env1 b' H1 Z1 φ1 A e1 S1 q dj ev P1 => ?_
    cases (show b = b' from q)
    have P2 := P1.mono Evo.dropA
    cases b with
    | false =>
      rw [if_neg Bool.false_ne_true] at P2 ⊢
      exact PostS.here P2 S1
    | true =>
      rw [if_pos rfl] at P2 ⊢
      refine ⟨fun σ2 H2 => ∃ env2 Z2 φ2, SttC Γ Z2 σ2 H2 env2 φ2 ∧ PostS Γ Z2 H2 (Tot φ2) (whileS fc fb m env2) Dn, fun σ2 H2 h => ⟨m, Nat.lt_succ_self m, h⟩, ?_⟩
      refine b2 σ' H1 Z1 env1 φ1 S1 _ ?_
      cases eb : fb env1 with
      | nx e =>
        rw [eb] at P2
        exact fun σ4 H4 Z4 φ4 S4 ev4 => ⟨e, Z4, φ4, S4, PostS.mono P2 ev4⟩
      | ct e =>
        rw [eb] at P2
        exact fun σ4 H4 Z4 φ4 S4 ev4 => ⟨e, Z4, φ4, S4, PostS.mono P2 ev4⟩
      | bk e => rw [eb] at P2; exact P2
      | ret p e => rw [eb] at P2; exact P2
      | ex x => rw [eb] at P2; exact P2
      | no => rw [eb] at P2; exact P2
end
end Pv
end

section
set_option Elab.async false
set_option linter.all false
set_option maxRecDepth 100000
set_option maxHeartbeats 4000000
/-! Pv10: list comprehensions. -/
namespace Pv
open PySem PySem.Spec PyProof.Rows L2

def wipeE (env : En) : List Nat → En
  | [] => env
  | v :: vs => (wipeE env vs).set v none
theorem wipeE_length (env : En) : ∀ vs : List Nat, (wipeE env vs).length = env.length
  | [] => rfl
  | v :: vs => by unfold wipeE; rw [List.length_set, wipeE_length env vs]
theorem wipeE_out {env : En} {i : Nat} : ∀ {vs : List Nat}, i ∉ vs → (wipeE env vs)[i]? = env[i]?
  | [], _ => rfl
  | v :: vs, h => by
    unfold wipeE
    rw [List.getElem?_set_ne (fun e => h (by rw [e]; exact List.mem_cons_self)), wipeE_out fun z => h (List.mem_cons_of_mem _ z)]
theorem wipeE_in {env : En} {i : Nat} {p : D × Nat} : ∀ {vs : List Nat}, i ∈ vs → (wipeE env vs)[i]? ≠ some (some p)
  | v :: vs, h, e => by
    unfold wipeE at e
    by_cases hv : v = i
    · subst hv
      by_cases hl : v < (wipeE env vs).length
      · rw [List.getElem?_set_self hl] at e; cases e
      · rw [List.getElem?_eq_none (by simpa using hl)] at e; cases e
    · rw [List.getElem?_set_ne hv] at e
      exact wipeE_in ((List.mem_cons.mp h).resolve_left fun z => hv z.symm) e
theorem wipe_of {σ σ2 : L2.St} {vs ws : List Nat} (hs : ∀ i ∈ ws, i ∈ vs) (hl : σ2.length = (wipe σ vs).length) (h : ∀ i, i ∉ ws → σ2[i]? = (wipe σ vs)[i]?) : wipe σ2 vs = wipe σ vs := by
  apply List.ext_getElem?
  intro i
  by_cases hi : i ∈ vs
  · have lk : ∀ (τ : L2.St) (us : List Nat), i ∈ us → (wipe τ us)[i]? = if i < τ.length then some none else none := fun τ us => by
      induction us with
      | nil => intro h; cases h
      | cons v us ih =>
        intro hm
        unfold wipe
        by_cases hv : v = i
        · subst hv
          by_cases hl2 : v < (wipe τ us).length
          · rw [List.getElem?_set_self hl2, if_pos (by rwa [wipe_length] at hl2)]
          · rw [List.getElem?_eq_none (by simpa using hl2), if_neg (by rwa [wipe_length] at hl2)]
        · rw [List.getElem?_set_ne hv]
          exact ih ((List.mem_cons.mp hm).resolve_left fun z => hv z.symm)
    rw [lk _ _ hi, lk _ _ hi, hl, wipe_length]
  · rw [wipe_out hi, h i fun z => hi (hs i z)]
section
variable {C : RC} {σ : L2.St} {Z : Fp} {H : Hp} {env : En} {φ : Nat → Fp}
theorem Stt.wipe {io : List Nat} {σ₀ : L2.St} (S : Stt C io σ₀ Z σ H env φ) (vs : List Nat) : Stt C [] [] Z (L2.wipe σ vs) H (wipeE env vs) (fun i a => i ∉ vs ∧ φ i a) where
  len := by rw [wipe_length, wipeE_length, S.len]
  slot := fun i d k h => by
    by_cases hi : i ∈ vs
    · exact (wipeE_in hi h).elim
    · rw [wipeE_out hi] at h
      obtain ⟨v, h1, h2⟩ := S.slot i d k h
      exact ⟨v, by rw [wipe_out hi]; exact h1, h2.congr fun a => ⟨fun z => ⟨hi, z⟩, fun z => z.2⟩⟩
  off := fun i h a ⟨hi, z⟩ => S.off i (fun p => by have := h p; rwa [wipeE_out hi] at this) a z
  dj := fun i j a h1 h2 => S.dj i j a h1.2 h2.2
  nz := fun i a h => S.nz i a h.2
  zh := S.zh
  io := fun _ h => by cases h
  l0 := fun h => (h rfl).elim
end
/-- behind the comprehension: its own slots are as they were (what was shared) -/
def backE (env1 env2 : En) : List Nat → En
  | [] => env2
  | v :: vs => (backE env1 env2 vs).set v (match env1[v]? with
    | some (some (d, 0)) => some (d, 0)
    | _ => none)
theorem backE_length (env1 env2 : En) : ∀ vs : List Nat, (backE env1 env2 vs).length = env2.length
  | [] => rfl
  | v :: vs => by unfold backE; rw [List.length_set, backE_length env1 env2 vs]
theorem backE_out {env1 env2 : En} {i : Nat} : ∀ {vs : List Nat}, i ∉ vs → (backE env1 env2 vs)[i]? = env2[i]?
  | [], _ => rfl
  | v :: vs, h => by
    unfold backE
    rw [List.getElem?_set_ne (fun e => h (by rw [e]; exact List.mem_cons_self)), backE_out fun z => h (List.mem_cons_of_mem _ z)]
theorem backE_in {env1 env2 : En} {i : Nat} {p : D × Nat} : ∀ {vs : List Nat}, i ∈ vs → (backE env1 env2 vs)[i]? = some (some p) → env1[i]? = some (some p) ∧ p.2 = 0
  | v :: vs, h, e => by
    unfold backE at e
    by_cases hv : v = i
    · subst hv
      by_cases hl : v < (backE env1 env2 vs).length
      · rw [List.getElem?_set_self hl] at e
        split at e
        · rename_i d h1
          cases e
          exact ⟨h1, rfl⟩
        · cases e
      · rw [List.getElem?_eq_none (by simpa using hl)] at e; cases e
    · rw [List.getElem?_set_ne hv] at e
      exact backE_in ((List.mem_cons.mp h).resolve_left fun z => hv z.symm) e
def R.noX {α : Type} (r : R α) : R α :=
  match r with
  | .ok a e => .ok a e
  | _ => .no
@[simp] theorem R.noX_ok {α : Type} (a : α) (e : En) : (R.ok a e).noX = .ok a e := rfl
/-- the turns: m is the depth that the items own -/
def compL (g : D → En → Option En) (tt : En → R Bool) (te : En → R (D × Nat)) (m : Nat) (vs : List Nat) : List D → En → List D → R (List D)
  | [], env, acc => .ok acc env
  | d :: ds, env, acc => match g d env with
    | none => .no
    | some env1 => (tt env1).noX.bind fun b env2 => if b = true then
        (te env2).noX.bind fun y env3 => if y.2 = m ∧ acc.length < lim then compL g tt te m vs ds (wipeE env3 vs) (acc ++ [y.1]) else .no
      else compL g tt te m vs ds (wipeE env2 vs) acc
def comp (fi : En → R (List D)) (g : D → En → Option En) (tt : En → R Bool) (te : En → R (D × Nat)) (m : Nat) (vs : List Nat) : En → R (D × Nat) := fun env =>
  (fi env).bind fun ds env1 => (compL g tt te m vs ds (wipeE env1 vs) []).bind fun acc env2 => .ok (.lst acc, m + 1) (backE env1 env2 vs)

/-- the place of a comprehension's block -/
abbrev blkCt (Γ : Ct) (scope : Scope) (s : Shared) (H : Hp) (c : Addr) (cl : List (Str × Addr)) (fp : List Addr) : Ct :=
  ⟨Γ.X.blk s H scope (compEnvC scope cl c Γ.X.env) fp, Γ.C, fun _ _ _ _ => False, [], []⟩
theorem Good.blk {Γ : Ct} (G : Good Γ) {scope : Scope} {s : Shared} {H : Hp} {c : Addr} {cl : List (Str × Addr)} {fp : List Addr} : Good (blkCt Γ scope s H c cl fp) :=
  ⟨G.hK, G.nd, G.calm, fun _ _ ⟨_, _, _, _, _, _, _, _, _, _, _, _, _, _, _, _, w⟩ => w.elim⟩
/-- the data's side of a block's place -/
abbrev blk0 (Γ : Ct) : Ct := ⟨Γ.X, Γ.C, fun _ _ _ _ => False, [], []⟩
section
variable {Γ : Ct} {scope : Scope} {elt tg iter : Expr} {ifs : List Expr}
theorem pe_weak {X : Cx} {e : Expr} {t t' : TE} (h : PE X e t) (k : ∀ σ H Q, t' σ H Q → t σ H Q) : PE X e t' := ⟨fun pins s σ H Q I q => h.run pins s σ H Q I (k _ _ _ q)⟩
theorem blk_e {f : En → R (D × Nat)} (h : ∀ s H c cl fp, EvE (blkCt Γ scope s H c cl fp) elt f) :
    ∃ te, (∀ (s : Shared) (H : Hp) (c : Addr) (cl : List (Str × Addr)) (fp : List Addr), PE (Γ.X.blk s H scope (compEnvC scope cl c Γ.X.env) fp) elt te) ∧ Ev (blk0 Γ) (ER Γ.C) f te := by
  refine ⟨fun σ H Q => ∀ s H0 c cl fp, Classical.choose (h s H0 c cl fp) σ H Q, fun s H c cl fp => pe_weak (Classical.choose_spec (h s H c cl fp)).1 fun σ H' Q q => q s H c cl fp, fun σ H Z env φ S Q P s H0 c cl fp => ?_⟩
  exact (Classical.choose_spec (h s H0 c cl fp)).2 σ H Z env φ S Q P
theorem blk_g {ws : List Nat} {g : D → En → Option En} (h : ∀ s H c cl fp, EvG (blkCt Γ scope s H c cl fp) tg ws g) :
    ∃ t, (∀ (s : Shared) (H : Hp) (c : Addr) (cl : List (Str × Addr)) (fp : List Addr), PG (Γ.X.blk s H scope (compEnvC scope cl c Γ.X.env) fp) tg t) ∧
      ∀ σ H Z env φ, SttC (blk0 Γ) Z σ H env φ → ∀ v d env', Sh Γ.C Z H v d → g d env = some env' → ∀ Q : L2.St → Hp → Prop, (∀ σ' φ', SttC (blk0 Γ) Z σ' H env' φ' → (∀ a, Tot φ' a → Tot φ a) → (σ'.length = σ.length ∧ ∀ i, i ∉ ws → σ'[i]? = σ[i]?) → Q σ' H) → t v σ H Q := by
  refine ⟨fun v σ H Q => ∀ s H0 c cl fp, Classical.choose (h s H0 c cl fp) v σ H Q, fun s H c cl fp => ⟨fun pins s' σ H' v u Q I r q => (Classical.choose_spec (h s H c cl fp)).1.run pins s' σ H' v u Q I r (q s H c cl fp)⟩, fun σ H Z env φ S v d env' sh hg Q q s H0 c cl fp => ?_⟩
  exact (Classical.choose_spec (h s H0 c cl fp)).2 σ H Z env φ S v d env' sh hg Q q
/-- a clause's tests -/
def EvPT (Γ : Ct) (ifs : List Expr) (f : En → R Bool) : Prop := ∃ t, PTs Γ.X ifs t ∧ Ev Γ TR f t
def yesT : En → R Bool := fun env => .ok true env
theorem ept_nil : EvPT Γ [] yesT := ⟨_, pts_nil, fun σ H Z env φ S Q P => Post.here P S rfl⟩
theorem ept_one {c : Expr} {f : En → R Bool} (h : EvT Γ c f) : EvPT Γ [c] f := by
  obtain ⟨t, h1, h2⟩ := h
  exact ⟨t, pts_one h1, h2⟩
theorem blk_t {f : En → R Bool} (h : ∀ s H c cl fp, EvPT (blkCt Γ scope s H c cl fp) ifs f) :
    ∃ t, (∀ (s : Shared) (H : Hp) (c : Addr) (cl : List (Str × Addr)) (fp : List Addr), PTs (Γ.X.blk s H scope (compEnvC scope cl c Γ.X.env) fp) ifs t) ∧ Ev (blk0 Γ) TR f t := by
  refine ⟨fun σ H Q => ∀ s H0 c cl fp, Classical.choose (h s H0 c cl fp) σ H Q, fun s H c cl fp => ⟨fun pins s' σ H' Q I q => (Classical.choose_spec (h s H c cl fp)).1.run pins s' σ H' Q I (q s H c cl fp)⟩, fun σ H Z env φ S Q P s H0 c cl fp => ?_⟩
  exact (Classical.choose_spec (h s H0 c cl fp)).2 σ H Z env φ S Q P

/-- the list that is made: its items own what stands at B -/
structure Acc (C : RC) (Z : Fp) (H : Hp) (m : Nat) (D₀ : Addr) (vs : List V) (ds : List D) (B : Nat → Fp) : Prop where
  at' : H D₀ = some (.lst vs)
  len : vs.length = ds.length
  ow : ∀ (i : Nat) (x : V) (e : D), vs[i]? = some x → ds[i]? = some e → Ow C Z H m x e (B i)
  dj : ∀ i j b, B i b → B j b → i = j
  nd : ∀ i, ¬ B i D₀
  off : ∀ i b, B i b → i < vs.length
theorem Acc.fin {C : RC} {Z : Fp} {H : Hp} {m : Nat} {D₀ : Addr} {vs : List V} {ds : List D} {B : Nat → Fp} (a : Acc C Z H m D₀ vs ds B) : Ow C Z H (m + 1) (.ref D₀) (.lst ds) (fun b => b = D₀ ∨ ∃ i, B i b) :=
  .inr (.inl ⟨D₀, vs, ds, B, rfl, rfl, a.at', a.len, a.ow, a.dj, a.nd, a.off, fun _ => Iff.rfl⟩)
theorem Acc.mut {C : RC} {Z : Fp} {H : Hp} {m : Nat} {D₀ : Addr} {vs : List V} {ds : List D} {B : Nat → Fp} (a : Acc C Z H m D₀ vs ds B) {b : Addr} {i : Nat} (h : B i b) : isM (H b) := by
  have hi := a.off i b h
  exact (a.ow i vs[i] (ds[i]'(a.len ▸ hi)) (List.getElem?_eq_getElem hi) (List.getElem?_eq_getElem _)).mut b h
theorem Acc.ext {C : RC} {Z Z' : Fp} {H H' : Hp} {m : Nat} {D₀ : Addr} {vs : List V} {ds : List D} {B : Nat → Fp} (a : Acc C Z H m D₀ vs ds B) (x : Ext Z H Z' H') (k : ∀ b o, (b = D₀ ∨ ∃ i, B i b) → H b = some o → H' b = some o) : Acc C Z' H' m D₀ vs ds B :=
  ⟨k _ _ (.inl rfl) a.at', a.len, fun i y e h1 h2 => (a.ow i y e h1 h2).ext x fun b o q => k b o (.inr ⟨i, q⟩), a.dj, a.nd, a.off⟩
abbrev AT (D₀ : Addr) (B : Nat → Fp) : Fp := fun b => b = D₀ ∨ ∃ i, B i b
theorem Acc.snoc {C : RC} {Z : Fp} {H : Hp} {m : Nat} {D₀ : Addr} {vs : List V} {ds : List D} {B : Nat → Fp} (a : Acc C Z H m D₀ vs ds B) (nz : ¬ Z D₀) {v : V} {d : D} {A : Fp} (o : Ow C Z H m v d A) (hA : ∀ b, A b → ¬ AT D₀ B b) :
    Acc C Z (upd H D₀ (.lst (vs ++ [v]))) m D₀ (vs ++ [v]) (ds ++ [d]) (fun i => if i = vs.length then A else B i) ∧ Ext Z H Z (upd H D₀ (.lst (vs ++ [v]))) := by
  have x : Ext Z H Z (upd H D₀ (.lst (vs ++ [v]))) := ⟨fun b u z h => by rw [upd_ne fun e : b = D₀ => nz (by rw [← e]; exact z)]; exact h, fun _ z => z, fun b u h => by rw [upd_ne (ne_of h a.at' fun e => by cases e)]; exact h, fun b u w h => by rw [upd_ne (ne_of h a.at' fun e => by cases e)]; exact h⟩
  have hB : ∀ b, B vs.length b → False := fun b z => Nat.lt_irrefl _ (a.off _ b z)
  refine ⟨⟨upd_same, by rw [List.length_append, List.length_append, a.len]; rfl, fun i y e h1 h2 => ?_, fun i j b h1 h2 => ?_, fun i h => ?_, fun i b h => ?_⟩, x⟩
  · by_cases hi : i = vs.length
    · subst hi
      have e1 : y = v := by simpa using h1.symm
      have e2 : e = d := by rw [a.len] at h2; simpa using h2.symm
      subst e1 e2
      rw [if_pos rfl]
      exact o.ext x fun b u q h => by rw [upd_ne fun z => hA b q (.inl z)]; exact h
    · rw [if_neg hi]
      have hl : i < vs.length := by
        have := (List.getElem?_eq_some_iff.mp h1).1
        rw [List.length_append] at this
        simp at this
        omega
      rw [List.getElem?_append_left hl] at h1
      rw [List.getElem?_append_left (a.len ▸ hl)] at h2
      exact (a.ow i y e h1 h2).ext x fun b u q h => by rw [upd_ne fun z : b = D₀ => a.nd i (by rw [← z]; exact q)]; exact h
  · by_cases hi : i = vs.length
    · rw [if_pos hi] at h1
      by_cases hj : j = vs.length
      · omega
      · rw [if_neg hj] at h2
        exact (hA b h1 (.inr ⟨j, h2⟩)).elim
    · rw [if_neg hi] at h1
      by_cases hj : j = vs.length
      · rw [if_pos hj] at h2
        exact (hA b h2 (.inr ⟨i, h1⟩)).elim
      · rw [if_neg hj] at h2
        exact a.dj i j b h1 h2
  · by_cases hi : i = vs.length
    · rw [if_pos hi] at h; exact hA _ h (.inl rfl)
    · rw [if_neg hi] at h; exact a.nd i h
  · rw [List.length_append]
    by_cases hi : i = vs.length
    · rw [hi]; simp
    · rw [if_neg hi] at h
      have := a.off i b h
      simp; omega
theorem lc_ev {vs ws : List Nat} {wi : TI} {tG : TG} {tT : TT} {tE : TE} {fi : En → R (List D)} {g : D → En → Option En} {tt : En → R Bool} {te : En → R (D × Nat)} (m : Nat)
    (i2 : ∀ σ H Z env φ, SttC Γ Z σ H env φ → ∀ R : It → Hp → Prop, (match fi env with
      | .ok ds env1 => ∀ J H1 Z1 φ1, SttC Γ Z1 σ H1 env1 φ1 → ItD Γ.C J ds Z1 H1 → Evo Z H (Tot φ) Z1 H1 (Tot φ1) → R J H1
      | .ex x => PostX Γ σ Z H (Tot φ) x
      | .no => False) → wi σ H R)
    (g2 : ∀ σ H Z env φ, SttC (blk0 Γ) Z σ H env φ → ∀ v d env', Sh Γ.C Z H v d → g d env = some env' → ∀ Q : L2.St → Hp → Prop, (∀ σ' φ', SttC (blk0 Γ) Z σ' H env' φ' → (∀ a, Tot φ' a → Tot φ a) → (σ'.length = σ.length ∧ ∀ i, i ∉ ws → σ'[i]? = σ[i]?) → Q σ' H) → tG v σ H Q)
    (t2 : Ev (blk0 Γ) TR tt tT) (e2 : Ev (blk0 Γ) (ER Γ.C) te tE) (hws : ∀ i ∈ ws, i ∈ vs) : Ev Γ (ER Γ.C) (comp fi g tt te m vs) (tLc wi tG tT tE vs) := by
  intro σ H Z env φ S Q P
  refine i2 σ H Z env φ S _ ?_
  unfold comp at P
  cases e : fi env with
  | ex x => rw [e] at P; exact P
  | no => rw [e] at P; exact P
  | ok ds env1 =>
    rw [e] at P
    simp only [Pv.R.bind_ok] at P
    intro J H1 Z1 φ1 S1 it ev D₀ hD
    have P1 := Post.mono P ev
    have Sw := S1.wipe vs
    have nD : ¬ Z1 D₀ ∧ ¬ Tot φ1 D₀ := S1.fresh hD
    -- the place at a turn
    let Inv' : Nat → Hp → Prop := fun i H' => ∃ env' Z' φ' accV accD B, SttC (blk0 Γ) Z' (L2.wipe σ vs) H' env' φ' ∧ Ext Z1 H1 Z' H' ∧ Acc Γ.C Z' H' m D₀ accV accD B ∧
      (∀ b, AT D₀ B b → ¬ Tot φ' b ∧ ¬ Z' b) ∧ (∀ v ∈ vs, ∀ p, env'[v]? ≠ some (some p)) ∧ Post Γ σ Z' H' (fun a => Tot φ' a ∨ AT D₀ B a) (ER Γ.C σ) ((compL g tt te m vs (ds.drop i) env' accD).bind fun acc env2 => .ok (.lst acc, m + 1) (backE env1 env2 vs)) Q
    have ev0 : Evo Z1 H1 (Tot φ1) Z1 (upd H1 D₀ (.lst [])) (fun a => Tot (fun i a => i ∉ vs ∧ φ1 i a) a ∨ AT D₀ (fun _ _ => False) a) := Evo.new hD fun a z => z.elim (fun ⟨j, z⟩ => .inl ⟨j, z.2⟩) fun z => z.elim .inr fun ⟨_, z⟩ => z.elim
    refine ⟨fun i k H' => k = ds.length - i ∧ i ≤ ds.length ∧ Inv' i H', ⟨ds.length, by simp, Nat.zero_le _, wipeE env1 vs, Z1, _, [], [], fun _ _ => False, Sw.new hD, Ext.new hD, ⟨upd_same, rfl, fun i x e h => by simp at h, fun _ _ _ z => z.elim, fun _ z => z, fun _ _ z => z.elim⟩, fun b z => ?_, fun v hv p => wipeE_in hv, ?_⟩, ?_⟩
    · rcases z with rfl | ⟨_, z⟩
      · exact ⟨fun ⟨j, z⟩ => nD.2 ⟨j, z.2⟩, nD.1⟩
      · exact z.elim
    · rw [List.drop_zero]
      exact Post.mono P1 ev0
    rintro i k H' ⟨rfl, hi, env', Z', φ', accV, accD, B, S', x', a, hA, hw, P'⟩
    obtain ⟨stop, go⟩ := it Z' H' x'
    by_cases hlt : i < ds.length
    · obtain ⟨hgo, hy⟩ := go i ds[i] (List.getElem?_eq_getElem hlt)
      refine .inr ⟨hgo, fun H2 => Inv' (i + 1) H2, fun H2 h2 => ⟨ds.length - (i + 1), by omega, rfl, hlt, h2⟩, fun v H2 hv => ?_⟩
      obtain ⟨sh, gr⟩ := hy v H2 hv
      obtain ⟨S2, x2, ev2⟩ := gr.stt (Γ := blk0 Γ) S'
      -- what is made stands through a step
      have kept : ∀ {Za Zb : Fp} {Ha Hb : Hp} {Fb : Fp} {φa : Nat → Fp}, Evo Za Ha (Tot φa) Zb Hb Fb → Ext Za Ha Zb Hb → Acc Γ.C Za Ha m D₀ accV accD B → (∀ b, AT D₀ B b → ¬ Tot φa b ∧ ¬ Za b) →
          Acc Γ.C Zb Hb m D₀ accV accD B ∧ (∀ b, AT D₀ B b → ¬ Fb b ∧ ¬ Zb b) := fun {Za Zb Ha Hb Fb φa} e x a0 h0 => by
        have hn : ∀ b, AT D₀ B b → Ha b ≠ none := fun b hb z => by
          rcases hb with rfl | ⟨j, hb⟩
          · rw [a0.at'] at z; cases z
          · have := a0.mut hb; rw [z] at this; exact this
        refine ⟨a0.ext x fun b o hb h => e.keep b o h (h0 b hb).1, fun b hb => ⟨fun z => ?_, fun z => ?_⟩⟩
        · rcases e.fn b z with z | z
          · exact (h0 b hb).1 z
          · exact hn b hb z
        · rcases e.zn b z with z | z | z
          · exact (h0 b hb).2 z
          · exact (h0 b hb).1 z
          · exact hn b hb z
      have lift : ∀ {Za Zb : Fp} {Ha Hb : Hp} {φa : Nat → Fp} {Fb : Fp}, Evo Za Ha (Tot φa) Zb Hb Fb → Evo Za Ha (fun b => Tot φa b ∨ AT D₀ B b) Zb Hb (fun b => Fb b ∨ AT D₀ B b) := fun {Za Zb Ha Hb φa Fb} e =>
        ⟨fun b o h n => e.keep b o h fun z => n (.inl z), e.zm, fun b z => (e.zn b z).imp id fun q => q.imp .inl id, fun b z => z.elim (fun z => (e.fn b z).imp .inl id) fun z => .inl (.inr z)⟩
      obtain ⟨a2, hA2⟩ := kept ev2 x2 a hA
      have P2 := Post.mono P' (lift ev2)
      rw [List.drop_eq_getElem_cons hlt] at P2
      unfold compL at P2
      cases eg : g ds[i] env' with
      | none => rw [eg] at P2; exact P2.elim
      | some env2 =>
        rw [eg] at P2
        simp only at P2
        refine g2 (L2.wipe σ vs) H2 Z' env' φ' S2 v ds[i] env2 sh eg _ fun σ3 φ3 S3 t3 k3 => ?_
        have hwσ : L2.wipe σ3 vs = L2.wipe σ vs := by
          have := wipe_of (σ := σ) (σ2 := σ3) hws k3.1 k3.2
          exact this
        refine ⟨hwσ, ?_⟩
        have hA3 : ∀ b, AT D₀ B b → ¬ Tot φ3 b ∧ ¬ Z' b := fun b hb => ⟨fun z => (hA2 b hb).1 (t3 b z), (hA2 b hb).2⟩
        have P3 := Post.mono P2 (show Evo Z' H2 (fun b => Tot φ' b ∨ AT D₀ B b) Z' H2 (fun b => Tot φ3 b ∨ AT D₀ B b) from Evo.refl.sub fun b z => z.imp (t3 b) id)
        -- the tests
        refine t2 σ3 H2 Z' env2 φ3 S3 _ ?_
        cases et : tt env2 with
        | ex x => rw [et] at P3; exact P3.elim
        | no => rw [et] at P3; exact P3.elim
        | ok b env3 =>
          rw [et] at P3
          intro b' H3 Z3 φ4 A3 S4 eb dj3 ev3
          cases (show b = b' from eb)
          have ev3' := ev3.sub (F2 := Tot φ4) fun _ z => .inl z
          have x3 := S3.ext ev3'
          obtain ⟨a4, hA4⟩ := kept ev3' x3 a2 hA3
          have P4 := Post.mono P3 (lift ev3')
          cases b with
          | false =>
            rw [if_neg Bool.false_ne_true]
            simp only [R.noX_ok, Pv.R.bind_ok, if_neg Bool.false_ne_true] at P4
            have S5 := S4.wipe vs
            rw [hwσ] at S5
            exact ⟨_, Z3, _, accV, accD, B, S5, (x'.trans x2).trans x3, a4, fun c hc => ⟨fun ⟨j, z⟩ => (hA4 c hc).1 ⟨j, z.2⟩, (hA4 c hc).2⟩, fun u hu p => wipeE_in hu, P4.mono (Evo.refl.sub fun c z => z.imp (fun ⟨j, z⟩ => ⟨j, z.2⟩) id)⟩
          | true =>
            rw [if_pos rfl]
            simp only [R.noX_ok, Pv.R.bind_ok, if_true] at P4
            refine e2 σ3 H3 Z3 env3 φ4 S4 _ ?_
            cases ee : te env3 with
            | ex x => rw [ee] at P4; exact P4.elim
            | no => rw [ee] at P4; exact P4.elim
            | ok y env4 =>
              rw [ee] at P4
              simp only [R.noX_ok, Pv.R.bind_ok] at P4
              intro yv H5 Z5 φ5 A5 S5 o5 dj5 ev5
              have x5 := S4.ext ev5
              obtain ⟨a5, hA5⟩ := kept ev5 x5 a4 hA4
              have P5 := Post.mono P4 (lift ev5)
              by_cases hy2 : y.2 = m ∧ accD.length < lim
              · rw [if_pos hy2] at P5
                obtain ⟨yd, yk⟩ := y
                obtain ⟨rfl, hz⟩ := hy2
                refine ⟨accV, a5.at', by rw [a5.len]; exact Nat.lt_of_lt_of_le hz (lim_le (Nat.le_refl _)), ?_⟩
                obtain ⟨a6, x6⟩ := a5.snoc (hA5 D₀ (.inl rfl)).2 o5 (fun b hb z => (hA5 b z).1 (.inr hb))
                have S6 := S5.go (Z' := Z5) x6 (fun b u hb h => by
                  rw [upd_ne fun z : b = D₀ => (hA5 D₀ (.inl rfl)).1 (.inl (by rw [← z]; exact hb))]
                  exact h) S5.tnz fun b z => by
                    by_cases q : b = D₀
                    · rw [q, upd_same]; exact Option.some_ne_none _
                    · rw [upd_ne q]; exact S5.zh b z
                have S7 := S6.wipe vs
                rw [hwσ] at S7
                have hAT : ∀ c, AT D₀ (fun i => if i = accV.length then A5 else B i) c → AT D₀ B c ∨ A5 c := fun c hc => by
                  rcases hc with rfl | ⟨j, hc⟩
                  · exact .inl (.inl rfl)
                  · by_cases q : j = accV.length
                    · simp only [if_pos q] at hc; exact .inr hc
                    · simp only [if_neg q] at hc; exact .inl (.inr ⟨j, hc⟩)
                refine ⟨_, Z5, _, _, _, _, S7, ((x'.trans x2).trans x3).trans (x5.trans x6), a6, fun c hc => ?_, fun u hu p => wipeE_in hu, P5.mono ?_⟩
                · rcases hAT c hc with h | h
                  · exact ⟨fun ⟨j, z⟩ => (hA5 c h).1 (.inl ⟨j, z.2⟩), (hA5 c h).2⟩
                  · exact ⟨fun ⟨j, z⟩ => (dj5 c h).1 ⟨j, z.2⟩, (dj5 c h).2⟩
                · refine ⟨fun b u h n => ?_, fun _ z => z, fun _ z => .inl z, fun b z => .inl ?_⟩
                  · rw [upd_ne fun z : b = D₀ => n (.inr (.inl z))]; exact h
                  · rcases z with ⟨j, z⟩ | z
                    · exact .inl (.inl ⟨j, z.2⟩)
                    · rcases hAT b z with h | h
                      · exact .inr h
                      · exact .inl (.inr h)
              · rw [if_neg hy2] at P5; exact P5.elim
    · have e1 : i = ds.length := by omega
      subst e1
      refine .inl ⟨stop, ?_⟩
      rw [List.drop_length] at P'
      simp only [compL, Pv.R.bind_ok] at P'
      -- the slots behind
      refine P' (.ref D₀) H' Z' (fun i c => i ∉ vs ∧ φ' i c) (AT D₀ B) ?_ a.fin (fun c hc => ⟨fun ⟨j, z⟩ => (hA c hc).1 ⟨j, z.2⟩, (hA c hc).2⟩) (Evo.refl.sub fun c z => z.imp (fun ⟨j, z⟩ => ⟨j, z.2⟩) id)
      refine ⟨?_, fun i d k h => ?_, fun i h c ⟨hi, z⟩ => ?_, fun i j c h1 h2 => S'.dj i j c h1.2 h2.2, fun i c h => S'.nz i c h.2, S'.zh, S1.l0, S1.io⟩
      · rw [backE_length, ← S'.len, wipe_length]
      · by_cases hi : i ∈ vs
        · obtain ⟨h1, h2⟩ := backE_in hi h
          simp only at h2
          subst h2
          obtain ⟨w, q1, q2⟩ := S1.slot i d 0 h1
          exact ⟨w, q1, q2.1.ext x', fun c z => z.1 hi⟩
        · rw [backE_out hi] at h
          obtain ⟨w, q1, q2⟩ := S'.slot i d k h
          rw [wipe_out hi] at q1
          exact ⟨w, q1, q2.congr fun c => ⟨fun z => ⟨hi, z⟩, fun z => z.2⟩⟩
      · exact S'.off i (fun p => by have := h p; rwa [backE_out hi] at this) c z
theorem ev_lc {own : List (Str × Nat)} {vs ws : List Nat} {pos : Pos} {fi : En → R (List D)} {g : D → En → Option En} {tt : En → R Bool} {te : En → R (D × Nat)} (m : Nat) (G : Good Γ) (hi : EvI Γ tg iter fi) (ok : BlkOk Γ.X.N Γ.X.env.scope scope own) (hvs : own.map (·.2) = vs) (hws : ∀ i ∈ ws, i ∈ vs)
    (hg : ∀ s H c cl fp, EvG (blkCt Γ scope s H c cl fp) tg ws g) (ht : ∀ s H c cl fp, EvPT (blkCt Γ scope s H c cl fp) ifs tt) (he : ∀ s H c cl fp, EvE (blkCt Γ scope s H c cl fp) elt te) (hs : ∀ x, foldedSetIterable iter Γ.X.env x = pure x := by intro _; rfl) :
    EvE Γ (.ListComp elt [⟨tg, iter, ifs, 0⟩] scope pos) (comp fi g tt te m vs) := by
  obtain ⟨wi, i1, i2⟩ := hi
  obtain ⟨tG, g1, g2⟩ := blk_g hg
  obtain ⟨tT, t1, t2⟩ := blk_t ht
  obtain ⟨tE, e1, e2⟩ := blk_e he
  have p0 := pe_lc (pos := pos) G.calm G.nd i1 ok g1 t1 e1 hs
  rw [hvs] at p0
  exact ⟨_, p0, lc_ev m i2 g2 t2 e2 hws⟩
end
end Pv
end

section
set_option Elab.async false
set_option linter.all false
set_option maxRecDepth 100000
set_option maxHeartbeats 4000000
/-! Pv11: what is changed in place; y = [..]; x op= e; raise; try. -/
namespace Pv
open PySem PySem.Spec PyProof.Rows L2

section
variable {C : RC} {io : List Nat} {σ₀ σ : L2.St} {Z : Fp} {H : Hp} {env : En} {φ : Nat → Fp}
/-- a list or dict that nobody shares is written -/
theorem Ext.upd {a : Addr} {o u : HO} (h : H a = some u) (nz : ¬ Z a) (mu : isM (some u)) : Ext Z H Z (upd H a o) :=
  ⟨fun b w z e => by rw [upd_ne fun q : b = a => nz (by rw [← q]; exact z)]; exact e, fun _ z => z, fun b w e => by rw [upd_ne (ne_of e h fun q => by subst q; exact mu)]; exact e, fun b w v e => by rw [upd_ne (ne_of e h fun q => by subst q; exact mu)]; exact e⟩
theorem Stt.upd (S : Stt C io σ₀ Z σ H env φ) {i : Nat} {a : Addr} {o u : HO} {d : D} {k : Nat} (hv : σ[i]? = some (some (.ref a))) (hi : i < env.length) (h : H a = some u) (mu : isM (some u)) (hφ : φ i a) {A : Fp} (hA : ∀ b, A b → φ i b) (ow : Ow C Z (upd H a o) k (.ref a) d A) :
    Stt C io σ₀ Z σ (upd H a o) (env.set i (some (d, k))) (fun j => if j = i then A else φ j) ∧ Evo Z H (Tot φ) Z (upd H a o) (Tot fun j => if j = i then A else φ j) := by
  have nz := S.nz i a hφ
  have x : Ext Z H Z (L2.upd H a o) := Ext.upd h nz mu
  have Sd := S.drop i
  have S1 := Sd.go x (fun b w ⟨j, hj, z⟩ e => by
    rw [upd_ne fun q : b = a => hj (S.dj j i b z (by rw [q]; exact hφ))]; exact e) (fun b ⟨j, _, z⟩ => S.nz j b z) fun b z => by
      by_cases q : b = a
      · rw [q, upd_same]; exact Option.some_ne_none _
      · rw [upd_ne q]; exact S.zh b z
  have S2 := S1.reput (i := i) (by simpa using hi) hv ow (fun j b hj z y => hj (S.dj j i b z.2 (hA b y))) (fun b z => S.nz i b (hA b z))
  rw [List.set_set] at S2
  have e2 : (fun j => if j = i then A else fun b => j ≠ i ∧ φ j b) = fun j => if j = i then A else φ j := by
    funext j
    by_cases q : j = i
    · rw [if_pos q, if_pos q]
    · rw [if_neg q, if_neg q]
      funext b
      exact propext ⟨fun z => z.2, fun z => ⟨q, z⟩⟩
  rw [e2] at S2
  refine ⟨S2, ⟨fun b w e n => by rw [upd_ne fun q : b = a => n ⟨i, by rw [q]; exact hφ⟩]; exact e, fun _ z => z, fun _ z => .inl z, fun b ⟨j, z⟩ => .inl ?_⟩⟩
  by_cases q : j = i
  · simp only [if_pos q] at z; exact ⟨i, hA b z⟩
  · simp only [if_neg q] at z; exact ⟨j, z⟩
theorem Ow.lst_at {k : Nat} {v : V} {ds : List D} {A : Fp} (h : Ow C Z H k v (.lst ds) A) : ∃ a xs, v = .ref a ∧ H a = some (.lst xs) ∧ xs.length = ds.length := by
  cases k with
  | zero => cases h.1 with | lst s z r => exact ⟨_, _, rfl, s, r.length⟩
  | succ k =>
    rcases h with ⟨m, _⟩ | ⟨b, xs, ds', B, rfl, e0, hb, hl, _⟩ | ⟨_, _, _, _, _, e, _⟩
    · cases m
    · cases e0; exact ⟨b, xs, rfl, hb, hl⟩
    · cases e
end

section
variable {Γ : Ct} {x : Str} {p pos apos cpos : Pos} {e a b : Expr} {es : List Expr}
/-- y = [..] on one line -/
theorem es_setLc {elt tg iter : Expr} {ifs : List Expr} {scope : Scope} {i : Nat} {y : Str} {py spos : Pos} {own : List (Str × Nat)} {vs ws : List Nat} {fi : En → R (List D)} {g : D → En → Option En} {tt : En → R Bool} {te : En → R (D × Nat)} (m : Nat) (G : Good Γ) (hy : Γ.X.N[i]? = some y) (hyl : Γ.X.env.scope.names.lookup y = some .local) (hio : i ∉ Γ.io)
    (hsw : swapsWith (.ListComp elt [⟨tg, iter, ifs, 0⟩] scope pos) (some (.Name y py)) spos.line Γ.X.env = pure true)
    (hi : EvI Γ tg iter fi) (ok : BlkOk Γ.X.N Γ.X.env.scope scope own) (hvs : own.map (·.2) = vs) (hws : ∀ i ∈ ws, i ∈ vs)
    (hg : ∀ s H c cl fp, EvG (blkCt Γ scope s H c cl fp) tg ws g) (ht : ∀ s H c cl fp, EvPT (blkCt Γ scope s H c cl fp) ifs tt) (he : ∀ s H c cl fp, EvE (blkCt Γ scope s H c cl fp) elt te) (hs : ∀ x, foldedSetIterable iter Γ.X.env x = pure x := by intro _; rfl) :
    EvS Γ (.Assign [.Name y py] (.ListComp elt [⟨tg, iter, ifs, 0⟩] scope pos) spos) (setS i (comp fi g tt te m vs)) := by
  obtain ⟨wi, i1, i2⟩ := hi
  obtain ⟨tG, g1, g2⟩ := blk_g hg
  obtain ⟨tT, t1, t2⟩ := blk_t ht
  obtain ⟨tE, e1, e2⟩ := blk_e he
  have p0 := ps_setLc (i := i) (py := py) (spos := spos) (pos := pos) G.calm G.nd hy hyl hsw i1 ok g1 t1 e1 hs
  rw [hvs] at p0
  refine ⟨_, p0, fun σ H Z env φ S Dn P => ?_⟩
  refine (lc_ev m i2 g2 t2 e2 hws).then S P fun p env1 v H1 Z1 φ1 A e1 S1 o dj ev P1 => ?_
  exact put_ok hio S1 o dj P1
/-! ### xs.append(e), xs.extend(e), xs.pop() -/
def isLst (s : Option Sl) : Bool := match s with
  | some (some (.lst _, _)) => true
  | _ => false
def appS (i : Nat) (fe : En → R D) : En → SR := fun env => if isLst env[i]? = true then (fe env).then fun d env1 => match env1[i]? with
    | some (some (.lst ds, 1)) => if ds.length < lim then .nx (env1.set i (some (.lst (ds ++ [d]), 1))) else .no
    | _ => .no
  else .no
theorem isLst_at {σ : L2.St} {Z : Fp} {H : Hp} {env : En} {φ : Nat → Fp} (S : SttC Γ Z σ H env φ) {i : Nat} (h : isLst env[i]? = true) : ∃ a xs, σ[i]? = some (some (.ref a)) ∧ H a = some (.lst xs) := by
  unfold isLst at h
  split at h
  · rename_i ds k hi
    obtain ⟨v, hv, o⟩ := S.slot i _ _ hi
    obtain ⟨a, xs, rfl, ha, _⟩ := o.lst_at
    exact ⟨a, xs, hv, ha⟩
  · cases h
theorem es_app {i : Nat} {fe : En → R D} (G : Good Γ) (hN : Γ.X.N[i]? = some x) (hv : Vis Γ.X.env.scope x) (he : EvV Γ e fe) (hd : (x == ("__debug__" : Str)) = false := by decide) (hcd : (x == ("__classdict__" : Str)) = false := by decide)
    (hfew : ((backTo cpos (starEach [e] Γ.X.env)).all (fun x => !x.1) && (backToKw cpos (keywordEach [] Γ.X.env)).all (fun x => x.1.isSome) && decide ([e].length + ([] : List Keyword).length + (if ([] : List Keyword).isEmpty then 0 else 1) < 30)) = true := by rfl)
    (hline : (apos.endLine == cpos.line) = true := by rfl) (hs : starEach [e] Γ.X.env = (false, eval e Γ.X.env) :: starEach [] Γ.X.env := by rfl) (hsw : swapsWith (.Call (.Attribute (.Name x p) "append" apos) [e] [] cpos) none pos.line Γ.X.env = pure false := by rfl) :
    EvS Γ (.Expr (.Call (.Attribute (.Name x p) "append" apos) [e] [] cpos) pos) (appS i fe) := by
  obtain ⟨t, h1, h2⟩ := he
  refine ⟨_, ps_expr (pe_bm PySem.F.plainAttrs_list PySem.F.slot_list_append PySem.F.type_list_append mt_append (pe_var hN hv hd hcd) (pa_cons h1 pa_nil hs) rfl hfew hline hs rfl) hsw, fun σ H Z env φ S Dn P => ?_⟩
  unfold appS at P
  split at P
  · rename_i hl
    obtain ⟨a, xs, hv0, ha0⟩ := isLst_at S hl
    refine ⟨.ref a, hv0, .inl ⟨rfl, xs, SqL.of ha0⟩, ?_⟩
    refine h2.then S P fun d env1 w H1 Z1 φ1 A e1 S1 q1 dj1 ev1 P1 => ?_
    have P2 := P1.mono Evo.dropA
    split at P2
    · rename_i ds hds
      split at P2
      · rename_i hz
        obtain ⟨v, hv1, o⟩ := S1.slot i _ _ hds
        rw [hv0] at hv1; cases hv1
        obtain ⟨a', ys, e0, ha, r, hφ⟩ := o.lst_inv
        cases e0
        refine ⟨a, ys, w, rfl, rfl, ha, by rw [r.length]; exact Nat.lt_of_lt_of_le hz (lim_le (Nat.le_refl _)), ?_⟩
        have x : Ext Z1 H1 Z1 (upd H1 a (.lst (ys ++ [w]))) := Ext.upd ha (S1.nz i a ((hφ a).mpr rfl)) trivial
        obtain ⟨S2, ev2⟩ := S1.upd (o := .lst (ys ++ [w])) (A := fun b => b = a) hv0 (List.getElem?_eq_some_iff.mp hds).1 ha trivial ((hφ a).mpr rfl) (fun b hb => (hφ b).mpr hb) (Ow.lst1 upd_same ((r.snoc q1).ext x))
        exact PostS.here (P2.mono ev2) S2
      · exact P2.elim
    · exact P2.elim
  · exact P.elim
def extS (i : Nat) (fe : En → R D) : En → SR := fun env => if isLst env[i]? = true then (fe env).then fun d env1 => match env1[i]?, d with
    | some (some (.lst ds, 1)), .lst fs => if ds.length + fs.length ≤ lim then .nx (env1.set i (some (.lst (ds ++ fs), 1))) else .no
    | _, _ => .no
  else .no
theorem es_ext {i : Nat} {fe : En → R D} (G : Good Γ) (hN : Γ.X.N[i]? = some x) (hv : Vis Γ.X.env.scope x) (he : EvV Γ e fe) (hd : (x == ("__debug__" : Str)) = false := by decide) (hcd : (x == ("__classdict__" : Str)) = false := by decide)
    (hfew : ((backTo cpos (starEach [e] Γ.X.env)).all (fun x => !x.1) && (backToKw cpos (keywordEach [] Γ.X.env)).all (fun x => x.1.isSome) && decide ([e].length + ([] : List Keyword).length + (if ([] : List Keyword).isEmpty then 0 else 1) < 30)) = true := by rfl)
    (hline : (apos.endLine == cpos.line) = true := by rfl) (hs : starEach [e] Γ.X.env = (false, eval e Γ.X.env) :: starEach [] Γ.X.env := by rfl) (hsw : swapsWith (.Call (.Attribute (.Name x p) "extend" apos) [e] [] cpos) none pos.line Γ.X.env = pure false := by rfl) :
    EvS Γ (.Expr (.Call (.Attribute (.Name x p) "extend" apos) [e] [] cpos) pos) (extS i fe) := by
  obtain ⟨t, h1, h2⟩ := he
  refine ⟨_, ps_expr (pe_bm PySem.F.plainAttrs_list PySem.F.slot_list_extend PySem.F.type_list_extend mt_extend (pe_var hN hv hd hcd) (pa_cons h1 pa_nil hs) rfl hfew hline hs rfl) hsw, fun σ H Z env φ S Dn P => ?_⟩
  unfold extS at P
  split at P
  · rename_i hl
    obtain ⟨a, xs, hv0, ha0⟩ := isLst_at S hl
    refine ⟨.ref a, hv0, .inl ⟨rfl, xs, SqL.of ha0⟩, ?_⟩
    refine h2.then S P fun d env1 w H1 Z1 φ1 A e1 S1 q1 dj1 ev1 P1 => ?_
    have P2 := P1.mono Evo.dropA
    split at P2
    · rename_i ds fs hds
      split at P2
      · rename_i hz
        obtain ⟨v, hv1, o⟩ := S1.slot i _ _ hds
        rw [hv0] at hv1; cases hv1
        obtain ⟨a', ys, e0, ha, r, hφ⟩ := o.lst_inv
        cases e0
        have q1 : Sh Γ.C Z1 H1 w (.lst fs) := q1
        cases q1 with
        | @lst b us _ hb zb rb =>
          refine ⟨a, b, ys, us, rfl, rfl, ha, hb, by rw [r.length, rb.length]; exact lim_le hz, ?_⟩
          have x : Ext Z1 H1 Z1 (upd H1 a (.lst (ys ++ us))) := Ext.upd ha (S1.nz i a ((hφ a).mpr rfl)) trivial
          obtain ⟨S2, ev2⟩ := S1.upd (o := .lst (ys ++ us)) (A := fun b => b = a) hv0 (List.getElem?_eq_some_iff.mp hds).1 ha trivial ((hφ a).mpr rfl) (fun b hb => (hφ b).mpr hb) (Ow.lst1 upd_same ((r.append rb).ext x))
          exact PostS.here (P2.mono ev2) S2
      · exact P2.elim
    · exact P2.elim
  · exact P.elim

/-! ### found[x].append(y), x and y names or constants -/
/-- a value that is there without a step -/
def EvK (Γ : Ct) (e : Expr) (f : En → Option D) : Prop := ∃ t, PE Γ.X e t ∧ ∀ σ H Z env φ, SttC Γ Z σ H env φ → ∀ d, f env = some d → ∀ Q : VK, (∀ v, Sh Γ.C Z H v d → Q v H) → t σ H Q
def nmK (i : Nat) : En → Option D := fun env => match env[i]? with
  | some (some (d, k)) => if k = 0 ∨ d.isMut = false then some d else none
  | _ => none
theorem ek_name {i : Nat} (hN : Γ.X.N[i]? = some x) (hv : Vis Γ.X.env.scope x) (hd : (x == ("__debug__" : Str)) = false := by decide) (hcd : (x == ("__classdict__" : Str)) = false := by decide) : EvK Γ (.Name x pos) (nmK i) := by
  refine ⟨_, pe_var hN hv hd hcd, fun σ H Z env φ S d h Q q => ?_⟩
  unfold nmK at h
  split at h
  · rename_i d' k hi
    split at h
    · rename_i hk
      cases h
      obtain ⟨v, hv1, o⟩ := S.slot i d k hi
      refine ⟨v, hv1, q v ?_⟩
      rcases hk with rfl | hm
      · exact o.1
      · exact o.im_inv hm
    · cases h
  · cases h
theorem ek_int {i : Int} {j} : EvK Γ (.Constant (.int i) j pos) (fun _ => some (.int i)) := ⟨_, pe_int, fun σ H Z env φ S d h Q q => by cases h; exact q _ (.int i)⟩
def app2S (i : Nat) (fi fe : En → Option D) : En → SR := fun env => match env[i]?, fi env, fe env with
  | some (some (.lst dss, 2)), some (.int j), some d => (match ixN dss.length j with
    | some m => (match dss[m]? with
      | some (.lst ds) => if ds.length < lim then .nx (env.set i (some (.lst (dss.set m (.lst (ds ++ [d]))), 2))) else .no
      | _ => .no)
    | none => .no)
  | _, _, _ => .no
theorem es_app2 {i : Nat} {sp : Pos} {fi fe : En → Option D} {ie : Expr} (G : Good Γ) (hN : Γ.X.N[i]? = some x) (hv : Vis Γ.X.env.scope x) (hi : EvK Γ ie fi) (he : EvK Γ e fe) (hd : (x == ("__debug__" : Str)) = false := by decide) (hcd : (x == ("__classdict__" : Str)) = false := by decide) (hpi : PlainIx ie := by exact fun _ _ => rfl)
    (hfew : ((backTo cpos (starEach [e] Γ.X.env)).all (fun x => !x.1) && (backToKw cpos (keywordEach [] Γ.X.env)).all (fun x => x.1.isSome) && decide ([e].length + ([] : List Keyword).length + (if ([] : List Keyword).isEmpty then 0 else 1) < 30)) = true := by rfl)
    (hbase : attributeBase (.Subscript (.Name x p) ie sp) "append" Γ.X.env (eval (.Subscript (.Name x p) ie sp) Γ.X.env) = eval (.Subscript (.Name x p) ie sp) Γ.X.env := by rfl)
    (hline : (apos.endLine == cpos.line) = true := by rfl) (hs : starEach [e] Γ.X.env = (false, eval e Γ.X.env) :: starEach [] Γ.X.env := by rfl) (hsw : swapsWith (.Call (.Attribute (.Subscript (.Name x p) ie sp) "append" apos) [e] [] cpos) none pos.line Γ.X.env = pure false := by rfl) :
    EvS Γ (.Expr (.Call (.Attribute (.Subscript (.Name x p) ie sp) "append" apos) [e] [] cpos) pos) (app2S i fi fe) := by
  obtain ⟨ti, i1, i2⟩ := hi
  obtain ⟨t, h1, h2⟩ := he
  refine ⟨_, ps_expr (pe_bm PySem.F.plainAttrs_list PySem.F.slot_list_append PySem.F.type_list_append mt_append (pe_ix ix_list (pe_var hN hv hd hcd) i1 hpi) (pa_cons h1 pa_nil hs) hbase hfew hline hs rfl) hsw, fun σ H Z env φ S Dn P => ?_⟩
  unfold app2S at P
  split at P
  · rename_i dss j d hd1 hi1 he1
    split at P
    · rename_i m hm
      split at P
      · rename_i ds hds
        split at P
        · rename_i hz
          obtain ⟨v, hv1, o⟩ := S.slot i _ _ hd1
          have o0 := o
          rcases o with ⟨mm, _⟩ | ⟨A, xs, ds', B, rfl, e0, hA, hl, hc, hdj, hna, hoff, hφ⟩ | ⟨_, _, _, _, _, e, _⟩
          · cases mm
          · cases e0
            have hmx : m < xs.length := by rw [hl]; exact (List.getElem?_eq_some_iff.mp hds).1
            have hcm := hc m xs[m] (.lst ds) (List.getElem?_eq_getElem hmx) hds
            obtain ⟨q, us, eq, hq, r, hB⟩ := hcm.lst_inv
            refine ⟨.ref A, hv1, i2 σ H Z env φ S _ hi1 _ fun w hw => ?_⟩
            cases hw with
            | int _ =>
              refine ⟨A, xs, j, xs[m], rfl, rfl, SqL.of hA, ?_, ?_⟩
              · unfold atI
                rw [hl, hm]
                exact List.getElem?_eq_getElem hmx
              rw [eq]
              refine ⟨.inl ⟨rfl, us, SqL.of hq⟩, ?_⟩
              refine h2 σ H Z env φ S d he1 _ fun y hy => ?_
              have Bq : B m q := (hB q).mpr rfl
              have φq : φ i q := (hφ q).mpr (.inr ⟨m, Bq⟩)
              have nq : q ≠ A := fun z => hna m (by rw [← z]; exact Bq)
              refine ⟨q, us, y, rfl, rfl, hq, by rw [r.length]; exact Nat.lt_of_lt_of_le hz (lim_le (Nat.le_refl _)), ?_⟩
              have x : Ext Z H Z (upd H q (.lst (us ++ [y]))) := Ext.upd hq (S.nz i q φq) trivial
              have ow : Ow Γ.C Z (upd H q (.lst (us ++ [y]))) 2 (.ref A) (.lst (dss.set m (.lst (ds ++ [d])))) (φ i) := by
                refine .inr (.inl ⟨A, xs, _, B, rfl, rfl, by rw [upd_ne (Ne.symm nq)]; exact hA, by rw [List.length_set]; exact hl, fun l u f h1 h2 => ?_, hdj, hna, hoff, hφ⟩)
                by_cases hlm : l = m
                · subst hlm
                  rw [List.getElem?_set_self (by rw [← hl]; exact hmx)] at h2
                  cases h2
                  rw [List.getElem?_eq_getElem hmx] at h1
                  cases h1
                  rw [eq]
                  exact (Ow.lst1 upd_same ((r.snoc hy).ext x)).congr fun c => (hB c).symm
                · rw [List.getElem?_set_ne (Ne.symm hlm)] at h2
                  exact (hc l u f h1 h2).ext x fun c w z h => by
                    rw [upd_ne fun z2 : c = q => hlm (hdj l m c z (by rw [z2]; exact Bq))]; exact h
              -- the list of lists stands, its item was changed
              have Sd := S.drop i
              have S1 := Sd.go x (fun c w ⟨l, hl2, z⟩ h => by
                rw [upd_ne fun z2 : c = q => hl2 (S.dj l i c z (by rw [z2]; exact φq))]; exact h) (fun c ⟨l, _, z⟩ => S.nz l c z) fun c z => by
                  by_cases z2 : c = q
                  · rw [z2, upd_same]; exact Option.some_ne_none _
                  · rw [upd_ne z2]; exact S.zh c z
              have S2 := S1.reput (i := i) (by simpa using (List.getElem?_eq_some_iff.mp hd1).1) hv1 ow (fun l c hl2 z y => hl2 (S.dj l i c z.2 y)) (fun c z => S.nz i c z)
              rw [List.set_set] at S2
              refine P σ _ Z _ S2 ⟨fun c w h n => by rw [upd_ne fun z : c = q => n ⟨i, by rw [z]; exact φq⟩]; exact h, fun _ z => z, fun _ z => .inl z, fun c ⟨l, z⟩ => .inl ?_⟩
              by_cases z2 : l = i
              · simp only [if_pos z2] at z; exact ⟨i, z⟩
              · simp only [if_neg z2] at z; exact ⟨l, z.2⟩
          · cases e
        · exact P.elim
      · exact P.elim
    · exact P.elim
  · exact P.elim

/-! ### o[i] = e -/
def putVs (ks : List Key) (vs : List D) (k : Key) (d : D) : List D := (ks.zip vs).map fun q => if q.1 = k then d else q.2
def putD (d : D) (di v : D) : Option D :=
  match d with
  | .lst ds => match di with
    | .int j => (ixN ds.length j).map fun m => .lst (ds.set m v)
    | _ => none
  | .dic ks vs => (keyD di).bind fun k => if ks.length < lim then some (if hasK ks k then .dic ks (putVs ks vs k v) else .dic (ks ++ [k]) (vs ++ [v])) else none
  | _ => none
abbrev rSetA : TSet := fun o i v H Q => rSetL o i v H Q ∨ rSetD o i v H Q
theorem pset_or {X : Cx} {r r' : TSet} (h : PSet X r) (h' : PSet X r') : PSet X (fun o i v H Q => r o i v H Q ∨ r' o i v H Q) := by
  intro pins s σ H o i v ov iv u Q I ro ri rv q
  rcases q with q | q
  · exact h pins s σ H o i v ov iv u Q I ro ri rv q
  · exact h' pins s σ H o i v ov iv u Q I ro ri rv q
def sItS (i : Nat) (fe fi : En → R D) : En → SR := fun env => (fe env).then fun v env1 => match env1[i]? with
  | some (some _) => (fi env1).then fun di env2 => match env2[i]? with
    | some (some (d, 1)) => (match putD d di v with
      | some d' => .nx (env2.set i (some (d', 1)))
      | none => .no)
    | _ => .no
  | _ => .no
theorem put_zip {ks : List Key} {xs : List V} {k : Key} {y : V} (hl : ks.length = xs.length) : putK (ks.zip xs) k y = if hasK ks k = true then ks.zip ((ks.zip xs).map fun q => if q.1 = k then y else q.2) else (ks ++ [k]).zip (xs ++ [y]) := by
  unfold putK
  have e : ((ks.zip xs).any fun kv => decide (kv.1 = k)) = hasK ks k := by
    have := cval ks xs k hl
    rw [← this]
    exact valV_any k (ks.zip xs)
  rw [e]
  by_cases h : hasK ks k = true
  · rw [if_pos h, if_pos h]
    clear e h
    induction ks generalizing xs with
    | nil => rfl
    | cons j ks ih =>
      cases xs with
      | nil => rfl
      | cons x xs =>
        rw [List.zip_cons_cons, List.map_cons, List.map_cons, List.zip_cons_cons]
        rw [ih (by simpa using hl)]
        by_cases q : j = k
        · simp [q]
        · simp [q]
  · rw [if_neg h, if_neg h]
    rw [List.zip_append hl]
    rfl
theorem putVs_sh {C : RC} {Z : Fp} {H : Hp} {ks : List Key} {xs : List V} {ds : List D} {k : Key} {y : V} {d : D} (r : ShL C Z H xs ds) (h : Sh C Z H y d) (hl : ks.length = xs.length) : ShL C Z H ((ks.zip xs).map fun q => if q.1 = k then y else q.2) (putVs ks ds k d) := by
  unfold putVs
  induction ks generalizing xs ds with
  | nil => exact .nil
  | cons j ks ih =>
    cases r with
    | nil => exact .nil
    | cons h1 r =>
      rw [List.zip_cons_cons, List.zip_cons_cons, List.map_cons, List.map_cons]
      refine .cons ?_ (ih r (by simpa using hl))
      by_cases q : j = k
      · simp only [q, if_true]; exact h
      · simp only [q, if_false]; exact h1
theorem es_sub {i : Nat} {ie : Expr} {fe fi : En → R D} {k : Nat} (G : Good Γ) (hr : Room k Γ.X.A) (hN : Γ.X.N[i]? = some x) (hv : Vis Γ.X.env.scope x) (he : EvV Γ e fe) (hi : EvV Γ ie fi) (hd : (x == ("__debug__" : Str)) = false := by decide) (hcd : (x == ("__classdict__" : Str)) = false := by decide)
    (ha : ∀ v, assign (.Subscript (.Name x p) ie apos) Γ.X.env v = (do
      let ov ← holding [v] (eval (.Name x p) Γ.X.env)
      let iv ← holding [v, ov] (eval ie Γ.X.env)
      standAt apos
      holding [v, ov, iv] (setItem ov iv v)
      release [v, ov, iv] []) := by intro _; rfl)
    (hs : swapsWithSole [.Subscript (.Name x p) ie apos] e pos.line Γ.X.env = pure false := by rfl) (hw : swappedStores [.Subscript (.Name x p) ie apos] e Γ.X.env = pure none := by rfl)
    (h1 : (assignEach [.Subscript (.Name x p) ie apos] Γ.X.env).map (·.2) = [assign (.Subscript (.Name x p) ie apos) Γ.X.env] := by rfl) :
    EvS Γ (.Assign [.Subscript (.Name x p) ie apos] e pos) (sItS i fe fi) := by
  obtain ⟨t, a1, a2⟩ := he
  obtain ⟨u, b1, b2⟩ := hi
  refine ⟨_, ps_asg a1 (pg_sub (pe_var hN hv hd hcd) b1 (pset_or set_list (set_dict (hu_of hr))) ha) hs hw h1, fun σ H Z env φ S Dn P => ?_⟩
  refine a2.then S P fun v env1 vv H1 Z1 φ1 A e1 S1 q1 dj1 ev1 P1 => ?_
  have P1' := P1.mono Evo.dropA
  split at P1'
  · rename_i p0 hp0
    obtain ⟨ov, hov, _⟩ := S1.slot i p0.1 p0.2 hp0
    refine ⟨ov, hov, ?_⟩
    refine b2.then S1 P1' fun di env2 iv H2 Z2 φ2 B e2 S2 q2 dj2 ev2 P2 => ?_
    have P2' := P2.mono Evo.dropA
    have q1' : Sh Γ.C Z2 H2 vv v := Sh.ext (S1.ext ev2) v vv q1
    split at P2'
    · rename_i d hd2
      obtain ⟨ov', hov', o⟩ := S2.slot i _ _ hd2
      rw [hov] at hov'; cases hov'
      have hi2 := (List.getElem?_eq_some_iff.mp hd2).1
      cases ep : putD d di v with
      | none => rw [ep] at P2'; exact P2'.elim
      | some d' =>
        rw [ep] at P2'
        simp only at P2'
        unfold putD at ep
        split at ep
        · rename_i ds
          split at ep
          · rename_i j
            obtain ⟨m, hm, rfl⟩ := Option.map_eq_some_iff.mp ep
            obtain ⟨a, ys, rfl, ha2, r, hφ⟩ := o.lst_inv
            have q2 : Sh Γ.C Z2 H2 iv (.int j) := q2
            cases q2
            refine .inl ⟨a, ys, j, m, rfl, rfl, ha2, by rw [r.length]; exact hm, ?_⟩
            have x : Ext Z2 H2 Z2 (upd H2 a (.lst (ys.set m vv))) := Ext.upd ha2 (S2.nz i a ((hφ a).mpr rfl)) trivial
            obtain ⟨S3, ev3⟩ := S2.upd (o := .lst (ys.set m vv)) (A := fun b => b = a) hov hi2 ha2 trivial ((hφ a).mpr rfl) (fun b hb => (hφ b).mpr hb) (Ow.lst1 upd_same ((ShL.set q1' m r).ext x))
            exact PostS.here (P2'.mono ev3) S3
          · cases ep
        · rename_i ks vs
          obtain ⟨key, hk, ep⟩ := Option.bind_eq_some_iff.mp ep
          split at ep
          · rename_i hz
            obtain ⟨a, ys, rfl, ha2, hl, r, hφ⟩ := o.dic_inv
            have ei := keyD_eq hk (Rd1.sh (C := Γ.C) q2)
            subst ei
            have hlen : (ks.zip ys).length < sizeLine := by rw [List.length_zip, hl, Nat.min_self, ← hl]; exact Nat.lt_of_lt_of_le hz (lim_le (Nat.le_refl _))
            refine .inr ⟨a, _, rfl, DPut.k ha2 hlen, ?_⟩
            have pz := put_zip (k := key) (y := vv) hl
            by_cases hh : hasK ks key = true
            · rw [if_pos hh] at ep pz
              cases ep
              rw [pz]
              have x : Ext Z2 H2 Z2 (upd H2 a (.dK (ks.zip ((ks.zip ys).map fun q => if q.1 = key then vv else q.2)))) := Ext.upd ha2 (S2.nz i a ((hφ a).mpr rfl)) trivial
              have r2 := putVs_sh (k := key) r q1' hl
              obtain ⟨S3, ev3⟩ := S2.upd (o := .dK (ks.zip ((ks.zip ys).map fun q => if q.1 = key then vv else q.2))) (A := fun b => b = a) hov hi2 ha2 trivial ((hφ a).mpr rfl) (fun b hb => (hφ b).mpr hb)
                (Ow.dic1 upd_same (by rw [List.length_map, List.length_zip, hl, Nat.min_self]) (r2.ext x))
              exact PostS.here (P2'.mono ev3) S3
            · rw [if_neg hh] at ep pz
              cases ep
              rw [pz]
              have x : Ext Z2 H2 Z2 (upd H2 a (.dK ((ks ++ [key]).zip (ys ++ [vv])))) := Ext.upd ha2 (S2.nz i a ((hφ a).mpr rfl)) trivial
              obtain ⟨S3, ev3⟩ := S2.upd (o := .dK ((ks ++ [key]).zip (ys ++ [vv]))) (A := fun b => b = a) hov hi2 ha2 trivial ((hφ a).mpr rfl) (fun b hb => (hφ b).mpr hb)
                (Ow.dic1 upd_same (by rw [List.length_append, List.length_append, hl]; rfl) ((r.snoc q1').ext x))
              exact PostS.here (P2'.mono ev3) S3
          · cases ep
        · cases ep
    · exact P2'.elim
  · exact P1'.elim

/-! ### x op= e -/
def augS (g : D → D → Option (D × Nat)) (i : Nat) (fe : En → R D) : En → SR := fun env => match env[i]? with
  | some (some (d, _)) => if d.isMut = false then (fe env).then fun e env1 => (match g d e with
    | some q => putE env1 i q
    | none => .no) else .no
  | _ => .no
theorem es_aug {i : Nat} {fe : En → R D} {op : Operator} {g : D → D → Option (D × Nat)} {r : R2} (G : Good Γ) (ho : OpR Γ.X (inplaceOp op) r) (hD : Does2 Γ g r) (hi : Γ.X.N[i]? = some x) (hx : Loc Γ.X.env.scope x) (hio : i ∉ Γ.io) (he : EvV Γ e fe)
    (hf : Γ.X.fn x = true ∨ Γ.X.env.scope.names.lookup x = some .local := by first | exact .inl rfl | exact .inr rfl | assumption) : EvS Γ (.AugAssign (.Name x p) op e pos) (augS g i fe) := by
  obtain ⟨t, a1, a2⟩ := he
  refine ⟨_, ps_aug G.nd hi hx a1 (op := op) (ti := r) (fun pins s σ H x y v u Q I rx ry h => ho pins s σ H x y v u Q I rx ry h) hf, fun σ H Z env φ S Dn P => ?_⟩
  unfold augS at P
  split at P
  · rename_i d k hd
    split at P
    · rename_i hm
      obtain ⟨v, hv, o⟩ := S.slot i d k hd
      have sh := o.im_inv hm
      refine ⟨v, hv, ?_⟩
      refine a2.then S P fun e env1 w H1 Z1 φ1 A e1 S1 q1 dj1 ev1 P1 => ?_
      have P2 := P1.mono Evo.dropA
      cases eg : g d e with
      | none => rw [eg] at P2; exact P2.elim
      | some q =>
        rw [eg] at P2
        refine hD σ H1 Z1 env1 φ1 S1 v w d e q (.sh (Sh.ext (S.ext (ev1.sub (F2 := Tot φ1) fun _ z => .inl z)) d v sh)) (.sh q1) eg _ ?_
        exact fun b H' Z' φ' B S' ob dj ev => put_ok hio S' ob dj (PostS.mono P2 ev)
    · exact P.elim
  · exact P.elim
abbrev rAddI : R2 := fun x y H Q => rI0 (fun i j => .int (i + j)) x y H Q
def iaddD : D → D → Option (D × Nat)
  | .int i, .int j => some (.int (i + j), 0)
  | _, _ => none
def imulD : D → D → Option (D × Nat)
  | .int i, .int j => if mulOk i j then some (.int (i * j), 0) else none
  | _, _ => none
theorem iop_mulZ {X : Cx} : OpR X (inplaceOp .Mult) rMulZ := by
  intro pins s σ H x y v u Q I rx ry h
  obtain ⟨i, j, rfl, rfl, hc, q⟩ := h
  obtain ⟨t, rfl⟩ := rx
  obtain ⟨t', rfl⟩ := ry
  exact imul_int ⟨.int _, H, I.tok _, ⟨_, rfl⟩, q⟩ hc
theorem does_iadd : Does2 Γ iaddD (rI0 fun i j => .int (i + j)) := by
  intro σ H Z env φ S x y d e p hx hy hg Q P
  unfold iaddD at hg
  split at hg
  · cases hg
    rw [hx.intI, hy.intI]
    exact ⟨_, _, rfl, rfl, Post.here P S (Ow.sh (.int _))⟩
  · cases hg
theorem does_imul : Does2 Γ imulD rMulZ := by
  intro σ H Z env φ S x y d e p hx hy hg Q P
  unfold imulD at hg
  split at hg
  · split at hg
    · rename_i hz
      cases hg
      rw [hx.intI, hy.intI]
      exact ⟨_, _, rfl, rfl, mulOk.ok hz, Post.here P S (Ow.sh (.int _))⟩
    · cases hg
  · cases hg
theorem es_iadd {i : Nat} {fe : En → R D} (G : Good Γ) (hi : Γ.X.N[i]? = some x) (hx : Loc Γ.X.env.scope x) (hio : i ∉ Γ.io) (he : EvV Γ e fe) (hf : Γ.X.fn x = true ∨ Γ.X.env.scope.names.lookup x = some .local := by first | exact .inl rfl | exact .inr rfl | assumption) : EvS Γ (.AugAssign (.Name x p) .Add e pos) (augS iaddD i fe) := es_aug G iop_add does_iadd hi hx hio he hf
theorem es_isub {i : Nat} {fe : En → R D} (G : Good Γ) (hi : Γ.X.N[i]? = some x) (hx : Loc Γ.X.env.scope x) (hio : i ∉ Γ.io) (he : EvV Γ e fe) (hf : Γ.X.fn x = true ∨ Γ.X.env.scope.names.lookup x = some .local := by first | exact .inl rfl | exact .inr rfl | assumption) : EvS Γ (.AugAssign (.Name x p) .Sub e pos) (augS subD i fe) := es_aug G iop_sub does_sub hi hx hio he hf
theorem es_imul {i : Nat} {fe : En → R D} (G : Good Γ) (hi : Γ.X.N[i]? = some x) (hx : Loc Γ.X.env.scope x) (hio : i ∉ Γ.io) (he : EvV Γ e fe) (hf : Γ.X.fn x = true ∨ Γ.X.env.scope.names.lookup x = some .local := by first | exact .inl rfl | exact .inr rfl | assumption) : EvS Γ (.AugAssign (.Name x p) .Mult e pos) (augS imulD i fe) := es_aug G iop_mulZ does_imul hi hx hio he hf
theorem es_idiv {i : Nat} {fe : En → R D} (G : Good Γ) (hi : Γ.X.N[i]? = some x) (hx : Loc Γ.X.env.scope x) (hio : i ∉ Γ.io) (he : EvV Γ e fe) (hf : Γ.X.fn x = true ∨ Γ.X.env.scope.names.lookup x = some .local := by first | exact .inl rfl | exact .inr rfl | assumption) : EvS Γ (.AugAssign (.Name x p) .FloorDiv e pos) (augS fdivD i fe) := es_aug G iop_divZ does_fdiv hi hx hio he hf

/-! ### raise -/
/-- an error class without an __init__ of its own: its number, its facts -/
structure ExcC (Γ : Ct) (x : Str) (c : Nat) (a : Addr) : Prop where
  g : Γ.X.mg x = some (.ref a)
  k : PySem.W.keepIn Γ.X.K (.ref a) = true
  q : PySem.W.excIn Γ.X.K a [.type "ValueError", .type "Exception", .type "BaseException", .type "object"] "ValueError.__new__" = true
  r : Raises Γ.X (.ref a)
  n : Γ.C.ca c = some a
def raiseS (c : Nat) : En → SR := fun _ => .ex (.mk c [])
theorem es_raise {c : Nat} {a0 : Addr} {m : Str} {j : Nat} {p2 : Pos} (G : Good Γ) (E : ExcC Γ x c a0) (hg : Gl Γ.X x) (hdb : (x == ("__debug__" : Str)) = false := by decide) : EvS Γ (.Raise (some (.Call (.Name x p) [.Constant (.str m) j p2] [] cpos)) none pos) (raiseS c) := by
  refine ⟨_, ps_raise G.calm G.tk (pmk_own PySem.F.excBase_ValueError E.q E.g E.k E.r hg hdb), fun σ H Z env φ S Dn P => ?_⟩
  exact P σ S.io S.l0 (.ref a0) none H Z (Evo.refl.sub fun _ z => z.elim) S.zh ⟨a0, E.n, rfl, .inl rfl⟩
end
end Pv
end

section
set_option Elab.async false
set_option linter.all false
set_option maxRecDepth 100000
set_option maxHeartbeats 4000000
/-! Pv12: try .. except X: suite (the first clause takes what comes); the end of a law. -/
namespace Pv
open PySem PySem.Spec PyProof.Rows L2

/-- what the first clause wishes of an exception of the body -/
def wFst (K : PySem.W.Frag) (c : Value) (ts : Addr → Value → Option Addr → TS) (D : Ends) : WX := fun cls d σ H => PySem.W.exmOne K cls c = some true ∧ ∀ a, H a = none → ts a cls d D σ H
section
variable {X : Cx} {body : List Stmt} {pos : Pos} {tb : WX → TS}
theorem ps_try_fst {x : Str} {c : Value} {ts : Addr → Value → Option Addr → TS} {b₀ : Stmt} {suite : List Stmt} {np pos' : Pos} {hds : List ExceptHandler} (hs : X.stack = X.env :: X.outer) (hf : X.env.frame = some X.env.locals)
    (hb : ∀ (W : WX) (pn : List (Addr × Obj)) (xe : Value → Shared → Prop), Takes (X.tr pn xe) W → PassesOwn (model X.prog X.w) X.A X.env xe → PSs (X.tr pn xe) body (tb W))
    (hc : Names X x c) (hsu : ∀ (a : Addr) (oe : Obj) (cls : Value) (d : Option Addr) (pn : List (Addr × Obj)), Zc cls d oe → (∃ vs, oe.data = .fields vs) → PSs (X.suite a ((a, oe) :: pn)) (b₀ :: suite) (ts a cls d)) :
    PS X (.Try body (.ExceptHandler (some (.Name x np)) none (b₀ :: suite) pos' :: hds) [] [] pos) (fun D σ H => tb (wFst X.K c ts D) D σ H) := by
  refine ⟨fun pins s σ H D I h => ?_⟩
  have ok := I.ok
  have hfr : X.A.frames = some (X.env :: X.outer) := by rw [ok.frames, hs]
  refine wpAny_Try_except ?_
  refine wpAny_mono ((hb (wFst X.K c ts D) (X.pn ++ pins) (fun e s₁ => wpAny (model X.prog X.w) X.A (noteFrame e X.env) (fun _ s₂ => wpAny (model X.prog X.w) X.A (setFlight e none) (fun _ s₃ =>
    wpAny (model X.prog X.w) X.A (handleBy e X.env (.ExceptHandler (some (.Name x np)) none (b₀ :: suite) pos' :: hds)) (SP X pins D) X.xe s₃) X.xe s₂) X.xe s₁) (fun u s' xx => ?_) PassesOwn.looking).run [] s σ H D (I.toTry _) h) (fun f s1 hsp => ?_) (fun e s1 he => he)
  · obtain ⟨a, B, sI, pins', σ', H', cls, d, rfl, J', nb, up, sky, na, os, ag, w⟩ := xx
    have J : Inv X pins σ' H' sI := J'.ofTry ok
    have sky' : Sky B (X.env :: X.outer) a (Zc cls d) X.env.locals s'.heap := by rw [← hs]; exact sky
    show wpAny (model X.prog X.w) X.A (noteFrame (.ref a) X.env) _ _ _
    refine Sky.land Zc.steady hfr hf sky' fun h3 fl3 up3 => ?_
    have J3 : Inv X pins σ' H' { s' with heap := h3 } := J.landed nb fl3.1 (up.trans up3) os ag
    obtain ⟨oe3, vs3, he3, hz3, hd3⟩ := fl3.there
    have notFr : ∀ {h : Heap} {o : Obj} {vs : Array Value}, h.FunFrames B (X.env :: X.outer) → h.get? a = some o → o.data = .fields vs → a ∉ frs (X.env :: X.outer) := fun {h o vs} ff e dd hm => by
      obtain ⟨_, o', e', hnf⟩ := ff.mem hm
      rw [e] at e'; cases e'
      exact hnf _ dd
    have nfr := notFr fl3.2.2.1 he3 hd3
    have nL : a ≠ X.env.locals := fun z => nfr (List.mem_filterMap.mpr ⟨X.env, List.mem_cons_self, by rw [hf, z]⟩)
    have nF : a ∉ X.fs := fun hm => by
      obtain ⟨e, he, q⟩ := List.mem_filterMap.mp hm
      exact nfr (List.mem_filterMap.mpr ⟨e, List.mem_cons_of_mem _ he, q⟩)
    have S3 := J3.suite he3 hd3 na nL nF
    obtain ⟨hb1, hyes⟩ := w
    refine wpAny_handleBy_cons (codeAny_handlers_test ?_) (by intro q; cases q)
    have LT : PySem.W.Looks (model X.prog X.w) h3 (typeOf (.ref a)) cls := fun A Q E s k q => wpAny_typeOf_ref (k _ _ he3) (by rw [hz3.1]; exact q)
    have LM := PySem.W.exm_one (M := model X.prog X.w) (J3.kIn) LT hb1
    have test : ∀ {Q : Value → Shared → Prop} {E : Value → Shared → Prop}, Q c { s' with heap := h3 } → wpAny (model X.prog X.w) (X.A.mark (some (.ref a))) (eval (.Name x np) X.env) Q E { s' with heap := h3 } := fun {Q E} q => by
      obtain ⟨hg, hdbg, hm | ⟨hm, hv, hnn⟩⟩ := hc
      · exact ld_glob (X := X.suite a ((a, oe3) :: (X.pn ++ pins))) S3 hg hm q hdbg
      · exact ld_blt (X := X.suite a ((a, oe3) :: (X.pn ++ pins))) S3 hg hm hv q hnn hdbg
    refine test (LM.here ?_)
    refine codeAny_handlers_suite ?_
    refine HandSPX.lands_againZ fl3 fun h4 fl4 up4 => ?_
    have J4 : Inv X pins σ' H' { s' with heap := h4 } := J.landed nb fl4.1 ((up.trans up3).trans up4) os ag
    obtain ⟨oe4, vs4, he4, hz4, hd4⟩ := fl4.there
    have S4 := J4.suite he4 hd4 na nL nF
    refine wpAny_mono ((hsu a oe4 cls d (X.pn ++ pins) hz4 ⟨_, hd4⟩).run [] _ _ H' _ S4 (hyes a na)) (fun f s6 hsp => ?_) (fun _ _ z => False.elim z)
    cases f with
    | next =>
      obtain ⟨σ6, H6, S6, q6⟩ := hsp
      exact ⟨_, _, S6.unsuite ok, q6⟩
    | brk =>
      obtain ⟨σ6, H6, S6, q6⟩ := hsp
      exact ⟨_, _, S6.unsuite ok, q6⟩
    | cont =>
      obtain ⟨σ6, H6, S6, q6⟩ := hsp
      exact ⟨_, _, S6.unsuite ok, q6⟩
    | ret u =>
      obtain ⟨v6, σ6, H6, S6, r6, q6⟩ := hsp
      exact ⟨_, _, _, S6.unsuite ok, r6, q6⟩
  · cases f with
    | next =>
      obtain ⟨σ', H', J', q⟩ := hsp
      exact wpAny_execs_nil ⟨σ', H', J'.ofTry ok, q⟩
    | brk =>
      obtain ⟨σ', H', J', q⟩ := hsp
      exact ⟨σ', H', J'.ofTry ok, q⟩
    | cont =>
      obtain ⟨σ', H', J', q⟩ := hsp
      exact ⟨σ', H', J'.ofTry ok, q⟩
    | ret u =>
      obtain ⟨v, σ', H', J', r, q⟩ := hsp
      exact ⟨v, σ', H', J'.ofTry ok, r, q⟩
end

/-- the slots that a clause may read: those never stored, and of them what is shared -/
def keepE (io : List Nat) (env : En) : En := env.mapIdx fun i s => if i ∈ io then (match s with
  | some (d, 0) => some (d, 0)
  | _ => none) else none
theorem keepE_at {io : List Nat} {env : En} {i : Nat} {d : D} {k : Nat} (h : (keepE io env)[i]? = some (some (d, k))) : i ∈ io ∧ env[i]? = some (some (d, 0)) ∧ k = 0 := by
  unfold keepE at h
  rw [List.getElem?_mapIdx] at h
  cases e : env[i]? with
  | none => rw [e] at h; cases h
  | some s =>
    rw [e] at h
    have h := Option.some.inj h
    split at h
    · rename_i hi
      simp only at h
      split at h
      · cases h; exact ⟨hi, rfl, rfl⟩
      · cases h
    · cases h
abbrev tryCt (Γ : Ct) (pn : List (Addr × Obj)) (xe : Value → Shared → Prop) (W : WX) : Ct := ⟨Γ.X.tr pn xe, Γ.C, W, Γ.io, Γ.σ₀⟩
abbrev suiCt (Γ : Ct) (a : Addr) (oe : Obj) (pn : List (Addr × Obj)) : Ct := ⟨Γ.X.suite a ((a, oe) :: pn), Γ.C, fun _ _ _ _ => False, Γ.io, Γ.σ₀⟩
theorem Good.tryG {Γ : Ct} (G : Good Γ) {pn : List (Addr × Obj)} {xe : Value → Shared → Prop} {W : WX} (tk : Takes (Γ.X.tr pn xe) W) : Good (tryCt Γ pn xe W) := ⟨G.hK, G.nd, G.calm, tk⟩
def SR.noX (r : SR) : SR := match r with
  | .ex _ => .no
  | r => r
def tryS (io : List Nat) (c : Nat) (f h : En → SR) : En → SR := fun env => match f env with
  | .ex (.mk c' _) => if c' = c then (h (keepE io env)).noX else .no
  | r => r
section
variable {Γ : Ct} {body : List Stmt} {pos : Pos} {f g : En → SR}
theorem es_try {x : Str} {c : Nat} {a₀ : Addr} {b₀ : Stmt} {suite : List Stmt} {np pos' : Pos} {hds : List ExceptHandler} (G : Good Γ) (hs : Γ.X.stack = Γ.X.env :: Γ.X.outer) (hf : Γ.X.env.frame = some Γ.X.env.locals) (hio : Γ.io ≠ [])
    (hb : ∀ W pn xe, Takes (Γ.X.tr pn xe) W → PassesOwn (model Γ.X.prog Γ.X.w) Γ.X.A Γ.X.env xe → EvB (tryCt Γ pn xe W) body f)
    (hg : Gl Γ.X x) (hm : Γ.X.mg x = some (.ref a₀)) (hn : Γ.C.ca c = some a₀) (hx : PySem.W.exmOne Γ.X.K (.ref a₀) (.ref a₀) = some true) (hsu : ∀ a oe pn, EvB (suiCt Γ a oe pn) (b₀ :: suite) g) (hdb : (x == ("__debug__" : Str)) = false := by decide) :
    EvS Γ (.Try body (.ExceptHandler (some (.Name x np)) none (b₀ :: suite) pos' :: hds) [] [] pos) (tryS Γ.io c f g) := by
  have nm : Names Γ.X x (.ref a₀) := ⟨hg, hdb, .inl hm⟩
  refine ⟨_, ps_try_fst (tb := fun W D σ H => ∀ pn xe tk po, Classical.choose (hb W pn xe tk po) D σ H) (ts := fun a _ _ D σ H => ∀ oe pn, Classical.choose (hsu a oe pn) D σ H) hs hf (fun W pn xe tk po => ⟨fun pins s σ H D I h => (Classical.choose_spec (hb W pn xe tk po)).1.run pins s σ H D I (h pn xe tk po)⟩) nm
    (fun a oe cls d pn _ _ => ⟨fun pins s σ H D I h => (Classical.choose_spec (hsu a oe pn)).1.run pins s σ H D I (h oe pn)⟩), fun σ H Z env φ S Dn P pn xe tk po => ?_⟩
  refine (Classical.choose_spec (hb _ pn xe tk po)).2 σ H Z env φ S Dn ?_
  unfold tryS at P
  cases e : f env with
  | nx env1 => rw [e] at P; exact P
  | bk env1 => rw [e] at P; exact P
  | ct env1 => rw [e] at P; exact P
  | ret p env1 => rw [e] at P; exact P
  | no => rw [e] at P; exact P
  | ex x =>
    obtain ⟨c', fs⟩ := x
    rw [e] at P
    simp only at P
    by_cases hcc : c' = c
    · rw [if_pos hcc] at P
      subst hcc
      intro σ' k1 k2 cls dx H' Z' ev zh xr
      obtain ⟨a1, h1, rfl, _⟩ := xr
      have h1 : Γ.C.ca c' = some a1 := h1
      rw [hn] at h1; cases h1
      refine ⟨hx, fun a ha oe pn2 => ?_⟩
      have S' : SttC (suiCt Γ a oe pn2) Z' σ' H' (keepE Γ.io env) (fun _ _ => False) :=
        { len := by
            have l1 := S.l0 hio
            have l2 : σ'.length = Γ.σ₀.length := k2 hio
            have l3 := S.len
            show σ'.length = (keepE Γ.io env).length
            unfold keepE
            rw [List.length_mapIdx]
            omega
          slot := fun i d k h => by
            obtain ⟨hi, h0, rfl⟩ := keepE_at h
            obtain ⟨v, hv, o⟩ := S.slot i d 0 h0
            refine ⟨v, by rw [k1 i hi, ← S.io i hi]; exact hv, o.1.ext (S.ext ev), fun _ z => z⟩
          off := fun _ _ _ z => z
          dj := fun _ _ _ z => z.elim
          nz := fun _ _ z => z.elim
          zh := zh
          l0 := k2
          io := k1 }
      refine (Classical.choose_spec (hsu a oe pn2)).2 σ' H' Z' _ _ S' Dn ?_
      have P2 := PostS.mono P (ev.sub (F2 := Tot fun (_ : Nat) (_ : Addr) => False) fun a ⟨_, z⟩ => z.elim)
      cases eg : g (keepE Γ.io env) with
      | nx env1 => rw [eg] at P2; exact P2
      | bk env1 => rw [eg] at P2; exact P2
      | ct env1 => rw [eg] at P2; exact P2
      | ret p env1 => rw [eg] at P2; exact P2
      | no => rw [eg] at P2; exact P2
      | ex y => rw [eg] at P2; exact P2.elim
    · rw [if_neg hcc] at P; exact P.elim
end
end Pv
end

section
set_option Elab.async false
set_option linter.all false
set_option maxRecDepth 100000
set_option maxHeartbeats 4000000
/-! Pv13: sorted, ranges with a step, three stores at once, <= of tuples. -/
namespace Pv
open PySem PySem.Spec PyProof.Rows L2
open PySem.Calls (call_function_entry)

/-! ### sorted -/
def encD (d : D) : PyData := d.py.getD .none
/-- what can be sorted: as the kit says, or one item at most -/
def SortableW (ds : List PyData) : Prop := PySem.W.Sortable ds ∨ (ds.length ≤ 1 ∧ ∀ d ∈ ds, d ≠ .none)
theorem sorts_w {prog : Program} {w : World} {A : Around} {s : Shared} {vs : List Value} {ds : List PyData} (e : PySem.W.EachIs (fun v d => ∃ as, Reads s.heap v d as) vs ds) (hal : PySem.W.AllAlike ds) (hk : SortableW ds) (hu : ∀ d, d ∈ ds → A.units + d.depth < cLine) : PySem.W.SortsAt prog w A s (PySem.W.dataKind s.heap ds) vs := by
  rcases hk with hk | ⟨hl, hn⟩
  · exact PySem.W.SortsAt.data e hal hk hu
  · refine ⟨fun v hv => ?_, general', fun E x y a b Q ha hb hq => ?_, fun h2 => ?_⟩
    · obtain ⟨d, hd, as, r⟩ := e.left v hv
      exact ⟨_, PySem.W.dataKind_some hal hd r⟩
    · obtain ⟨d, as, hd, ra, rfl⟩ := PySem.W.dataKind_inv ha
      obtain ⟨d', as', hd', rb, rfl⟩ := PySem.W.dataKind_inv hb
      show wpAny _ _ (oneLt' false x y) _ _ _
      exact PySem.W.oneLt_alike (fun z => by cases z) ra rb (hal d hd d' hd') (hn d hd) (Nat.lt_of_le_of_lt (Nat.add_le_add_left (Nat.min_le_left _ _) _) (hu d hd)) hq
    · rw [e.length] at h2
      omega
structure SortOk (ds : List D) : Prop where
  py : ∀ d ∈ ds, d.py ≠ none
  al : PySem.W.AllAlike (ds.map encD)
  so : SortableW (ds.map encD)
  dp : ∀ d ∈ ds, (encD d).depth ≤ 16
/-- merging and sorting that can be reckoned out -/
def mrg {α : Type} (le : α → α → Bool) : Nat → List α → List α → List α
  | 0, xs, ys => xs ++ ys
  | k + 1, xs, ys => match xs, ys with
    | [], ys => ys
    | x :: xs, [] => x :: xs
    | x :: xs, y :: ys => if le x y then x :: mrg le k xs (y :: ys) else y :: mrg le k (x :: xs) ys
theorem mrg_eq {α : Type} (le : α → α → Bool) : ∀ (k : Nat) (xs ys : List α), xs.length + ys.length ≤ k → mrg le k xs ys = List.merge xs ys le
  | 0, xs, ys, h => by
    have h1 : xs = [] := List.length_eq_zero_iff.mp (by omega)
    have h2 : ys = [] := List.length_eq_zero_iff.mp (by omega)
    subst h1 h2
    simp [mrg]
  | k + 1, [], ys, h => by simp [mrg]
  | k + 1, x :: xs, [], h => by simp [mrg]
  | k + 1, x :: xs, y :: ys, h => by
    simp only [List.length_cons] at h
    show (if le x y then x :: mrg le k xs (y :: ys) else y :: mrg le k (x :: xs) ys) = _
    rw [List.merge, mrg_eq le k xs (y :: ys) (by simp; omega), mrg_eq le k (x :: xs) ys (by simp; omega)]
def msr {α : Type} (le : α → α → Bool) : Nat → List α → List α
  | 0, xs => xs
  | k + 1, xs => match xs with
    | [] => []
    | [a] => [a]
    | a :: b :: r => mrg le ((a :: b :: r).length) (msr le k ((a :: b :: r).take (((a :: b :: r).length + 1) / 2))) (msr le k ((a :: b :: r).drop (((a :: b :: r).length + 1) / 2)))
theorem msr_eq {α : Type} (le : α → α → Bool) : ∀ (k : Nat) (xs : List α), xs.length ≤ k + 1 → msr le k xs = xs.mergeSort le
  | 0, [], _ => by simp [msr]
  | 0, [a], _ => by simp [msr]
  | 0, _ :: _ :: _, h => by simp at h
  | k + 1, [], _ => by simp [msr]
  | k + 1, [a], _ => by simp [msr]
  | k + 1, a :: b :: r, h => by
    simp only [List.length_cons] at h
    unfold msr
    rw [List.mergeSort]
    simp only [List.MergeSort.Internal.splitInTwo_fst, List.MergeSort.Internal.splitInTwo_snd]
    have l1 : ((a :: b :: r).take (((a :: b :: r).length + 1) / 2)).length ≤ k + 1 := by simp; omega
    have l2 : ((a :: b :: r).drop (((a :: b :: r).length + 1) / 2)).length ≤ k + 1 := by simp; omega
    rw [msr_eq le k _ l1, msr_eq le k _ l2]
    exact mrg_eq le _ _ _ (by simp [List.length_mergeSort]; omega)
def lexLe : List Int → List Int → Bool
  | [], _ => true
  | _ :: _, [] => false
  | x :: xs, y :: ys => if x = y then lexLe xs ys else decide (x < y)
def leK : D → D → Bool
  | .tup xs, .tup ys => match D.ints xs, D.ints ys with
    | some ns, some ms => lexLe ns ms
    | _, _ => PySem.W.dataLe false encD (.tup xs) (.tup ys)
  | d, e => PySem.W.dataLe false encD d e
theorem pyL_ints : ∀ ns : List Int, D.pyL (ns.map D.int) = some (ns.map PyData.int)
  | [] => rfl
  | n :: ns => by
    show D.pyL (.int n :: ns.map D.int) = _
    rw [D.pyL, pyL_ints ns]
    rfl
theorem encD_ints (ns : List Int) : encD (.tup (ns.map D.int)) = .tuple (ns.map PyData.int) := by
  unfold encD
  rw [D.py, pyL_ints]
  rfl
theorem lexLe_eq : ∀ xs ys : List Int, lexLe xs ys = !decide (ys < xs)
  | [], ys => by
    have : ¬ ys < [] := List.not_lt_nil ys
    simp [lexLe, this]
  | x :: xs, [] => by simp [lexLe]
  | x :: xs, y :: ys => by
    unfold lexLe
    rw [lexLe_eq xs ys]
    simp only [List.cons_lt_cons_iff]
    by_cases h : x = y
    · subst h
      simp
    · have h' : ¬ y = x := fun e => h e.symm
      simp only [if_neg h, h', false_and, or_false]
      by_cases h2 : x < y
      · have : ¬ y < x := by omega
        simp [h2, this]
      · have : y < x := by omega
        simp [h2, this]
theorem leK_eq : leK = PySem.W.dataLe false encD := by
  funext d e
  unfold leK
  split
  · split
    · rename_i xs ys ns ms e1 e2
      rw [D.ints_eq e1, D.ints_eq e2, lexLe_eq]
      show _ = (!PySem.W.dataLt (encD (.tup (ms.map D.int))) (encD (.tup (ns.map D.int))))
      rw [encD_ints, encD_ints, PySem.W.dataLt_tuple]
      exact congrArg (!·) (PySem.W.dataLt_ints ms ns).symm
    · rfl
  · rfl
def srt (ds : List D) : List D := msr leK ds.length ds
theorem srt_eq (ds : List D) : srt ds = ds.mergeSort (PySem.W.dataLe false encD) := by
  unfold srt
  rw [msr_eq leK _ _ (Nat.le_succ _), leK_eq]
def intTup : D → Bool
  | .tup (x :: xs) => (D.ints (x :: xs)).isSome
  | _ => false
def isInt : D → Bool
  | .int _ => true
  | _ => false
def isStr : D → Bool
  | .str _ => true
  | _ => false
def neTup : PyData → Bool
  | .tuple (_ :: _) => true
  | _ => false
def noTup : PyData → Bool
  | .tuple _ => false
  | .none => false
  | _ => true
def sortOkG (ds : List D) : Bool := ds.all (fun d => d.py.isSome && decide ((encD d).depth ≤ 16)) && (ds.all (fun d => ds.all fun e => PySem.W.alike (encD d) (encD e)) && (ds.all (fun d => neTup (encD d)) || ds.all (fun d => noTup (encD d))))
def sortOk1 : List D → Bool
  | [.tup []] => true
  | _ => false
def sortOkB (ds : List D) : Bool := ds.all intTup || ds.all isInt || ds.all isStr || sortOkG ds || sortOk1 ds
theorem intTup_eq {d : D} (h : intTup d = true) : ∃ n ns, d = .tup ((n :: ns).map D.int) := by
  unfold intTup at h
  split at h
  · rename_i x xs
    cases e : D.ints (x :: xs) with
    | none => rw [e] at h; cases h
    | some ns =>
      have := D.ints_eq e
      cases ns with
      | nil => cases this
      | cons n ns => exact ⟨n, ns, by rw [this]⟩
  · cases h
theorem sortOk_of {ds : List D} (h : sortOkB ds = true) : SortOk ds := by
  unfold sortOkB at h
  simp only [Bool.or_eq_true, List.all_eq_true] at h
  rcases h with (((h | h) | h) | h) | h
  rotate_left 4
  · unfold sortOk1 at h
    split at h
    · refine ⟨fun d hd e => ?_, fun a ha b hb => ?_, .inr ⟨Nat.le_refl _, fun d hd => ?_⟩, fun d hd => ?_⟩
      · rw [List.mem_singleton.mp hd] at e; cases e
      · rw [List.mem_singleton.mp ha, List.mem_singleton.mp hb]; rfl
      · rw [List.mem_singleton.mp hd]; exact fun z => by cases z
      · rw [List.mem_singleton.mp hd]
        show PyData.depth (.tuple []) ≤ 16
        simp [PyData.depth, PyData.depthAll]
    · cases h
  · have q : ∀ d ∈ ds, ∃ n ns, d = .tup ((n :: ns).map D.int) := fun d hd => intTup_eq (h d hd)
    have pe : ∀ d ∈ ds, ∃ n ns, encD d = .tuple ((n :: ns).map PyData.int) := fun d hd => by
      obtain ⟨n, ns, rfl⟩ := q d hd
      exact ⟨n, ns, encD_ints _⟩
    refine ⟨fun d hd e => ?_, fun a ha b hb => ?_, .inl (.inl fun a ha => ?_), fun d hd => ?_⟩
    · obtain ⟨n, ns, rfl⟩ := q d hd
      rw [D.py, pyL_ints] at e; cases e
    · obtain ⟨d, hd, rfl⟩ := List.mem_map.mp ha
      obtain ⟨e, he, rfl⟩ := List.mem_map.mp hb
      obtain ⟨n, ns, e1⟩ := pe d hd
      obtain ⟨m, ms, e2⟩ := pe e he
      rw [e1, e2]
      show PySem.W.alikeAll _ _ = true
      exact PySem.W.alike_ints _ _
    · obtain ⟨d, hd, rfl⟩ := List.mem_map.mp ha
      obtain ⟨n, ns, e1⟩ := pe d hd
      exact ⟨_, _, e1⟩
    · obtain ⟨n, ns, e1⟩ := pe d hd
      rw [e1]
      simp only [PyData.depth]
      rw [PySem.W.depth_ints]
      omega
  · have q : ∀ d ∈ ds, ∃ n, d = .int n := fun d hd => by
      have := h d hd
      unfold isInt at this
      split at this
      · exact ⟨_, rfl⟩
      · cases this
    refine ⟨fun d hd e => ?_, fun a ha b hb => ?_, .inl (.inr fun a ha => ?_), fun d hd => ?_⟩
    · obtain ⟨n, rfl⟩ := q d hd
      cases e
    · obtain ⟨d, hd, rfl⟩ := List.mem_map.mp ha
      obtain ⟨e, he, rfl⟩ := List.mem_map.mp hb
      obtain ⟨n, rfl⟩ := q d hd
      obtain ⟨m, rfl⟩ := q e he
      rfl
    · obtain ⟨d, hd, rfl⟩ := List.mem_map.mp ha
      obtain ⟨n, rfl⟩ := q d hd
      exact ⟨nofun, fun xs => nofun⟩
    · obtain ⟨n, rfl⟩ := q d hd
      show PyData.depth (.int n) ≤ 16
      simp [PyData.depth]
  · have q : ∀ d ∈ ds, ∃ n, d = .str n := fun d hd => by
      have := h d hd
      unfold isStr at this
      split at this
      · exact ⟨_, rfl⟩
      · cases this
    refine ⟨fun d hd e => ?_, fun a ha b hb => ?_, .inl (.inr fun a ha => ?_), fun d hd => ?_⟩
    · obtain ⟨n, rfl⟩ := q d hd
      cases e
    · obtain ⟨d, hd, rfl⟩ := List.mem_map.mp ha
      obtain ⟨e, he, rfl⟩ := List.mem_map.mp hb
      obtain ⟨n, rfl⟩ := q d hd
      obtain ⟨m, rfl⟩ := q e he
      rfl
    · obtain ⟨d, hd, rfl⟩ := List.mem_map.mp ha
      obtain ⟨n, rfl⟩ := q d hd
      exact ⟨nofun, fun xs => nofun⟩
    · obtain ⟨n, rfl⟩ := q d hd
      show PyData.depth (.str n) ≤ 16
      simp [PyData.depth]
  · unfold sortOkG at h
    simp only [Bool.and_eq_true, Bool.or_eq_true, List.all_eq_true, decide_eq_true_eq] at h
    obtain ⟨h1, h2, h3⟩ := h
    refine ⟨fun d hd e => ?_, fun a ha b hb => ?_, ?_, fun d hd => (h1 d hd).2⟩
    · have := (h1 d hd).1
      rw [e] at this; cases this
    · obtain ⟨d, hd, rfl⟩ := List.mem_map.mp ha
      obtain ⟨e, he, rfl⟩ := List.mem_map.mp hb
      exact h2 d hd e he
    · rcases h3 with h3 | h3
      · refine .inl (.inl fun a ha => ?_)
        obtain ⟨d, hd, rfl⟩ := List.mem_map.mp ha
        have := h3 d hd
        unfold neTup at this
        split at this
        · rename_i x r e; exact ⟨x, r, e⟩
        · cases this
      · refine .inl (.inr fun a ha => ?_)
        obtain ⟨d, hd, rfl⟩ := List.mem_map.mp ha
        have := h3 d hd
        refine ⟨fun e => ?_, fun xs e => ?_⟩
        · rw [e] at this; cases this
        · rw [e] at this; cases this
def sortL (ds : List D) : Option (D × Nat) := if sortOkB ds = true then some (.lst (srt ds), 1) else none
theorem sortL_ok {ds : List D} {p : D × Nat} (h : sortL ds = some p) : SortOk ds ∧ p = (.lst (srt ds), 1) := by
  unfold sortL at h
  split at h
  · rename_i e
    cases h
    exact ⟨sortOk_of e, rfl⟩
  · cases h
def sortD : D → Option (D × Nat)
  | .lst ds => sortL ds
  | .tup ds => sortL ds
  | _ => none
section
variable {C : RC} {Z : Fp} {H : Hp}
theorem each_of : ∀ {xs : List V} {us : List Value} {ds : List D}, Vals xs us → ShL C Z H xs ds → PySem.W.EachIs (fun u d => ∃ v, RelV v u ∧ Sh C Z H v d) us ds
  | [], _, _, r, h => by cases r; cases h; exact .nil
  | x :: xs, u :: us, ds, r, h => by
    cases r with
    | cons r rr =>
      cases h with
      | cons h hh => exact PySem.W.EachIs.cons ⟨x, r, h⟩ (each_of rr hh)
theorem of_each : ∀ {us : List Value} {ds : List D}, PySem.W.EachIs (fun u d => ∃ v, RelV v u ∧ Sh C Z H v d) us ds → ∃ ys, Vals ys us ∧ ShL C Z H ys ds
  | _, _, .nil => ⟨[], .nil, .nil⟩
  | _, _, .cons ⟨v, r, h⟩ t => by
    obtain ⟨ys, a, b⟩ := of_each t
    exact ⟨v :: ys, .cons r a, .cons h b⟩
theorem each_reads {X : Cx} {pins : List (Addr × Obj)} {σ : L2.St} {s : Shared} (I : Inv X pins σ H s) (hK : C.K = X.K) : ∀ {us : List Value} {ds : List D}, (∀ d ∈ ds, d.py ≠ none) → PySem.W.EachIs (fun u d => ∃ v, RelV v u ∧ Sh C Z H v d) us ds → PySem.W.EachIs (fun u d => ∃ as, Reads s.heap u (encD d) as) us ds
  | _, _, _, .nil => .nil
  | _, d :: _, hp, .cons ⟨v, r, h⟩ t => by
    refine .cons ?_ (each_reads I hK (fun d hd => hp d (List.mem_cons_of_mem _ hd)) t)
    cases e : d.py with
    | none => exact absurd e (hp d List.mem_cons_self)
    | some p =>
      have q := Sh.dp d v p h e
      rw [hK] at q
      have e2 : encD d = p := by unfold encD; rw [e]; rfl
      rw [e2]
      exact Dp.reads I p v _ q r
end
/-- sorted(xs) over a sequence's object -/
theorem sorted_seq {prog : Program} {w : World} {A : Around} {E : Value → Shared → Prop} {s : Shared} {β : Type} {vs : List Value} {bs : List β} {enc : β → PyData} {R : Value → β → Prop} {l : Addr} {T : String} {o : Obj} {n : Nat} {Q : Value → Shared → Prop}
    (hT : T = "list" ∨ T = "tuple") (ho : s.heap.get? l = some o) (hc : o.cls = .type T) (hd : o.data = .seq vs.toArray n) (e : PySem.W.EachIs R vs bs) (er : PySem.W.EachIs (fun v b => ∃ as, Reads s.heap v (enc b) as) vs bs) (hal : PySem.W.AllAlike (bs.map enc)) (hk : SortableW (bs.map enc)) (hL : vs.length ≤ sizeLine)
    (hu : ∀ b, b ∈ bs → A.units + 2 + (enc b).depth < cLine) (h : ∀ (h1 : Heap) (out : List Value) (h' : Heap) (a e' : Nat), (∀ b u, s.heap.get? b = some u → h1.get? b = some u) → (∀ b u, h1.get? b = some u → h'.get? b = some u) → h1.objs.size ≤ a → h'.get? a = some (seqObj "list" (List.toArray out) e') → out.length = bs.length → PySem.W.EachIs R out (bs.mergeSort (PySem.W.dataLe false enc)) → Q (.ref a) { s with heap := h' }) :
    wpAny (model prog w) A (call (.builtin "sorted") [.ref l]) Q E s := by
  refine PySem.Calls.call_function_entry kind_sorted plain_sorted entry_sorted (args_sorted1 _) ?_
  unfold Builtin.«sorted»
  refine wpAny_bind (m := checkCount "sorted" 1 1 _) (wpAny_pure ?_)
  refine wpAny_bind (wpAny_collect_seq l hT ho hc hd (fun h1 k1 => ?_) (by simpa using hL))
  refine wpAny_bind (wpAny_newList ?_ hL)
  have ha : (h1.push (seqObj "list" vs.toArray 0)).get? h1.objs.size = some (seqObj "list" vs.toArray 0) := Heap.get?_push_size _ rfl
  have k2 : ∀ b u, s.heap.get? b = some u → (h1.push (seqObj "list" vs.toArray 0)).get? b = some u := fun b u q => by
    rw [Heap.get?_push_ne _ _ _ (Nat.ne_of_lt (Heap.lt_size (k1 b u q)))]; exact k1 b u q
  have nb : ∀ b u, s.heap.get? b = some u → b ≠ h1.objs.size := fun b u q => Nat.ne_of_lt (Heap.lt_size (k1 b u q))
  have er' : PySem.W.EachIs (fun v b => ∃ as, Reads (PySem.W.sortingHeap (h1.push (seqObj "list" vs.toArray 0)) h1.objs.size vs) v (enc b) as) vs bs := er.mono fun _ _ ⟨as, r⟩ => ⟨as, PyProof.Rows.Reads.keeps (fun b u q => PySem.W.sortingHeap_old (nb b u q) (k2 b u q)) r⟩
  refine wpAny_bind (wpAny_holding (wpAny_call_entry_kw slot_list_sort ⟨_, ha, rfl⟩ entry_list_sort ?body (args_list_sort _)))
  case body =>
    show wpAny (model prog w) A.in1.in1 (Builtin.«list.sort» ⟨[.ref h1.objs.size], []⟩) _ _ _
    refine PySem.W.list_sort_vals (κ := PySem.W.dataKind _ (bs.map enc)) ha (sorts_w (PySem.W.each_map (R := fun v d => ∃ as, Reads _ v d as) enc er') hal hk (PySem.W.bound_map hu)) hL ⟨_, rfl, wpAny_pure ⟨_, rfl, ?_⟩⟩
    obtain ⟨e9, he9⟩ := PyProof.Rows.sortedHeap_at (h := h1.push (seqObj "list" vs.toArray 0)) (out := (PySem.W.sortVals (PySem.W.dataKind (PySem.W.sortingHeap (h1.push (seqObj "list" vs.toArray 0)) h1.objs.size vs) (bs.map enc)) false vs vs).toArray) ha
    refine h h1 _ _ _ _ k1 (fun b u q => ?_) (Nat.le_refl _) he9 (by rw [PySem.W.sortVals_length false rfl]; exact e.length) (PySem.W.sortVals_data false e er' hal)
    have hb : (h1.push (seqObj "list" vs.toArray 0)).get? b = some u := by
      rw [Heap.get?_push_ne _ _ _ (Nat.ne_of_lt (Heap.lt_size q))]; exact q
    rw [PyProof.Rows.sortedHeap_old (Nat.ne_of_lt (Heap.lt_size q)) (Heap.lt_size hb)]
    exact hb

def rSortA (C : RC) (K : PySem.W.Frag) : List V → Hp → VK → Prop := fun vs H Q => ∃ a xs ds Z, vs = [V.ref a] ∧ (SqL K H a xs ∨ SqT K H a xs) ∧ ShL C Z H xs ds ∧ SortOk ds ∧ C.K = K ∧
  ∀ ys p, H p = none → ShL C Z H ys (srt ds) → Q (.ref p) (upd H p (.lst ys))
theorem cr_sortA {X : Cx} {C : RC} {k : Nat} (hr : Room k X.A) : CallR X (.builtin "sorted") (rSortA C X.K) := by
  intro pins s σ H vs us Q I r h
  obtain ⟨a, xs, ds, Z, rfl, hs, sh, ok, hK, q⟩ := h
  rw [Vals.ref1 r]
  obtain ⟨its, T, o, n, hT, rv, ho, hc, hd, hz⟩ : ∃ its T o n, (T = "list" ∨ T = "tuple") ∧ Vals xs its ∧ s.heap.get? a = some o ∧ o.cls = .type T ∧ o.data = .seq its.toArray n ∧ its.length ≤ sizeLine := by
    rcases hs with hs | hs
    · obtain ⟨its, rv, ⟨o, n, ho, hc, _, hd⟩, hz⟩ := I.list hs
      exact ⟨its, "list", o, n, .inl rfl, rv, ho, hc, hd, by rw [← rv.length]; exact hz⟩
    · obtain ⟨its, rv, ⟨o, ho, hc, n, hd⟩, hz⟩ := I.tuple hs
      exact ⟨its, "tuple", o, n, .inr rfl, rv, ho, hc, hd, by rw [← rv.length]; exact hz⟩
  have e := each_of rv sh
  refine sorted_seq hT ho hc hd e (each_reads I hK ok.py e) ok.al ok.so hz (fun d hd => by have := ok.dp d hd; have := hr.un; omega) fun h1 out h' p e9 k1 k2 hp hat hlen ee => ?_
  obtain ⟨ys, ry, sy⟩ := of_each ee
  rw [← srt_eq] at sy
  have I1 := I.kept (t' := s.toks) k1
  have hlen2 : ys.length ≤ sizeLine := by rw [ry.length, hlen, ← e.length]; exact hz
  exact ⟨.ref p, upd H p (.lst ys), I1.laid (t' := s.toks) k2 hp ⟨hlen2, out, e9, ry, hat⟩, rfl, q ys p (I1.hok.fresh hp) sy⟩
section
variable {Γ : Ct} {e a b c : Expr} {fa fb fc : En → R Opd} {pos p q : Pos} {x : Str}
theorem ev_sorted (G : Good Γ) {k : Nat} (hr : Room k Γ.X.A) (hg : Gl Γ.X "sorted") (hm : Γ.X.mg "sorted" = none) (ha : EvO Γ a fa) (hs : starEach [a] Γ.X.env = [(false, eval a Γ.X.env)] := by rfl) : EvE Γ (.Call (.Name "sorted" p) [a] [] pos) (op1 sortD fa) :=
  ev_b1 (cr_sortA (C := Γ.C) hr) (fun σ H Z env φ S x d p hx hg Q P => by
    unfold sortD at hg
    split at hg
    · obtain ⟨ok, rfl⟩ := sortL_ok hg
      obtain ⟨a, us, rfl, ha, r⟩ := hx.lstI
      exact ⟨a, us, _, Z, rfl, .inl (SqL.of ha), r, ok, G.hK, fun ys l hl sy => Post.newL P S hl (Ow.lst1 upd_same (sy.ext (Ext.new hl)))⟩
    · obtain ⟨ok, rfl⟩ := sortL_ok hg
      obtain ⟨a, us, rfl, ha, r⟩ := hx.tupI
      rw [G.hK] at ha
      exact ⟨a, us, _, Z, rfl, .inr ha, r, ok, G.hK, fun ys l hl sy => Post.newL P S hl (Ow.lst1 upd_same (sy.ext (Ext.new hl)))⟩
    · cases hg) hg hm (by decide +kernel) ha (hs := hs)

/-! ### range(i, j, c) -/
def rg3D : List D → Option (List D)
  | [.int i, .int j, .int c] => if c ≠ 0 ∧ c.natAbs < 1073741824 ∧ Builtin.Range.small i j c = true ∧ 0 ≤ Builtin.Range.rangeSize i j c then some ((List.range (Builtin.Range.rangeSize i j c).toNat).map fun k : Nat => .int (i + k * c)) else none
  | _ => none
theorem itc_d {C : RC} {lo c : Int} {n : Nat} {Z : Fp} {H : Hp} : ItD C (Itc lo c n) ((List.range n).map fun k : Nat => .int (lo + k * c)) Z H := fun Z2 H2 x => by
  refine ⟨(show n ≤ ((List.range n).map fun k : Nat => D.int (lo + k * c)).length by simp), fun i d hd => ?_⟩
  rw [List.getElem?_map] at hd
  obtain ⟨j, hj, rfl⟩ := Option.map_eq_some_iff.mp hd
  obtain ⟨h1, h2⟩ := List.getElem?_eq_some_iff.mp hj
  rw [List.length_range] at h1
  rw [List.getElem_range] at h2
  subst h2
  exact ⟨h1, fun y H' ⟨e1, e2⟩ => by subst e1 e2; exact ⟨.int _, .inl rfl⟩⟩
def rg3 (f : En → R (List D)) : En → R (List D) := fun env => (f env).bind fun ds env1 => R.of (rg3D ds) env1
theorem ei_rg3 {tg : Expr} {f : En → R (List D)} (hg : Gl Γ.X "range") (hm : Γ.X.mg "range" = none) (ha : EvA Γ [a, b, c] f) (hs : starEach [a, b, c] Γ.X.env = (false, eval a Γ.X.env) :: starEach [b, c] Γ.X.env := by rfl) (hpl : (backTo pos (starEach [b, c] Γ.X.env)).any (·.1) = false := by rfl) : EvI Γ tg (.Call (.Name "range" p) [a, b, c] [] pos) (rg3 f) := by
  obtain ⟨t, h1, h2⟩ := ha
  refine ⟨_, pi_range3 hg hm h1 hs hpl, fun σ H Z env φ S R P => ?_⟩
  refine h2 σ H Z env φ S _ ?_
  unfold rg3 at P
  cases e : f env with
  | ex x => rw [e] at P; exact P
  | no => rw [e] at P; exact P
  | ok ds env1 =>
    rw [e] at P
    simp only [Pv.R.bind_ok] at P
    intro vs H1 Z1 φ1 A S1 sh0 dj ev
    have ev' := ev.sub (F2 := Tot φ1) fun _ z => .inl z
    have sh : ShL Γ.C Z1 H1 vs ds := sh0
    cases eD : rg3D ds with
    | none => rw [eD] at P; exact P.elim
    | some items =>
      rw [eD] at P
      unfold rg3D at eD
      split at eD
      · rename_i i j c
        cases sh with
        | cons h r =>
          cases r with
          | cons h' r =>
            cases r with
            | cons h'' r =>
              cases r
              cases h
              cases h'
              cases h''
              split at eD
              · rename_i hb
                cases eD
                exact ⟨i, j, c, _, rfl, ⟨hb.1, hb.2.1, hb.2.2.1, by rw [Int.toNat_of_nonneg hb.2.2.2]⟩, P _ H1 Z1 φ1 S1 itc_d ev'⟩
              · cases eD
      · cases eD

/-! ### <= of tuples of ints -/
def leTD : D → D → Option (D × Nat)
  | .int i, .int j => some (.bl (decide (i ≤ j)), 0)
  | .tup xs, .tup ys => match D.ints xs, D.ints ys with
    | some ns, some ms => some (.bl (Ob.lexAt (fun j => decide (ns.getD j 0 = ms.getD j 0)) (fun j => decide (ns.getD j 0 ≤ ms.getD j 0)) (decide (ns.length ≤ ms.length)) 0 (min ns.length ms.length)), 0)
    | _, _ => none
  | _, _ => none
theorem does_leT (G : Good Γ) : Does2 Γ leTD (fun x y H Q => rI0 (fun i j => .bl (decide (i ≤ j))) x y H Q ∨ rLeT Γ.X.K x y H Q) := by
  intro σ H Z env φ S x y d e p hx hy hg Q P
  unfold leTD at hg
  split at hg
  · cases hg
    exact .inl ⟨_, _, hx.intI, hy.intI, Post.here P S (Ow.sh (.bl _))⟩
  · split at hg
    · rename_i ns ms e1 e2
      cases hg
      obtain ⟨a, us, rfl, ha, r⟩ := hx.tupI
      obtain ⟨b, ws, rfl, hb, r'⟩ := hy.tupI
      rw [D.ints_eq e1] at r
      rw [D.ints_eq e2] at r'
      rw [r.ints] at ha
      rw [r'.ints] at hb
      rw [G.hK] at ha hb
      exact .inr ⟨a, b, ns, ms, rfl, rfl, ha, hb, Post.here P S (Ow.sh (.bl _))⟩
    · cases hg
  · cases hg
def cLeT (G : Good Γ) {k : Nat} (hr : Room k Γ.X.A) : CmpR Γ .LtE leTD := ⟨_, op_le.or (op_leT hr.units0), does_leT G⟩

/-! ### a, b, c = x, y, z -/
def par3S (i j l : Nat) (fa : En → R (List (D × Nat))) : En → SR := fun env => (fa env).then fun ps env1 => match ps with
  | [p, q, r] => if i < env1.length ∧ j < env1.length ∧ l < env1.length then .nx (((env1.set i (some p)).set j (some q)).set l (some r)) else .no
  | _ => .no
theorem es_par3 {i j l : Nat} {x y z : Str} {a b c : Expr} {fa : En → R (List (D × Nat))} {px py pz pt : Pos} {kt k2 : Nat} {pt2 : Pos} (G : Good Γ) (hi : Γ.X.N[i]? = some x) (hj : Γ.X.N[j]? = some y) (hl : Γ.X.N[l]? = some z) (hij : i ≠ j) (hil : i ≠ l) (hjl : j ≠ l) (hio : i ∉ Γ.io) (hjo : j ∉ Γ.io) (hlo : l ∉ Γ.io)
    (hx : Γ.X.env.scope.names.lookup x = some .local) (hy : Γ.X.env.scope.names.lookup y = some .local) (hz : Γ.X.env.scope.names.lookup z = some .local) (ha : EvL Γ [a, b, c] fa)
    (hw : swappedStores [.Tuple [.Name x px, .Name y py, .Name z pz] kt pt] (.Tuple [a, b, c] k2 pt2) Γ.X.env = pure (some [x, y, z]) := by rfl)
    (hs : swapsWithSole [.Tuple [.Name x px, .Name y py, .Name z pz] kt pt] (.Tuple [a, b, c] k2 pt2) pos.line Γ.X.env = pure false := by rfl) :
    EvS Γ (.Assign [.Tuple [.Name x px, .Name y py, .Name z pz] kt pt] (.Tuple [a, b, c] k2 pt2) pos) (par3S i j l fa) := by
  obtain ⟨t, h1, h2⟩ := ha
  refine ⟨_, ps_par3 G.calm G.nd hi hj hl hij hil hjl hx hy hz h1 hw hs, fun σ H Z env φ S Dn P => ?_⟩
  refine h2.then S P fun ps env1 vs H1 Z1 φ1 A e1 S1 q1 dj1 ev1 P1 => ?_
  have q1 : OwL Γ.C Z1 H1 vs ps A := q1
  cases q1 with
  | nil _ => exact P1.elim
  | @cons v vs p ps A1 B U o r d1 u1 =>
    cases r with
    | nil _ => exact P1.elim
    | @cons w ws q qs A2 B2 U2 o2 r2 d2 u2 =>
      cases r2 with
      | nil _ => exact P1.elim
      | @cons w3 ws3 q3 qs3 A3 B3 U3 o3 r3 d3 u3 =>
        cases r3 with
        | cons _ _ _ _ => exact P1.elim
        | nil n3 =>
          refine ⟨v, w, w3, rfl, ?_⟩
          simp only at P1
          have a1 : ∀ a, A1 a → A a := fun a z => (u1 a).mpr (.inl z)
          have a2 : ∀ a, A2 a → A a := fun a z => (u1 a).mpr (.inr ((u2 a).mpr (.inl z)))
          have a3 : ∀ a, A3 a → A a := fun a z => (u1 a).mpr (.inr ((u2 a).mpr (.inr ((u3 a).mpr (.inl z)))))
          have n12 : ∀ a, A1 a → ¬ A2 a := fun a z y => d1 a z ((u2 a).mpr (.inl y))
          have n13 : ∀ a, A1 a → ¬ A3 a := fun a z y => d1 a z ((u2 a).mpr (.inr ((u3 a).mpr (.inl y))))
          have n23 : ∀ a, A2 a → ¬ A3 a := fun a z y => d2 a z ((u3 a).mpr (.inl y))
          split at P1
          · rename_i hl
            have S2 := S1.put hl.1 hio o (fun j a _ h z => (dj1 a (a1 a z)).1 ⟨j, h⟩) fun a z => (dj1 a (a1 a z)).2
            have S3 := S2.put (i := j) (by simpa using hl.2.1) hjo o2 (fun m a hm h z => by
              by_cases q : m = i
              · simp only [if_pos q] at h
                exact n12 a h z
              · simp only [if_neg q] at h
                exact (dj1 a (a2 a z)).1 ⟨m, h⟩) fun a z => (dj1 a (a2 a z)).2
            have S4 := S3.put (i := l) (by simpa using hl.2.2) hlo o3 (fun m a hm h z => by
              by_cases q : m = j
              · simp only [if_pos q] at h
                exact n23 a h z
              · simp only [if_neg q] at h
                by_cases q2 : m = i
                · simp only [if_pos q2] at h
                  exact n13 a h z
                · simp only [if_neg q2] at h
                  exact (dj1 a (a3 a z)).1 ⟨m, h⟩) fun a z => (dj1 a (a3 a z)).2
            refine P1 _ H1 Z1 _ S4 ⟨fun _ _ q _ => q, fun _ z => z, fun _ z => .inl z, fun x ⟨m, z⟩ => .inl ?_⟩
            by_cases q : m = l
            · simp only [if_pos q] at z; exact .inr (a3 x z)
            · simp only [if_neg q] at z
              by_cases q2 : m = j
              · simp only [if_pos q2] at z; exact .inr (a2 x z)
              · simp only [if_neg q2] at z
                by_cases q3 : m = i
                · simp only [if_pos q3] at z; exact .inr (a1 x z)
                · simp only [if_neg q3] at z; exact .inl ⟨m, z⟩
          · exact P1.elim
end
end Pv
end

section
set_option Elab.async false
set_option linter.all false
set_option maxRecDepth 100000
set_option maxHeartbeats 4000000
/-! Pv14: a law's facts, its end. -/
namespace Pv
open PySem PySem.Spec PyProof.Rows L2

/-- a def of the program: where it stands -/
structure DA (K : PySem.W.Frag) (mg : Str → Option Value) (x : Str) (st : Stmt) (ps : List Str) where
  f : Addr
  fd : FuncData
  F : Fun K x x st f fd
  m : mg x = some (.ref f)
  b : Binds K fd ps []
def DA.of {K : PySem.W.Frag} {h : Heap} {mg : Str → Option Value} (X : K.In h) (G : h.Ns mainGlobals mg) {x : Str} {st : Stmt} {ps : List Str} {f : Addr} {oc : Value} {od an : Option Addr} {sl : Array (Option Value)} {kV dc pm cd ct : Value}
    (a : PySem.W.nsIn K mainGlobals x = some (some (.ref f))) (l : K.lookup f = some ⟨oc, od, .func (PySem.W.fnOf x x (defArgs st) (defBody st) (defScope st) .none kV dc pm an cd ct), sl⟩) (c : PySem.W.codeIn K cd x = true) (k : PySem.W.keepIn K (.ref f) = true)
    (hb : ∀ (kV doc pm : Value) (an : Option Addr) (cdv ct : Value) (us : List Value), us.length = ps.length → bindArgs (PySem.W.fnOf x x (defArgs st) (defBody st) (defScope st) .none kV doc pm an cdv ct) ⟨us, []⟩ = pure (ps.zip us)) : DA K mg x st ps :=
  ⟨f, _, fun_mk l c k, PySem.W.mg_of X G a, (fun_mk l c k).binds hb⟩
/-- an error class of the program without an __init__ -/
structure XA (K : PySem.W.Frag) (mg : Str → Option Value) (x : Str) where
  a : Addr
  m : mg x = some (.ref a)
  k : PySem.W.keepIn K (.ref a) = true
  q : PySem.W.excIn K a [.type "ValueError", .type "Exception", .type "BaseException", .type "object"] "ValueError.__new__" = true
  s : PySem.W.subIn K (.ref a) (.type "BaseException") = some true
  t : PySem.W.typeIn K (.ref a) = some (.type "type")
  i : PySem.W.isClsIn K a = true
  f : PySem.W.subIn K (.ref a) (.ref a) = some true
theorem XA.e {K : PySem.W.Frag} {mg : Str → Option Value} {x : Str} (A : XA K mg x) : PySem.W.exmOne K (.ref A.a) (.ref A.a) = some true := by
  have h1 := A.s
  have h2 := A.i
  have h3 := A.t
  have h4 := A.f
  have e1 : (PySem.W.subIn K (.ref A.a) (.type "BaseException") == some true) = true := by rw [h1]; rfl
  have e2 : ((PySem.W.clsIn K A.a).isSome && PySem.W.typeIn K (.ref A.a) == some (.type "type")) = true := by
    have h2' : (PySem.W.clsIn K A.a).isSome = true := h2
    rw [h2', h3]; rfl
  show (if (PySem.W.subIn K (.ref A.a) (.type "BaseException") == some true) = true then (if ((PySem.W.clsIn K A.a).isSome && PySem.W.typeIn K (.ref A.a) == some (.type "type")) = true then PySem.W.subIn K (.ref A.a) (.ref A.a) else none) else none) = some true
  rw [if_pos e1, if_pos e2]
  exact h4
theorem XA.excC {K : PySem.W.Frag} {mg : Str → Option Value} {x : Str} (A : XA K mg x) {Γ : Ct} {c : Nat} (hn : Γ.C.ca c = some A.a) (hm : Γ.X.mg = mg := by rfl) (hK : Γ.X.K = K := by rfl) : ExcC Γ x c A.a := by
  subst hm hK
  exact ⟨A.m, A.k, A.q, raises_own A.s A.t, hn⟩
theorem fnV_no {P : Program} {w : World} {K : PySem.W.Frag} {mg : Str → Option Value} {base : Heap} {C : RC} {k : Nat} {f : Addr} {fd : FuncData} {ps : List Str} {io : Bool} : FnV P w K mg base C k f fd ps io (fun _ _ => .no) :=
  ⟨fun _ _ _ _ h => h.1, fun A outer s H args us vs Q E _ _ _ _ h => by
    obtain ⟨_, h⟩ := h
    cases io with
    | false =>
      obtain ⟨_, _, _, _, q⟩ := h
      exact q.elim
    | true =>
      cases vs with
      | nil => exact h.elim
      | cons v vs =>
        obtain ⟨_, _, _, _, _, _, _, _, q⟩ := h
        exact q.elim⟩
def lawSp (K : PySem.W.Frag) (F : Sl → List D → FR) : Sp := fun vs H Q E => vs.length = 1 ∧ ∀ C : RC, C.K = K → spF C 1 false F vs H Q E
theorem lawSp_of {P : Program} {w : World} {K : PySem.W.Frag} {mg : Str → Option Value} {base : Heap} {C : RC} {k : Nat} {f : Addr} {fd : FuncData} {x : Str} {F : Sl → List D → FR} (hC : C.K = K) (h : FnV P w K mg base C k f fd [x] false F) : FnOk P w K mg base (L2.CX P w) k f fd [x] (lawSp K F) :=
  FnOk.imp h fun vs H Q E q => q.2 C hC
theorem lawSp_in {K : PySem.W.Frag} {F : Sl → List D → FR} {H : Hp} {a : Addr} {ns : List Int} (hO : L2.Only H) (hS : SqL K H a (ns.map V.int)) (hF : ∃ fin, F none [.scr ns] = .ok (.bl true, 0) fin) : lawSp K F [.ref a] H (fun v _ => v = .bl true) fun _ _ _ => False := by
  refine ⟨rfl, fun C hC => ⟨rfl, [.scr ns], fun _ => False, .cons (.scr ?_) .nil, fun _ z => z.elim, ?_⟩⟩
  · rw [← hC] at hS
    rcases hS with (hS | ⟨o, hS⟩) | hS
    · rcases hO a with e | ⟨o, xs, e⟩
      · rw [hS] at e; cases e
      · rw [hS] at e; cases e
    · exact .inl ⟨o, hS⟩
    · exact .inr (.inr hS)
  · obtain ⟨fin, e⟩ := hF
    rw [e]
    intro v H' Z' A o _ _ _
    have := o.1
    cases this
    rfl
theorem cx_no {P : Program} {w : World} {H : Hp} {s s' : Shared} {e : Value} (h : L2.CX P w [] H s (fun _ _ _ => False) e s') : False := by
  obtain ⟨_, _, _, _, _, _, _, _, _, _, _, _, h⟩ := h
  exact h
section
variable {Γ : Ct} {scope : Scope} {s : Shared} {H : Hp} {c : Addr} {cl : List (Str × Addr)} {fp : List Addr}
theorem blkG {tg : Expr} {ws : List Nat} {g : D → En → Option En} (G : Good Γ) (h : Good (blkCt Γ scope s H c cl fp) → EvG (blkCt Γ scope s H c cl fp) tg ws g) : EvG (blkCt Γ scope s H c cl fp) tg ws g := h G.blk
theorem blkT {ifs : List Expr} {f : En → R Bool} (G : Good Γ) (h : Good (blkCt Γ scope s H c cl fp) → EvPT (blkCt Γ scope s H c cl fp) ifs f) : EvPT (blkCt Γ scope s H c cl fp) ifs f := h G.blk
theorem blkE {e : Expr} {f : En → R (D × Nat)} (G : Good Γ) (h : Good (blkCt Γ scope s H c cl fp) → EvE (blkCt Γ scope s H c cl fp) e f) : EvE (blkCt Γ scope s H c cl fp) e f := h G.blk
end
end Pv
end

section
set_option Elab.async false
set_option linter.all false
set_option maxRecDepth 100000
set_option maxHeartbeats 4000000
/-! Pv15: reckoning with the combinators. -/
namespace Pv
open PySem PySem.Spec PyProof.Rows L2

theorem at_0 {α : Type} {x : α} {xs : List α} : atI (x :: xs) 0 = some x := by simp [atI, ixN]
theorem at_1 {α : Type} {x y : α} {xs : List α} : atI (x :: y :: xs) 1 = some y := by
  have h : (1 : Int) < (xs.length : Int) + 1 + 1 := by omega
  simp [atI, ixN, h]
theorem at_nat {α : Type} {xs : List α} {k : Nat} (h : k < xs.length) : atI xs (k : Int) = some xs[k] := by
  have h1 : (0 : Int) ≤ (k : Int) := by omega
  have h2 : (k : Int) < (xs.length : Int) := by omega
  simp [atI, ixN, h1, h2, h]
@[simp] theorem le_lim {n : Nat} (h : n ≤ 100000) : n ≤ lim := Nat.le_trans h (by decide)
@[simp] theorem lt_lim {n : Nat} (h : n < 100000) : n < lim := Nat.lt_of_lt_of_le h (by decide)
theorem seqS_nx {f g : En → SR} {env e : En} (h : f env = .nx e) : seqS f g env = g e := by
  unfold seqS; rw [h]
theorem seqS_ret {f g : En → SR} {env e : En} {p : D × Nat} (h : f env = .ret p e) : seqS f g env = .ret p e := by
  unfold seqS; rw [h]
theorem seqS_ex {f g : En → SR} {env : En} {x : Xn} (h : f env = .ex x) : seqS f g env = .ex x := by
  unfold seqS; rw [h]
theorem fnF_ret {n : Nat} {g : En → SR} {ds : List D} {p : D × Nat} {e : En} (h : g (en0 n none ds) = .ret p e) : fnF n false g none ds = .ok p none := by
  unfold fnF; rw [h]; rfl
theorem fnF_nx {n : Nat} {g : En → SR} {ds : List D} {e : En} (h : g (en0 n none ds) = .nx e) : fnF n false g none ds = .ok (.non, 0) none := by
  unfold fnF; rw [h]; rfl
theorem fnF_ex {n : Nat} {g : En → SR} {ds : List D} {x : Xn} (h : g (en0 n none ds) = .ex x) : fnF n false g none ds = .ex x := by
  unfold fnF; rw [h]
theorem iteS_t {c : En → R Bool} {f g : En → SR} {env e : En} (h : c env = .ok true e) : iteS c f g env = f e := by
  unfold iteS; rw [h]; rfl
theorem iteS_f {c : En → R Bool} {f g : En → SR} {env e : En} (h : c env = .ok false e) : iteS c f g env = g e := by
  unfold iteS; rw [h]; rfl
/-- a comprehension's turns: what each item gives -/
theorem compL_map {g : D → En → Option En} {tt : En → R Bool} {te : En → R (D × Nat)} {m : Nat} {vs : List Nat} (I : En → Prop) (f : D → D) : ∀ (ds : List D) (env : En) (acc : List D), I env → acc.length + ds.length ≤ lim →
    (∀ d ∈ ds, ∀ env, I env → ∃ e1 e2 e3, g d env = some e1 ∧ tt e1 = .ok true e2 ∧ te e2 = .ok (f d, m) e3 ∧ I (wipeE e3 vs)) → ∃ e, compL g tt te m vs ds env acc = .ok (acc ++ ds.map f) e ∧ I e
  | [], env, acc, hI, _, _ => ⟨env, by simp [compL], hI⟩
  | d :: ds, env, acc, hI, hl, h => by
    obtain ⟨e1, e2, e3, h1, h2, h3, h4⟩ := h d List.mem_cons_self env hI
    have hl' : acc.length < lim := by simp only [List.length_cons] at hl; omega
    obtain ⟨e, q1, q2⟩ := compL_map I f ds (wipeE e3 vs) (acc ++ [f d]) h4 (by simp only [List.length_append, List.length_cons, List.length_nil] at hl ⊢; omega) fun d' hd => h d' (List.mem_cons_of_mem _ hd)
    refine ⟨e, ?_, q2⟩
    unfold compL
    rw [h1]
    simp only [h2, h3, R.noX_ok, R.bind_ok, if_true, hl', and_self, q1, List.append_assoc, List.singleton_append, List.map_cons]
theorem comp_fix {fi : En → R (List D)} {g : D → En → Option En} {tt : En → R Bool} {te : En → R (D × Nat)} {m : Nat} {vs : List Nat} (f : D → D) {env env1 env0 env2 : En} {ds : List D} (hfi : fi env = .ok ds env1) (h0 : wipeE env1 vs = env0) (hb : backE env1 env0 vs = env2) (hl : ds.length ≤ lim)
    (h : ∀ d ∈ ds, ∃ e1 e2 e3, g d env0 = some e1 ∧ tt e1 = .ok true e2 ∧ te e2 = .ok (f d, m) e3 ∧ wipeE e3 vs = env0) : comp fi g tt te m vs env = .ok (.lst (ds.map f), m + 1) env2 := by
  obtain ⟨e, q1, q2⟩ := compL_map (g := g) (tt := tt) (te := te) (m := m) (vs := vs) (fun e => e = env0) f ds (wipeE env1 vs) [] h0 (by simpa using hl) (fun d hd e he => by subst he; exact h d hd)
  subst q2
  unfold comp
  rw [hfi]
  simp only [R.bind_ok, q1, List.nil_append, hb]
/-- with a test that each item answers -/
theorem compL_filter {g : D → En → Option En} {tt : En → R Bool} {te : En → R (D × Nat)} {m : Nat} {vs : List Nat} (env0 : En) (q : D → Bool) (f : D → D) : ∀ (ds : List D) (acc : List D), acc.length + ds.length ≤ lim →
    (∀ d ∈ ds, ∃ e1 e2, g d env0 = some e1 ∧ tt e1 = .ok (q d) e2 ∧ (q d = false → wipeE e2 vs = env0) ∧ (q d = true → ∃ e3, te e2 = .ok (f d, m) e3 ∧ wipeE e3 vs = env0)) → compL g tt te m vs ds env0 acc = .ok (acc ++ (ds.filter q).map f) env0
  | [], acc, _, _ => by simp [compL]
  | d :: ds, acc, hl, h => by
    obtain ⟨e1, e2, h1, h2, h3, h4⟩ := h d List.mem_cons_self
    have hl' : acc.length < lim := by simp only [List.length_cons] at hl; omega
    unfold compL
    rw [h1]
    simp only [h2, R.noX_ok, R.bind_ok]
    cases hq : q d with
    | false =>
      have ih := compL_filter env0 q f ds acc (by simp only [List.length_cons] at hl; omega) fun d' hd => h d' (List.mem_cons_of_mem _ hd)
      simp only [Bool.false_eq_true, if_false, h3 hq, ih, List.filter_cons, hq]
    | true =>
      obtain ⟨e3, h5, h6⟩ := h4 hq
      have ih := compL_filter env0 q f ds (acc ++ [f d]) (by simp only [List.length_append, List.length_cons, List.length_nil] at hl ⊢; omega) fun d' hd => h d' (List.mem_cons_of_mem _ hd)
      simp only [if_true, h5, R.noX_ok, R.bind_ok, hl', and_self, h6, ih, List.filter_cons, hq, List.map_cons, List.append_assoc, List.singleton_append]
theorem comp_filter {fi : En → R (List D)} {g : D → En → Option En} {tt : En → R Bool} {te : En → R (D × Nat)} {m : Nat} {vs : List Nat} (q : D → Bool) (f : D → D) {env env1 env0 env2 : En} {ds : List D} (hfi : fi env = .ok ds env1) (h0 : wipeE env1 vs = env0) (hb : backE env1 env0 vs = env2) (hl : ds.length ≤ lim)
    (h : ∀ d ∈ ds, ∃ e1 e2, g d env0 = some e1 ∧ tt e1 = .ok (q d) e2 ∧ (q d = false → wipeE e2 vs = env0) ∧ (q d = true → ∃ e3, te e2 = .ok (f d, m) e3 ∧ wipeE e3 vs = env0)) : comp fi g tt te m vs env = .ok (.lst ((ds.filter q).map f), m + 1) env2 := by
  have h1 := compL_filter (g := g) (tt := tt) (te := te) (m := m) (vs := vs) env0 q f ds [] (by simpa using hl) h
  subst h0
  unfold comp
  rw [hfi]
  simp only [R.bind_ok, h1, List.nil_append, hb]
/-- a loop that keeps what P tells -/
theorem loopS_inv {g : D → En → Option En} {body : En → SR} (P : En → Prop) : ∀ (ds : List D) (env : En), P env → (∀ d ∈ ds, ∀ env, P env → ∃ e1 e2, g d env = some e1 ∧ body e1 = .nx e2 ∧ P e2) → ∃ e, loopS g body ds env = .nx e ∧ P e
  | [], env, hP, _ => ⟨env, rfl, hP⟩
  | d :: ds, env, hP, h => by
    obtain ⟨e1, e2, h1, h2, h3⟩ := h d List.mem_cons_self env hP
    obtain ⟨e, q1, q2⟩ := loopS_inv P ds e2 h3 fun d' hd => h d' (List.mem_cons_of_mem _ hd)
    refine ⟨e, ?_, q2⟩
    unfold loopS
    rw [h1]
    simp only [h2]
    exact q1
theorem rgD_ok {l n : Nat} (hl : l ≤ 16000000) (hn : n ≤ 16000000) : rgD l n = some ((List.range (n - l)).map fun k : Nat => .int (l + k : Nat)) := by
  have h1 : (n : Int) < 4611686018427387904 := by omega
  have h2 : -4611686018427387904 ≤ (n : Int) := by omega
  have h3 : (l : Int) < 4611686018427387904 := by omega
  have h4 : -4611686018427387904 ≤ (l : Int) := by omega
  have e : ((n : Int) - (l : Int)).toNat = n - l := by omega
  unfold rgD
  have hb : rgB l n = true := by
    unfold rgB
    rw [Bool.and_eq_true]
    exact ⟨Nat.ble_eq_true_of_le (by omega), Nat.ble_eq_true_of_le (by omega)⟩
  rw [if_pos hb, e]
  simp
theorem rg2D_ok {l n : Nat} (hl : l ≤ 16000000) (hn : n ≤ 16000000) : rg2D [.int l, .int n] = some ((List.range (n - l)).map fun k : Nat => .int (l + k : Nat)) := by
  unfold rg2D
  exact rgD_ok hl hn
theorem rg1D_ok {n : Nat} (hn : n ≤ 16000000) : rg1D [.int n] = some ((List.range n).map fun k : Nat => .int k) := by
  have h := rgD_ok (l := 0) (Nat.zero_le _) hn
  simp only [Nat.zero_add, Nat.sub_zero] at h
  exact h
theorem rg1_ok {f : En → R (List D)} {env env1 : En} {n : Nat} (h : f env = .ok [.int n] env1) (hn : n ≤ 16000000) : rg1 f env = .ok ((List.range n).map fun k : Nat => .int k) env1 := by
  unfold rg1
  rw [h, R.bind_ok, rg1D_ok hn, R.of_some]
theorem rg2_ok {f : En → R (List D)} {env env1 : En} {l n : Nat} (h : f env = .ok [.int l, .int n] env1) (hl : l ≤ 16000000) (hn : n ≤ 16000000) : rg2 f env = .ok ((List.range (n - l)).map fun k : Nat => .int (l + k : Nat)) env1 := by
  unfold rg2
  rw [h, R.bind_ok, rg2D_ok hl hn, R.of_some]
/-- a for loop's turns -/
theorem loopS_map {α β : Type} {g : D → En → Option En} {body : En → SR} (f : β → D) (T : α → β → α) (J : α → En) (P : α → Prop) : ∀ (bs : List β) (a : α), P a →
    (∀ b ∈ bs, ∀ a, P a → ∃ e1, g (f b) (J a) = some e1 ∧ body e1 = .nx (J (T a b)) ∧ P (T a b)) → loopS g body (bs.map f) (J a) = .nx (J (bs.foldl T a)) ∧ P (bs.foldl T a)
  | [], a, hP, _ => ⟨rfl, hP⟩
  | b :: bs, a, hP, h => by
    obtain ⟨e1, h1, h2, h3⟩ := h b List.mem_cons_self a hP
    have ih := loopS_map (g := g) (body := body) f T J P bs (T a b) h3 fun b' hb => h b' (List.mem_cons_of_mem _ hb)
    rw [List.map_cons, List.foldl_cons]
    refine ⟨?_, ih.2⟩
    unfold loopS
    rw [h1]
    simp only [h2]
    exact ih.1
/-- a for loop, turn by turn -/
theorem loopS_idx {β : Type} {g : D → En → Option En} {body : En → SR} (f : β → D) : ∀ (bs : List β) (J : Nat → En),
    (∀ i (h : i < bs.length), ∃ e1, g (f bs[i]) (J i) = some e1 ∧ body e1 = .nx (J (i + 1))) → loopS g body (bs.map f) (J 0) = .nx (J bs.length)
  | [], J, _ => rfl
  | b :: bs, J, h => by
    obtain ⟨e1, h1, h2⟩ := h 0 (by simp)
    have ih := loopS_idx (g := g) (body := body) f bs (fun i => J (i + 1)) fun i hi => by
      obtain ⟨e2, q1, q2⟩ := h (i + 1) (by simpa using hi)
      exact ⟨e2, by simpa using q1, q2⟩
    rw [List.map_cons]
    unfold loopS
    rw [show g (f b) (J 0) = some e1 from h1]
    simp only [h2]
    exact ih
theorem loopS_ex {β : Type} {g : D → En → Option En} {body : En → SR} (f : β → D) : ∀ (bs : List β) (P : Nat → En → Prop) (env : En), P 0 env →
    (∀ i (h : i < bs.length) env, P i env → ∃ e1 e2, g (f bs[i]) env = some e1 ∧ body e1 = .nx e2 ∧ P (i + 1) e2) → ∃ e, loopS g body (bs.map f) env = .nx e ∧ P bs.length e
  | [], P, env, h0, _ => ⟨env, rfl, h0⟩
  | b :: bs, P, env, h0, h => by
    obtain ⟨e1, e2, h1, h2, h3⟩ := h 0 (by simp) env h0
    obtain ⟨e, q1, q2⟩ := loopS_ex (g := g) (body := body) f bs (fun i => P (i + 1)) e2 h3 fun i hi env hP => by
      obtain ⟨a, b, r1, r2, r3⟩ := h (i + 1) (by simpa using hi) env hP
      exact ⟨a, b, by simpa using r1, r2, r3⟩
    refine ⟨e, ?_, q2⟩
    rw [List.map_cons]
    unfold loopS
    rw [show g (f b) env = some e1 from h1]
    simp only [h2]
    exact q1
theorem loopS_range {g : D → En → Option En} {body : En → SR} (f : Nat → D) (n : Nat) (J : Nat → En)
    (h : ∀ i, i < n → ∃ e1, g (f i) (J i) = some e1 ∧ body e1 = .nx (J (i + 1))) : loopS g body ((List.range n).map f) (J 0) = .nx (J n) := by
  have := loopS_idx (g := g) (body := body) f (List.range n) J fun i hi => by
    simp only [List.length_range] at hi
    simpa using h i hi
  simpa using this
theorem forS_ok {fi : En → R (List D)} {g : D → En → Option En} {body : En → SR} {env env1 : En} {ds : List D} (h : fi env = .ok ds env1) : forS fi g body env = loopS g body ds env1 := by
  unfold forS
  rw [h]
  rfl
@[simp] theorem eqB_int (i j : Int) : eqB (.int i) (.int j) = some (decide (i = j)) := by
  simp [eqB, D.py, SeqAt.shaped, PyData.eqv, PyData.canLay0, PyData.depth]
  first | rfl | (cases i <;> cases j <;> rfl)
@[simp] theorem eqB_bl (i j : Bool) : eqB (.bl i) (.bl j) = some (decide (i = j)) := by
  simp [eqB, D.py, SeqAt.shaped, PyData.eqv, PyData.canLay0, PyData.depth]
  first | rfl | (cases i <;> cases j <;> rfl)
theorem eqB_str {i j : Str} (h : PyData.strOk i = true) (h' : PyData.strOk j = true) : eqB (.str i) (.str j) = some (decide (i = j)) := by
  simp [eqB, D.py, SeqAt.shaped, PyData.eqv, PyData.canLay0, PyData.depth, h, h']
  by_cases e : i = j
  · simp [e]
  · simp [e]
@[simp] theorem eqD_int (i j : Int) : eqD (.int i) (.int j) = some (.bl (decide (i = j)), 0) := by simp [eqD]
@[simp] theorem eqD_bl (i j : Bool) : eqD (.bl i) (.bl j) = some (.bl (decide (i = j)), 0) := by simp [eqD]
theorem eqD_str {i j : Str} (h : PyData.strOk i = true) (h' : PyData.strOk j = true) : eqD (.str i) (.str j) = some (.bl (decide (i = j)), 0) := by simp [eqD, eqB_str h h']
@[simp] theorem neD_int (i j : Int) : neD (.int i) (.int j) = some (.bl (!decide (i = j)), 0) := by simp [neD]
theorem neD_str {i j : Str} (h : PyData.strOk i = true) (h' : PyData.strOk j = true) : neD (.str i) (.str j) = some (.bl (!decide (i = j)), 0) := by simp [neD, eqB_str h h']
/-- sorting goes through a map -/
theorem mrg_map {α β : Type} {le : α → α → Bool} {le' : β → β → Bool} {f : β → α} (h : ∀ a b, le (f a) (f b) = le' a b) : ∀ (k : Nat) (xs ys : List β), mrg le k (xs.map f) (ys.map f) = (mrg le' k xs ys).map f
  | 0, xs, ys => by simp [mrg]
  | k + 1, [], ys => by simp [mrg]
  | k + 1, x :: xs, [] => by simp [mrg]
  | k + 1, x :: xs, y :: ys => by
    show (if le (f x) (f y) then f x :: mrg le k (xs.map f) ((y :: ys).map f) else f y :: mrg le k ((x :: xs).map f) (ys.map f)) = (if le' x y then x :: mrg le' k xs (y :: ys) else y :: mrg le' k (x :: xs) ys).map f
    rw [h, mrg_map h k xs (y :: ys), mrg_map h k (x :: xs) ys]
    split <;> rfl
theorem msr_map {α β : Type} {le : α → α → Bool} {le' : β → β → Bool} {f : β → α} (h : ∀ a b, le (f a) (f b) = le' a b) : ∀ (k : Nat) (xs : List β), msr le k (xs.map f) = (msr le' k xs).map f
  | 0, xs => by simp [msr]
  | k + 1, [] => by simp [msr]
  | k + 1, [a] => by simp [msr]
  | k + 1, a :: b :: r => by
    show mrg le (((a :: b :: r).map f).length) (msr le k (((a :: b :: r).map f).take ((((a :: b :: r).map f).length + 1) / 2))) (msr le k (((a :: b :: r).map f).drop ((((a :: b :: r).map f).length + 1) / 2))) = (mrg le' ((a :: b :: r).length) (msr le' k ((a :: b :: r).take (((a :: b :: r).length + 1) / 2))) (msr le' k ((a :: b :: r).drop (((a :: b :: r).length + 1) / 2)))).map f
    rw [List.length_map, ← List.map_take, ← List.map_drop, msr_map h k, msr_map h k, mrg_map h]
theorem msr_perm {α : Type} (le : α → α → Bool) (xs : List α) : (msr le xs.length xs).Perm xs := by
  rw [msr_eq le _ _ (Nat.le_succ _)]
  exact List.mergeSort_perm _ _
end Pv
end

section
set_option Elab.async false
set_option linter.all false
set_option maxRecDepth 100000
set_option maxHeartbeats 4000000
/-! Pv16: how each law draws its numbers. -/
namespace Pv
open PySem PySem.Spec PyProof.Rows L2

def stB : En → SR := (seqS
  (setS 1 ((op2 addD (oOfV ((vOfE (op2 mulD (nmO 1) (oOfV (kI 1000003)))))) (oOfV ((vOfE (op1 absD (nmO 3)))))))) (setS 2 ((op2 modD (oOfV ((vOfE (op1 intD (oOfV ((vOfE (op2 addD (oOfV ((vOfE (op2 mulD (nmO 2) (oOfV (kI 48271)))))) (nmO 3))))))))) (oOfV (kI 2147483647))))))
def lawState : Sl → List D → FR := fnF 4 false (seqS (setS 1 ((eOfV (kI 0)))) (seqS (setS 2 ((eOfV (kI 1)))) (seqS (forS (seqI' ((vOfE (opS (nmO 0) pNone (pSome (kI 63)))))) (nameG 3) stB) (retS ((lstE (aCons ((nmV 1)) (aCons ((nmV 2)) aNil))))))))
def lawTake : Sl → List D → FR := fnF 3 true (seqS
  (iteS (tst (op2 (cmpD fun i j => decide (j < i)) (oOfV ((vOfE (op2 idxD (nmO 0) (oOfV (kI 0)))))) (oOfV (kI 0)))) (seqS
  (setS 2 ((op2 modD (oOfV ((vOfE (op1 intD (oOfV ((vOfE (op2 idxD (nmO 0) (oOfV (kI 0)))))))))) (nmO 1)))) (seqS
  (sItS 0 ((vOfE (op2 fdivD (oOfV ((vOfE (op2 idxD (nmO 0) (oOfV (kI 0)))))) (nmO 1)))) (kI 0)) (retM 2))) passS) (seqS
  (sItS 0 ((vOfE (op2 modD (oOfV ((vOfE (op1 intD (oOfV ((vOfE (op2 addD (oOfV ((vOfE (op2 mulD (oOfV ((vOfE (op2 idxD (nmO 0) (oOfV (kI 1)))))) (oOfV (kI 48271)))))) (oOfV (kI 11)))))))))) (oOfV (kI 2147483647))))) (kI 1)) (retS ((op2 modD (oOfV ((vOfE (op1 intD (oOfV ((vOfE (op2 fdivD (oOfV ((vOfE (op2 idxD (nmO 0) (oOfV (kI 1)))))) (oOfV (kI 7)))))))))) (nmO 1))))))
theorem sml1 : sml 1000003 = true := by decide
theorem sml2 : sml 48271 = true := by decide
theorem mul1 (a : Int) : mulD (.int a) (.int 1000003) = some (.int (a * 1000003), 0) := by simp [mulD, mulOk, sml1]
theorem mul2 (a : Int) : mulD (.int a) (.int 48271) = some (.int (a * 48271), 0) := by simp [mulD, mulOk, sml2]
theorem state_step (s z : Sl) (a b c : Int) : stB [s, some (.int a, 0), some (.int b, 0), some (.int c, 0)] = .nx [s, some (.int (a * 1000003 + if c < 0 then -c else c), 0), some (.int ((b * 48271 + c).fmod 2147483647), 0), some (.int c, 0)] := by
  unfold stB
  refine (seqS_nx (show setS 1 _ _ = .nx [s, some (.int (a * 1000003 + if c < 0 then -c else c), 0), some (.int b, 0), some (.int c, 0)] by simp [-List.map_map, fnF, en0, seqS, passS, noS, exprS, retS, retN, retM, putE, setS, iteS, vOfE, eOfV, oOfV, kI, kB, kS, kN, nmV, nmO, op1, op2, opC, tst, tru, truD, notT, andT, orT, blV, vbl, andV, orV, notV, iteE, aNil, aCons, lNil, lCons, tupE, lstE, dicE, Opd.get, callF, frR, callI, callL, own1, addD, subD, negD, cmpD, lenD, intD, tupD, lisD, absD, isiD, tyD, min2D, max2D, Pv.R.of, raiseS, asgS, nameG, nilG, consG, tupG, isD, nisD, isNB, opS, pNone, pSome, seqI', itsD, sItS, putD, wipeE, backE, mul1])).trans ?_
  simp [-List.map_map, fnF, en0, seqS, passS, noS, exprS, retS, retN, retM, putE, setS, iteS, vOfE, eOfV, oOfV, kI, kB, kS, kN, nmV, nmO, op1, op2, opC, tst, tru, truD, notT, andT, orT, blV, vbl, andV, orV, notV, iteE, aNil, aCons, lNil, lCons, tupE, lstE, dicE, Opd.get, callF, frR, callI, callL, own1, addD, subD, negD, cmpD, lenD, intD, tupD, lisD, absD, isiD, tyD, min2D, max2D, Pv.R.of, raiseS, asgS, nameG, nilG, consG, tupG, isD, nisD, isNB, opS, pNone, pSome, seqI', itsD, sItS, putD, wipeE, backE, mul2, modD]
theorem lawState_ok (ns : List Int) : ∃ a b : Int, lawState none [.scr ns] = .ok (.lst [.int a, .int b], 1) none := by
  have hl := loopS_map (g := nameG 3) (body := stB) D.int (fun (q : (Int × Int) × Sl) (c : Int) => ((q.1.1 * 1000003 + (if c < 0 then -c else c), (q.1.2 * 48271 + c).fmod 2147483647), some (.int c, 0)))
    (fun q => [some (.scr ns, 0), some (.int q.1.1, 0), some (.int q.1.2, 0), q.2]) (fun _ => True) (cutD ns none (some 63)) ((0, 1), none) trivial (fun c _ q _ => ⟨[some (.scr ns, 0), some (.int q.1.1, 0), some (.int q.1.2, 0), some (.int c, 0)], by simp [-List.map_map, fnF, en0, seqS, passS, noS, exprS, retS, retN, retM, putE, setS, iteS, vOfE, eOfV, oOfV, kI, kB, kS, kN, nmV, nmO, op1, op2, opC, tst, tru, truD, notT, andT, orT, blV, vbl, andV, orV, notV, iteE, aNil, aCons, lNil, lCons, tupE, lstE, dicE, Opd.get, callF, frR, callI, callL, own1, addD, subD, negD, cmpD, lenD, intD, tupD, lisD, absD, isiD, tyD, min2D, max2D, Pv.R.of, raiseS, asgS, nameG, nilG, consG, tupG, isD, nisD, isNB, opS, pNone, pSome, seqI', itsD, sItS, putD, wipeE, backE], state_step _ none _ _ _, trivial⟩)
  have hf : forS (seqI' ((vOfE (opS (nmO 0) pNone (pSome (kI 63)))))) (nameG 3) stB [some (.scr ns, 0), some (.int 0, 0), some (.int 1, 0), none] = loopS (nameG 3) stB ((cutD ns none (some 63)).map D.int) [some (.scr ns, 0), some (.int 0, 0), some (.int 1, 0), none] := forS_ok (by simp [-List.map_map, fnF, en0, seqS, passS, noS, exprS, retS, retN, retM, putE, setS, iteS, vOfE, eOfV, oOfV, kI, kB, kS, kN, nmV, nmO, op1, op2, opC, tst, tru, truD, notT, andT, orT, blV, vbl, andV, orV, notV, iteE, aNil, aCons, lNil, lCons, tupE, lstE, dicE, Opd.get, callF, frR, callI, callL, own1, addD, subD, negD, cmpD, lenD, intD, tupD, lisD, absD, isiD, tyD, min2D, max2D, Pv.R.of, raiseS, asgS, nameG, nilG, consG, tupG, isD, nisD, isNB, opS, pNone, pSome, seqI', itsD, sItS, putD, wipeE, backE, slD])
  have h2 := hf.trans hl.1
  generalize hq : List.foldl (fun (q : (Int × Int) × Sl) (c : Int) => ((q.1.1 * 1000003 + (if c < 0 then -c else c), (q.1.2 * 48271 + c).fmod 2147483647), some (D.int c, 0))) ((0, 1), none) (cutD ns none (some 63)) = q at h2
  refine ⟨q.1.1, q.1.2, fnF_ret (e := [some (.scr ns, 0), some (.int q.1.1, 0), some (.int q.1.2, 0), q.2]) ((seqS_nx (show setS 1 _ (en0 4 none [.scr ns]) = .nx [some (.scr ns, 0), some (.int 0, 0), none, none] by simp [-List.map_map, fnF, en0, seqS, passS, noS, exprS, retS, retN, retM, putE, setS, iteS, vOfE, eOfV, oOfV, kI, kB, kS, kN, nmV, nmO, op1, op2, opC, tst, tru, truD, notT, andT, orT, blV, vbl, andV, orV, notV, iteE, aNil, aCons, lNil, lCons, tupE, lstE, dicE, Opd.get, callF, frR, callI, callL, own1, addD, subD, negD, cmpD, lenD, intD, tupD, lisD, absD, isiD, tyD, min2D, max2D, Pv.R.of, raiseS, asgS, nameG, nilG, consG, tupG, isD, nisD, isNB, opS, pNone, pSome, seqI', itsD, sItS, putD, wipeE, backE])).trans ((seqS_nx (show setS 2 _ _ = .nx [some (.scr ns, 0), some (.int 0, 0), some (.int 1, 0), none] by simp [-List.map_map, fnF, en0, seqS, passS, noS, exprS, retS, retN, retM, putE, setS, iteS, vOfE, eOfV, oOfV, kI, kB, kS, kN, nmV, nmO, op1, op2, opC, tst, tru, truD, notT, andT, orT, blV, vbl, andV, orV, notV, iteE, aNil, aCons, lNil, lCons, tupE, lstE, dicE, Opd.get, callF, frR, callI, callL, own1, addD, subD, negD, cmpD, lenD, intD, tupD, lisD, absD, isiD, tyD, min2D, max2D, Pv.R.of, raiseS, asgS, nameG, nilG, consG, tupG, isD, nisD, isNB, opS, pNone, pSome, seqI', itsD, sItS, putD, wipeE, backE])).trans ((seqS_nx h2).trans (by simp [-List.map_map, fnF, en0, seqS, passS, noS, exprS, retS, retN, retM, putE, setS, iteS, vOfE, eOfV, oOfV, kI, kB, kS, kN, nmV, nmO, op1, op2, opC, tst, tru, truD, notT, andT, orT, blV, vbl, andV, orV, notV, iteE, aNil, aCons, lNil, lCons, tupE, lstE, dicE, Opd.get, callF, frR, callI, callL, own1, addD, subD, negD, cmpD, lenD, intD, tupD, lisD, absD, isiD, tyD, min2D, max2D, Pv.R.of, raiseS, asgS, nameG, nilG, consG, tupG, isD, nisD, isNB, opS, pNone, pSome, seqI', itsD, sItS, putD, wipeE, backE]))))⟩
theorem log7 : Nat.log2 7 < 9000 := by decide
theorem lawTake_ok (a b : Int) (m : Int) (hm : 0 < m) (hl : m.natAbs.log2 < 9000) : ∃ v a' b' : Int, lawTake (some (.lst [.int a, .int b], 1)) [.int m] = .ok (.int v, 0) (some (.lst [.int a', .int b'], 1)) ∧ 0 ≤ v ∧ v < m := by
  have hm0 : m ≠ 0 := by omega
  by_cases h : 0 < a
  · refine ⟨a.fmod m, a.fdiv m, b, ?_, Int.fmod_nonneg_of_pos _ hm, Int.fmod_lt_of_pos _ hm⟩
    unfold lawTake
    simp [-List.map_map, fnF, en0, seqS, passS, noS, exprS, retS, retN, retM, putE, setS, iteS, vOfE, eOfV, oOfV, kI, kB, kS, kN, nmV, nmO, op1, op2, opC, tst, tru, truD, notT, andT, orT, blV, vbl, andV, orV, notV, iteE, aNil, aCons, lNil, lCons, tupE, lstE, dicE, Opd.get, callF, frR, callI, callL, own1, addD, subD, negD, cmpD, lenD, intD, tupD, lisD, absD, isiD, tyD, min2D, max2D, Pv.R.of, raiseS, asgS, nameG, nilG, consG, tupG, isD, nisD, isNB, opS, pNone, pSome, seqI', itsD, sItS, putD, wipeE, backE, at_0, at_1, idxD, h, modD, fdivD, hm0, hl, ixN]
  · refine ⟨(((b * 48271 + 11).fmod 2147483647).fdiv 7).fmod m, a, (b * 48271 + 11).fmod 2147483647, ?_, Int.fmod_nonneg_of_pos _ hm, Int.fmod_lt_of_pos _ hm⟩
    unfold lawTake
    simp [-List.map_map, fnF, en0, seqS, passS, noS, exprS, retS, retN, retM, putE, setS, iteS, vOfE, eOfV, oOfV, kI, kB, kS, kN, nmV, nmO, op1, op2, opC, tst, tru, truD, notT, andT, orT, blV, vbl, andV, orV, notV, iteE, aNil, aCons, lNil, lCons, tupE, lstE, dicE, Opd.get, callF, frR, callI, callL, own1, addD, subD, negD, cmpD, lenD, intD, tupD, lisD, absD, isiD, tyD, min2D, max2D, Pv.R.of, raiseS, asgS, nameG, nilG, consG, tupG, isD, nisD, isNB, opS, pNone, pSome, seqI', itsD, sItS, putD, wipeE, backE, at_0, at_1, idxD, h, modD, fdivD, hm0, hl, mul2, ixN, log7]
end Pv
end

section
set_option Elab.async false
set_option linter.all false
set_option maxRecDepth 100000
set_option maxHeartbeats 4000000
/-! Pv17: lists of lists: x[i][j] read and written. -/
namespace Pv
open PySem PySem.Spec PyProof.Rows L2
section
variable {Γ : Ct} {x : Str} {p pos apos cpos sp : Pos} {e a b : Expr} {es : List Expr}
def kOp (g : Int → Int → Int) (fa fb : En → Option D) : En → Option D := fun env => match fa env, fb env with
  | some (.int i), some (.int j) => some (.int (g i j))
  | _, _ => none
theorem ek_op {op : Operator} {g : Int → Int → Int} {fa fb : En → Option D} (ho : OpR Γ.X (binaryOp op) (rI0 fun i j => .int (g i j))) (ha : EvK Γ a fa) (hb : EvK Γ b fb) : EvK Γ (.BinOp a op b pos) (kOp g fa fb) := by
  obtain ⟨ta, a1, a2⟩ := ha
  obtain ⟨tb, b1, b2⟩ := hb
  refine ⟨_, pe_op ho a1 b1, fun σ H Z env φ S d hd Q q => ?_⟩
  unfold kOp at hd
  split at hd
  · rename_i i j e1 e2
    cases hd
    refine a2 σ H Z env φ S _ e1 _ fun v hv => ?_
    cases hv
    refine b2 σ H Z env φ S _ e2 _ fun w hw => ?_
    cases hw
    exact ⟨i, j, rfl, rfl, q _ (.int _)⟩
  · cases hd
theorem ek_add {fa fb : En → Option D} (ha : EvK Γ a fa) (hb : EvK Γ b fb) : EvK Γ (.BinOp a .Add b pos) (kOp (· + ·) fa fb) := ek_op op_add ha hb
theorem ek_sub {fa fb : En → Option D} (ha : EvK Γ a fa) (hb : EvK Γ b fb) : EvK Γ (.BinOp a .Sub b pos) (kOp (· - ·) fa fb) := ek_op op_sub ha hb
/-- x[i][j] of a list of lists: nothing is shared by the reading -/
def get2 (dss : List D) (i j : Int) : Option D := (ixN dss.length i).bind fun m => match dss[m]? with
  | some (.lst ds) => atI ds j
  | _ => none
def ix2 (i : Nat) (fi fj : En → Option D) : En → R D := fun env => match env[i]?, fi env, fj env with
  | some (some (.lst dss, 2)), some (.int a), some (.int b) => R.of (get2 dss a b) env
  | _, _, _ => .no
theorem ev_ix2 {i : Nat} {fi fj : En → Option D} {ie je : Expr} {sp2 : Pos} (hN : Γ.X.N[i]? = some x) (hv : Vis Γ.X.env.scope x) (hi : EvK Γ ie fi) (hj : EvK Γ je fj) (hd : (x == ("__debug__" : Str)) = false := by decide) (hcd : (x == ("__classdict__" : Str)) = false := by decide) (hpi : PlainIx ie := by exact fun _ _ => rfl) (hpj : PlainIx je := by exact fun _ _ => rfl) :
    EvV Γ (.Subscript (.Subscript (.Name x p) ie sp) je sp2) (ix2 i fi fj) := by
  obtain ⟨ti, i1, i2⟩ := hi
  obtain ⟨tj, j1, j2⟩ := hj
  refine ⟨_, pe_ix ix_list (pe_ix ix_list (pe_var hN hv hd hcd) i1 hpi) j1 hpj, fun σ H Z env φ S Q P => ?_⟩
  unfold ix2 at P
  split at P
  · rename_i dss a b hd1 hi1 hj1
    cases eg : get2 dss a b with
    | none => rw [eg] at P; exact P.elim
    | some d =>
      rw [eg] at P
      unfold get2 at eg
      obtain ⟨m, hm, eg⟩ := Option.bind_eq_some_iff.mp eg
      split at eg
      · rename_i ds hds
        obtain ⟨v, hv1, o⟩ := S.slot i _ _ hd1
        rcases o with ⟨mm, _⟩ | ⟨A, xs, ds', B, rfl, e0, hA, hl, hc, hdj, hna, hoff, hφ⟩ | ⟨_, _, _, _, _, e, _⟩
        · cases mm
        · cases e0
          have hmx : m < xs.length := by rw [hl]; exact (List.getElem?_eq_some_iff.mp hds).1
          have hcm := hc m xs[m] (.lst ds) (List.getElem?_eq_getElem hmx) hds
          obtain ⟨q, us, eq, hq, r, hB⟩ := hcm.lst_inv
          refine ⟨.ref A, hv1, i2 σ H Z env φ S _ hi1 _ fun w hw => ?_⟩
          cases hw with
          | int _ =>
            refine ⟨A, xs, a, xs[m], rfl, rfl, SqL.of hA, ?_, ?_⟩
            · unfold atI
              rw [hl, hm]
              exact List.getElem?_eq_getElem hmx
            rw [eq]
            refine j2 σ H Z env φ S _ hj1 _ fun w hw => ?_
            cases hw with
            | int _ =>
              obtain ⟨y, hy1, hy2⟩ := atI_sh r eg
              exact ⟨q, us, b, y, rfl, rfl, SqL.of hq, hy1, Post.here P S hy2⟩
        · cases e
      · cases eg
  · exact P.elim
/-- x[i][j] = e -/
def sIt2 (i : Nat) (fe : En → R D) (fi fj : En → Option D) : En → SR := fun env => (fe env).then fun d env1 => match env1[i]?, fi env1, fj env1 with
  | some (some (.lst dss, 2)), some (.int a), some (.int b) => (match ixN dss.length a with
    | some m => (match dss[m]? with
      | some (.lst ds) => (match ixN ds.length b with
        | some l => .nx (env1.set i (some (.lst (dss.set m (.lst (ds.set l d))), 2)))
        | none => .no)
      | _ => .no)
    | none => .no)
  | _, _, _ => .no
theorem es_sub2 {i : Nat} {fe : En → R D} {fi fj : En → Option D} {ie je : Expr} (hN : Γ.X.N[i]? = some x) (hv : Vis Γ.X.env.scope x) (he : EvV Γ e fe) (hi : EvK Γ ie fi) (hj : EvK Γ je fj) (hd : (x == ("__debug__" : Str)) = false := by decide) (hcd : (x == ("__classdict__" : Str)) = false := by decide) (hpi : PlainIx ie := by exact fun _ _ => rfl)
    (ha : ∀ v, assign (.Subscript (.Subscript (.Name x p) ie sp) je apos) Γ.X.env v = (do
      let ov ← holding [v] (eval (.Subscript (.Name x p) ie sp) Γ.X.env)
      let iv ← holding [v, ov] (eval je Γ.X.env)
      standAt apos
      holding [v, ov, iv] (setItem ov iv v)
      release [v, ov, iv] []) := by intro _; rfl)
    (hs : swapsWithSole [.Subscript (.Subscript (.Name x p) ie sp) je apos] e pos.line Γ.X.env = pure false := by rfl) (hw : swappedStores [.Subscript (.Subscript (.Name x p) ie sp) je apos] e Γ.X.env = pure none := by rfl)
    (h1 : (assignEach [.Subscript (.Subscript (.Name x p) ie sp) je apos] Γ.X.env).map (·.2) = [assign (.Subscript (.Subscript (.Name x p) ie sp) je apos) Γ.X.env] := by rfl) :
    EvS Γ (.Assign [.Subscript (.Subscript (.Name x p) ie sp) je apos] e pos) (sIt2 i fe fi fj) := by
  obtain ⟨t, a1, a2⟩ := he
  obtain ⟨ti, i1, i2⟩ := hi
  obtain ⟨tj, j1, j2⟩ := hj
  refine ⟨_, ps_asg a1 (pg_sub (pe_ix ix_list (pe_var hN hv hd hcd) i1 hpi) j1 set_list ha) hs hw h1, fun σ H Z env φ S Dn P => ?_⟩
  refine a2.then S P fun d env1 vv H1 Z1 φ1 A0 e1 S1 q1 dj1 ev1 P1 => ?_
  have P := P1.mono Evo.dropA
  have hy : Sh Γ.C Z1 H1 vv d := q1
  split at P
  · rename_i dss a b hd1 hi1 hj1
    split at P
    · rename_i m hm
      split at P
      · rename_i ds hds
        split at P
        · rename_i l hl0
          obtain ⟨v, hv1, o⟩ := S1.slot i _ _ hd1
          rcases o with ⟨mm, _⟩ | ⟨A, xs, ds', B, rfl, e0, hA, hl, hc, hdj, hna, hoff, hφ⟩ | ⟨_, _, _, _, _, e, _⟩
          · cases mm
          · cases e0
            have hmx : m < xs.length := by rw [hl]; exact (List.getElem?_eq_some_iff.mp hds).1
            have hcm := hc m xs[m] (.lst ds) (List.getElem?_eq_getElem hmx) hds
            obtain ⟨q, us, eq, hq, r, hB⟩ := hcm.lst_inv
            refine ⟨.ref A, hv1, i2 σ H1 Z1 env1 φ1 S1 _ hi1 _ fun w hw => ?_⟩
            cases hw with
            | int _ =>
              refine ⟨A, xs, a, xs[m], rfl, rfl, SqL.of hA, ?_, ?_⟩
              · unfold atI
                rw [hl, hm]
                exact List.getElem?_eq_getElem hmx
              rw [eq]
              refine j2 σ H1 Z1 env1 φ1 S1 _ hj1 _ fun w hw => ?_
              cases hw with
              | int _ =>
                refine ⟨q, us, b, l, rfl, rfl, hq, by rw [r.length]; exact hl0, ?_⟩
                have Bq : B m q := (hB q).mpr rfl
                have φq : φ1 i q := (hφ q).mpr (.inr ⟨m, Bq⟩)
                have nq : q ≠ A := fun z => hna m (by rw [← z]; exact Bq)
                have x : Ext Z1 H1 Z1 (upd H1 q (.lst (us.set l vv))) := Ext.upd hq (S1.nz i q φq) trivial
                have ow : Ow Γ.C Z1 (upd H1 q (.lst (us.set l vv))) 2 (.ref A) (.lst (dss.set m (.lst (ds.set l d)))) (φ1 i) := by
                  refine .inr (.inl ⟨A, xs, _, B, rfl, rfl, by rw [upd_ne (Ne.symm nq)]; exact hA, by rw [List.length_set]; exact hl, fun n u f h1 h2 => ?_, hdj, hna, hoff, hφ⟩)
                  by_cases hlm : n = m
                  · subst hlm
                    rw [List.getElem?_set_self (by rw [← hl]; exact hmx)] at h2
                    cases h2
                    rw [List.getElem?_eq_getElem hmx] at h1
                    cases h1
                    rw [eq]
                    exact (Ow.lst1 upd_same ((ShL.set hy l r).ext x)).congr fun c => (hB c).symm
                  · rw [List.getElem?_set_ne (Ne.symm hlm)] at h2
                    exact (hc n u f h1 h2).ext x fun c w z h => by
                      rw [upd_ne fun z2 : c = q => hlm (hdj n m c z (by rw [z2]; exact Bq))]; exact h
                have Sd := S1.drop i
                have S2 := Sd.go x (fun c w ⟨n, hl2, z⟩ h => by
                  rw [upd_ne fun z2 : c = q => hl2 (S1.dj n i c z (by rw [z2]; exact φq))]; exact h) (fun c ⟨n, _, z⟩ => S1.nz n c z) fun c z => by
                    by_cases z2 : c = q
                    · rw [z2, upd_same]; exact Option.some_ne_none _
                    · rw [upd_ne z2]; exact S1.zh c z
                have S3 := S2.reput (i := i) (by simpa using (List.getElem?_eq_some_iff.mp hd1).1) hv1 ow (fun n c hl2 z y => hl2 (S1.dj n i c z.2 y)) (fun c z => S1.nz i c z)
                rw [List.set_set] at S3
                refine P σ _ Z1 _ S3 ⟨fun c w h n => by rw [upd_ne fun z : c = q => n ⟨i, by rw [z]; exact φq⟩]; exact h, fun _ z => z, fun _ z => .inl z, fun c ⟨n, z⟩ => .inl ?_⟩
                by_cases z2 : n = i
                · simp only [if_pos z2] at z; exact ⟨i, z⟩
                · simp only [if_neg z2] at z; exact ⟨n, z.2⟩
          · cases e
        · exact P.elim
      · exact P.elim
    · exact P.elim
  · exact P.elim
end
end Pv
end

section
set_option Elab.async false
set_option linter.all false
set_option maxRecDepth 100000
set_option maxHeartbeats 4000000
/-! Pv18: tuple * int without a bound on the count; x[::-1]; str of ints; module tuples. -/
namespace Pv
open PySem PySem.Spec PyProof.Rows L2

theorem tuple_mul1 (l : Addr) (items : Array Value) (n : Nat) (dd : Option Addr) (sl : Array (Option Value)) (x : Int) (u : Tok) (c0 : (decide (x < -(2 ^ 63)) || decide (x ≥ 2 ^ 63)) = false) (c1 : (items.isEmpty || x == 1) = true) :
    Meets (Builtin.«tuple.__mul__» ⟨[.ref l, .int x u], []⟩) (fun _ R s => s.heap.get? l = some { cls := .type "tuple", dict := dd, data := .seq items n, slots := sl } ∧
      R (.ok (.ret (Value.ref l))) s) :=
  .of_wp fun prog w A R s h => by
    obtain ⟨hp, g, d, tk, os⟩ := s
    obtain ⟨hl, h⟩ := h
    have f1 := AutoSeq1.idx_int
    have hT : Shared.TypeIs (⟨hp, g, d, tk, os⟩ : Shared) (.ref l) "tuple" := ⟨_, hl, rfl⟩
    wp_walk using wpAny_loadPart' hl, wpAny_typeOf hT
    repeat (first
      | (refine wpAny_ite_false (decide_eq_false (by rw [c0]; exact Bool.false_ne_true)) ?_; wp_walk using wpAny_loadPart' hl, wpAny_typeOf hT)
      | (refine wpAny_ite_true (decide_eq_true c1) ?_; wp_walk using wpAny_loadPart' hl, wpAny_typeOf hT))
    exact ⟨_, rfl, h⟩
theorem tuple_mul0 (l : Addr) (items : Array Value) (n : Nat) (dd : Option Addr) (sl : Array (Option Value)) (x : Int) (u : Tok) (c0 : (decide (x < -(2 ^ 63)) || decide (x ≥ 2 ^ 63)) = false) (c1 : (items.isEmpty || x == 1) = false) (c2 : (decide (x ≤ 0) || items.isEmpty) = true) :
    Meets (Builtin.«tuple.__mul__» ⟨[.ref l, .int x u], []⟩) (fun _ R s => s.heap.get? l = some { cls := .type "tuple", dict := dd, data := .seq items n, slots := sl } ∧
      R (.ok (.ret (Value.ref s.heap.objs.size))) { s with heap := s.heap.push { cls := Value.type "tuple", data := Data.seq #[] }, toks := s.toks }) :=
  .of_wp fun prog w A R s h => by
    obtain ⟨hp, g, d, tk, os⟩ := s
    obtain ⟨hl, h⟩ := h
    have f1 := AutoSeq1.idx_int
    wp_walk using wpAny_loadPart' hl
    repeat (first
      | (refine wpAny_ite_false (decide_eq_false (by rw [c0]; exact Bool.false_ne_true)) ?_; wp_walk using wpAny_loadPart' hl)
      | (refine wpAny_ite_false (decide_eq_false (by rw [c1]; exact Bool.false_ne_true)) ?_; wp_walk using wpAny_loadPart' hl)
      | (refine wpAny_ite_true (decide_eq_true c2) ?_; wp_walk using wpAny_loadPart' hl))
    exact ⟨_, rfl, h⟩
def rRepA (K : PySem.W.Frag) : R2 := fun x y H Q => ∃ l k xs, x = .ref l ∧ y = .int k ∧ SqT K H l xs ∧ -(2 ^ 63) ≤ k ∧ k < 2 ^ 63 ∧ (((xs = [] ∨ k = 1) ∧ Q (.ref l) H) ∨ (xs ≠ [] ∧ k ≤ 0 ∧ ∀ p, H p = none → Q (.ref p) (upd H p (.tup []))) ∨ (xs ≠ [] ∧ 2 ≤ k ∧ k.toNat * xs.length ≤ lim ∧ ∀ p, H p = none → Q (.ref p) (upd H p (.tup (List.replicate k.toNat xs).flatten))))
theorem op_repA {X : Cx} : OpR X (binaryOp .Mult) (rRepA X.K) := by
  intro pins s σ H x y v u Q I rx ry h
  obtain ⟨l, k, xs, rfl, rfl, hT, hk1, hk2, q⟩ := h
  cases rx
  obtain ⟨t, rfl⟩ := ry
  obtain ⟨its, r, ⟨⟨cls, dd, data, sl⟩, ho, hc, n, hd⟩, hs⟩ := I.tuple hT
  simp only at hc hd
  subst hc hd
  have hle : its.length = xs.length := r.length.symm
  have c0 : (decide (k < -(2 ^ 63)) || decide (k ≥ 2 ^ 63)) = false := by
    rw [decide_eq_false (by omega), decide_eq_false (by omega)]; rfl
  have emp : its.toArray.isEmpty = decide (xs = []) := by
    cases xs with
    | nil =>
      cases its with
      | nil => rfl
      | cons a b => simp at hle
    | cons a b =>
      cases its with
      | nil => simp at hle
      | cons c d => rfl
  refine wpAny_binaryOp_repeat_ref (T := "tuple") (U := "int") (by decide) ⟨_, ho, rfl⟩ (fun s' => typeIs_int s' k t) noFill_tuple_mul F.fills_int_mul F.slot_int_rmul repeat_tuple F.slot_int_index.lookup
    (call_meets F.slot_int_rmul (typeIs_int s k t) F.entry_int_rmul (F.args_int_rmul_2 _ _) (int_rmul_tuple k t l its.toArray n dd sl) ⟨ho, rfl, ⟨_, ho, rfl⟩, ?_⟩)
  by_cases h1 : (its.toArray.isEmpty || k == 1) = true
  · have h1' : xs = [] ∨ k = 1 := by
      rw [Bool.or_eq_true, emp, decide_eq_true_eq, beq_iff_eq] at h1
      exact h1
    refine call_meets F.slot_tuple_mul ⟨_, ho, rfl⟩ F.entry_tuple_mul (F.args_tuple_mul_2 _ _) (tuple_mul1 l its.toArray n dd sl k t c0 h1) ⟨ho, ?_⟩
    rcases q with ⟨_, q⟩ | ⟨hn, hk, _⟩ | ⟨hn, hk, _⟩
    · exact ⟨.ref l, H, I, rfl, q⟩
    · exact absurd h1' (by rintro (h | h); exact hn h; omega)
    · exact absurd h1' (by rintro (h | h); exact hn h; omega)
  · have h1b : (its.toArray.isEmpty || k == 1) = false := by simpa using h1
    have h1' : xs ≠ [] ∧ k ≠ 1 := by
      rw [Bool.or_eq_false_iff, emp, decide_eq_false_iff_not, beq_eq_false_iff_ne] at h1b
      exact h1b
    have hi : its.toArray.isEmpty = false := by rw [emp]; exact decide_eq_false h1'.1
    rcases q with ⟨hh, _⟩ | ⟨_, hk, q⟩ | ⟨_, hk, hz, q⟩
    · exact absurd hh (by rintro (h | h); exact h1'.1 h; exact h1'.2 h)
    · refine call_meets F.slot_tuple_mul ⟨_, ho, rfl⟩ F.entry_tuple_mul (F.args_tuple_mul_2 _ _) (tuple_mul0 l its.toArray n dd sl k t c0 h1b (by rw [hi, Bool.or_false]; exact decide_eq_true hk)) ⟨ho, ?_⟩
      exact ⟨.ref s.heap.objs.size, _, I.laid (t' := s.toks) (o := .tup []) (fun b ob q => Heap.get?_push_of_some _ q) (Nat.le_refl _) ⟨by show 0 ≤ sizeLine; exact Nat.zero_le _, [], .nil, ⟨_, Heap.get?_push_size _ rfl, rfl, _, rfl⟩⟩, rfl, q _ (I.hok.fresh (Nat.le_refl _))⟩
    · have hsz0 : its.toArray.size = xs.length := by rw [List.size_toArray, hle]
      have hm2 : ((its.toArray.size : Nat) : Int) * k = ((k.toNat * xs.length : Nat) : Int) := by
        rw [hsz0, Int.natCast_mul, Int.toNat_of_nonneg (by omega), Int.mul_comm]
      have hzl : k.toNat * xs.length ≤ sizeLine := lim_le hz
      have hz16 : k.toNat * xs.length ≤ 16000000 := hz
      have flen : (List.replicate k.toNat its).flatten.length ≤ sizeLine := by
        rw [PyProof.Rows.lm_len_rep_flat, hle]; exact hzl
      have c2 : (decide (k ≤ 0) || its.toArray.isEmpty) = false := by
        rw [hi, Bool.or_false]
        exact decide_eq_false (by omega)
      have c4 : Builtin.Tuple.tupleTooMany (((its.toArray.size : Nat) : Int) * k) = false := by
        unfold Builtin.Tuple.tupleTooMany
        rw [hm2]
        exact decide_eq_false (by omega)
      have c3 : ¬ ((its.toArray.size : Nat) : Int) * k > (2 ^ 63 - 1) / 8 := by
        rw [hm2]; omega
      refine call_meets F.slot_tuple_mul ⟨_, ho, rfl⟩ F.entry_tuple_mul (F.args_tuple_mul_2 _ _) (tuple_mulW l its.toArray n dd sl k t c0 h1b c2 c3 c4 (by rw [size_rep, List.size_toArray]; exact flen)) ⟨ho, ?_⟩
      rw [size_rep]
      refine ⟨.ref s.heap.objs.size, _, I.laid (t' := s.toks) (o := .tup (List.replicate k.toNat xs).flatten) (fun b ob q => Heap.get?_push_of_some _ q) (Nat.le_refl _) ?_, rfl, q _ (I.hok.fresh (Nat.le_refl _))⟩
      exact ⟨by rw [PyProof.Rows.lm_len_rep_flat]; exact hzl, _, r.rep k.toNat, IsTup.new _ _⟩
def repB (k : Int) : Bool := Nat.ble k.natAbs 9223372036854775807
def repD : D → D → Option (D × Nat)
  | .tup xs, .int k => if repB k = true then (if xs.isEmpty = true ∨ k = 1 then some (.tup xs, 0) else if k ≤ 0 then some (.tup [], 0) else if k.toNat * xs.length ≤ lim then some (.tup (List.replicate k.toNat xs).flatten, 0) else none) else none
  | x, y => mulD x y
section
variable {Γ : Ct} {a b : Expr} {fa fb : En → R Opd} {pos : Pos}
theorem shl_rep {C : RC} {Z : Fp} {H : Hp} {us : List V} {ds : List D} (r : ShL C Z H us ds) : ∀ n : Nat, ShL C Z H (List.replicate n us).flatten (List.replicate n ds).flatten
  | 0 => .nil
  | n + 1 => by
    rw [List.replicate_succ, List.replicate_succ, List.flatten_cons, List.flatten_cons]
    exact r.append (shl_rep r n)
theorem does_rep (G : Good Γ) : Does2 Γ repD (fun x y H Q => rMulA Γ.X.K x y H Q ∨ rRepA Γ.X.K x y H Q) := by
  intro σ H Z env φ S x y d e p hx hy hg Q P
  unfold repD at hg
  split at hg
  · rename_i xs k
    split at hg
    · rename_i hb
      have hb' : -(2 ^ 63) ≤ k ∧ k < 2 ^ 63 := by
        have := Nat.le_of_ble_eq_true hb
        omega
      obtain ⟨a, us, rfl, ha, r⟩ := hx.tupI
      have ha' := ha
      rw [G.hK] at ha'
      have hl := r.length
      refine .inr ⟨a, k, us, rfl, hy.intI, ha', hb'.1, hb'.2, ?_⟩
      have e0 : us = [] ↔ xs = [] := by
        rw [← List.length_eq_zero_iff, ← List.length_eq_zero_iff, hl]
      split at hg
      · rename_i h1
        cases hg
        refine .inl ⟨h1.imp (fun h => e0.mpr (List.isEmpty_iff.mp h)) id, ?_⟩
        exact Post.here P S (Ow.sh (.tup ha r))
      · rename_i h1
        have hne : us ≠ [] := fun h => h1 (.inl (List.isEmpty_iff.mpr (e0.mp h)))
        split at hg
        · rename_i h2
          cases hg
          exact .inr (.inl ⟨hne, h2, fun l hl => Post.newT P S hl (Ow.sh (.tup (SqT.of upd_same) .nil))⟩)
        · rename_i h2
          split at hg
          · rename_i h3
            cases hg
            have hk1 : k ≠ 1 := fun h => h1 (.inr h)
            exact .inr (.inr ⟨hne, by omega, by rw [hl]; exact h3, fun l hl => Post.newT P S hl (Ow.sh (.tup (SqT.of upd_same) ((shl_rep r _).ext (Ext.new hl))))⟩)
          · cases hg
    · cases hg
  · exact .inl (does_mul G σ H Z env φ S x y _ _ p hx hy hg Q P)
theorem ev_rep (G : Good Γ) (ha : EvO Γ a fa) (hb : EvO Γ b fb) : EvE Γ (.BinOp a .Mult b pos) (op2 repD fa fb) := ev_op2 (ta := rAddA Γ.X.K) (mk := fun x _ => x) ha hb (fun _ _ p q => pe_op ((op_mulZ.or (op_rep.or op_repT)).or op_repA) p q) (does_rep G)
end
end Pv
end

section
set_option Elab.async false
set_option linter.all false
set_option maxRecDepth 100000
set_option maxHeartbeats 4000000
/-! Pv19: x[::-1]; str of ints; module tuples. -/
namespace HT
open PySem PySem.Spec PyProof.Rows L2
section
variable {prog : Program} {w : World} {A : Around} {E : Value → Shared → Prop} {s : Shared}
theorem rev_get (l : List Value) (m : Nat) (h : m < l.length) : l.reverse[m]? = l[l.length - 1 - m]? := by
  rw [List.getElem?_reverse h]
theorem fm_congr {α β : Type} {f g : α → Option β} : ∀ {l : List α}, (∀ x ∈ l, f x = g x) → l.filterMap f = l.filterMap g
  | [], _ => rfl
  | x :: l, h => by
    rw [List.filterMap_cons, List.filterMap_cons, h x List.mem_cons_self, fm_congr fun y hy => h y (List.mem_cons_of_mem _ hy)]
theorem filter_all : ∀ l : List Value, (List.range l.length).filterMap (fun m => l[m]?) = l
  | [] => rfl
  | x :: l => by
    rw [List.length_cons, List.range_succ_eq_map, List.filterMap_cons]
    simp only [List.getElem?_cons_zero, List.filterMap_map]
    have : ((fun m => (x :: l)[m]?) ∘ Nat.succ) = fun m => l[m]? := by
      funext m
      simp
    rw [this, filter_all l]
theorem pick_rev (xs : Array Value) : ((List.range xs.size).filterMap fun (m : Nat) => xs[(((xs.size : Nat) : Int) - 1 + (m : Int) * (-1)).toNat]?).toArray = xs.toList.reverse.toArray := by
  congr 1
  have h1 : (List.range xs.size).filterMap (fun (m : Nat) => xs[(((xs.size : Nat) : Int) - 1 + (m : Int) * (-1)).toNat]?) = (List.range xs.toList.reverse.length).filterMap fun m => xs.toList.reverse[m]? := by
    rw [List.length_reverse, Array.length_toList]
    apply fm_congr
    intro m hm
    have hm := List.mem_range.mp hm
    rw [rev_get _ _ (by simpa using hm), Array.length_toList]
    have e : (((xs.size : Nat) : Int) - 1 + (m : Int) * (-1)).toNat = xs.size - 1 - m := by omega
    rw [e]
    simp
  rw [h1, filter_all]
theorem sliceApplied_rev {sl : Addr} {vl vu vs : Value} {n : Nat} {Q : Int × Int × Nat → Shared → Prop} (hs : s.heap.IsSliceOf sl vl vu vs) (pl : IsPart vl none) (pu : IsPart vu none) (ps : IsPart vs (some (-1)))
    (h : Q ((n : Int) - 1, -1, n) s) : wpAny (model prog w) A (Builtin.Slice.sliceApplied (.ref sl) (pure (n : Int))) Q E s := by
  obtain ⟨os, hos, hcs, hds⟩ := id hs
  unfold Builtin.Slice.sliceApplied Builtin.Slice.sliceFields
  refine wpAny_bind (wpAny_bind (wpAny_field hos hds (x := vl) rfl (wpAny_bind (wpAny_field hos hds (x := vu) rfl (wpAny_bind (wpAny_field hos hds (x := vs) rfl (wpAny_pure ?_)))))))
  refine wpAny_bind (slicePart_ ps ?_)
  show wpAny _ _ (if ((-1 : Int) == 0) = true then _ else _) _ _ s
  rw [if_neg (by decide)]
  refine wpAny_bind (slicePart_ pl (wpAny_bind (slicePart_ pu (wpAny_bind (wpAny_pure ?_)))))
  show wpAny _ _ (match Builtin.Slice.sliceAdjust none none (-1) (n : Int) with | (lo, hi) => pure (lo, (-1 : Int), Builtin.Slice.slicePlaces lo hi (-1))) _ _ s
  have e1 : Builtin.Slice.sliceAdjust none none (-1) (n : Int) = ((n : Int) - 1, -1) := rfl
  have e2 : Builtin.Slice.slicePlaces ((n : Int) - 1) (-1) (-1) = n := by
    unfold Builtin.Slice.slicePlaces
    simp
    try omega
  rw [e1]
  show wpAny _ _ (pure ((n : Int) - 1, (-1 : Int), Builtin.Slice.slicePlaces ((n : Int) - 1) (-1) (-1))) _ _ s
  rw [e2]
  exact wpAny_pure h
theorem getItem_tuple_rev {t sl : Addr} {items : Array Value} {vl vu vs : Value} {Q : Value → Shared → Prop} (ht : IsTup s.heap t items) (hs : s.heap.IsSliceOf sl vl vu vs) (pl : IsPart vl none) (pu : IsPart vu none) (ps : IsPart vs (some (-1)))
    (h : Q (.ref s.heap.objs.size) { s with heap := s.heap.push { cls := .type "tuple", data := .seq items.toList.reverse.toArray } }) (hsz : items.size ≤ sizeLine) : wpAny (model prog w) A (getItem (.ref t) (.ref sl)) Q E s := by
  have htake : sizeOk (.seq items.toList.reverse.toArray) := by
    show items.toList.reverse.toArray.size ≤ sizeLine
    rw [List.size_toArray, List.length_reverse, Array.length_toList]
    exact hsz
  obtain ⟨os, hos, hcs, hds⟩ := id hs
  have hTs : s.TypeIs (.ref sl) "slice" := ⟨os, hos, hcs⟩
  unfold getItem
  try with_reducible refine wpAny_holding ?_
  first | refine wpAny_bind (wpAny_pure ?_) | skip
  refine wpAny_bind (wpAny_sequenceKey ht.typeIs (by decide) ?_)
  refine wpAny_bind (wpAny_callSpecial?_slot (name := Str.ofString "__getitem__") ht.typeIs PyProof.Rows.slot_tuple_getitem
    (wpAny_call_entry PyProof.Rows.slot_tuple_getitem ht.typeIs entry_tuple_getitem ?_ (args_tuple_getitem _ _)))
  show wpAny _ _ (Builtin.Tuple.tupleItemsOf (.ref t) >>= _) _ _ s
  refine wpAny_bind (tupleItemsOf_ ht ?_)
  refine wpAny_bind (wpAny_typeOf hTs ?_)
  rw [if_pos (by decide)]
  refine wpAny_bind (sliceApplied_rev hs pl pu ps ?_)
  have hno : ¬ ((((items.size : Nat) : Int) - 1 == 0 && (-1 : Int) == 1 && items.size == items.size) = true) := by
    intro q
    rw [Bool.and_eq_true, Bool.and_eq_true] at q
    exact absurd q.1.2 (by decide)
  show wpAny _ _ (if (((items.size : Nat) : Int) - 1 == 0 && (-1 : Int) == 1 && items.size == items.size) = true then _ else _) _ _ s
  rw [if_neg hno, pick_rev]
  first
    | exact wpAny_bind (m := Builtin.Tuple.tupleExact _) (wpAny_newObj_type (wpAny_pure ⟨_, rfl, wpAny_pure h⟩) htake)
    | exact wpAny_bind (m := Builtin.Tuple.tupleExact _) (wpAny_newObj_type (wpAny_bind (wpAny_pure (wpAny_pure ⟨_, rfl, wpAny_pure h⟩))) htake)
    | exact wpAny_bind (wpAny_bind (m := Builtin.Tuple.tupleExact _) (wpAny_newObj_type (wpAny_pure (wpAny_pure ⟨_, rfl, wpAny_pure h⟩)) htake))
    | exact wpAny_bind (wpAny_bind (m := Builtin.Tuple.tupleExact _) (wpAny_newObj_type (wpAny_pure ⟨_, rfl, wpAny_pure h⟩) htake))
end
end HT
namespace Pv
open PySem PySem.Spec PyProof.Rows L2
/-- x[::-1], x a list or a tuple -/
def tRevA (K : PySem.W.Frag) (te : TE) : TE := fun σ H Q => te σ H fun x H1 => (∃ a xs, x = .ref a ∧ SqL K H1 a xs ∧ ∀ p, H1 p = none → Q (.ref p) (upd H1 p (.lst xs.reverse))) ∨ (∃ a xs, x = .ref a ∧ SqT K H1 a xs ∧ ∀ p, H1 p = none → Q (.ref p) (upd H1 p (.tup xs.reverse)))
theorem pe_revA {X : Cx} {e : Expr} {te : TE} {k : Nat} {p1 p2 p3 pos : Pos} (he : PE X e te) : PE X (.Subscript e (.Slice none none (some (.UnaryOp .USub (.Constant (.int 1) k p1) p2)) p3) pos) (tRevA X.K te) := by
  refine ⟨fun pins s σ H Q I h => ?_⟩
  refine Subscript_ (thn (he.run pins s σ H _ I h) fun v s1 ⟨x, H1, I1, r1, q1⟩ => ?_)
  have hst : PO X (some (.UnaryOp .USub (.Constant (.int 1) k p1) p2)) (tPart (tUn (rU fun i => .int (-i)) (tC (.int 1)))) := po_some (pe_un un_neg pe_int)
  refine wpAny_Slice (thn (po_none.run pins s1 σ H1 (fun o H2 => o = none ∧ H2 = H1) I1 ⟨rfl, rfl⟩) fun vl s2 ⟨l, H2, I2, pl, el, e2⟩ => ?_)
  subst el e2
  refine thn (po_none.run pins s2 σ H2 (fun o H3 => o = none ∧ H3 = H2) I2 ⟨rfl, rfl⟩) fun vu s3 ⟨u, H3, I3, pu, eu, e3⟩ => ?_
  subst eu e3
  refine thn (hst.run pins s3 σ H3 (fun o H4 => o = some (-1) ∧ H4 = H3) I3 ⟨1, rfl, -1, rfl, rfl, rfl⟩) fun vs s4 ⟨o, H4, I4, ps, eo, e4⟩ => ?_
  subst eo e4
  have I5 : Inv X pins σ H4 { s4 with heap := s4.heap.push { cls := .type "slice", data := .fields #[vl, vu, vs] } } := I4.kept (t' := s4.toks) fun b ob q => Heap.get?_push_of_some _ q
  rcases q1 with ⟨a, xs, ex, hx, q⟩ | ⟨a, xs, ex, hx, q⟩
  · subst ex
    cases r1
    obtain ⟨its, r, ht, hz⟩ := I5.list hx
    have hlen := r.length
    show wpAny (model X.prog X.w) X.A (subscriptTail e (.Slice none none (some (.UnaryOp .USub (.Constant (.int 1) k p1) p2)) p3) (.ref a) (.ref s4.heap.objs.size)) (EP X pins σ Q) X.xe { s4 with heap := s4.heap.push { cls := .type "slice", data := .fields #[vl, vu, vs] } }
    refine tail_any (ops := [.ref a, .ref s4.heap.objs.size]) ht.isList.typeIs (PySem.slot_list_getitem.lookup) ?_ (by with_unfolding_all rfl)
    refine wpAny_getItem_list_slice ht.isList (Heap.IsSliceOf.new _ vl vu vs) pl pu ps (by decide) ?_ (by rw [List.size_toArray]; omega)
    rw [PySem.W.krv_pick]
    refine ⟨.ref _, _, I5.laid (t' := s4.toks) (o := .lst xs.reverse) (fun b ob q => Heap.get?_push_of_some _ q) (Nat.le_refl _) ?_, rfl, q _ (I5.hok.fresh (Nat.le_refl _))⟩
    exact ⟨by rw [List.length_reverse]; exact hz, _, 0, r.reverse, Heap.get?_push_size _ rfl⟩
  · subst ex
    cases r1
    obtain ⟨its, r, ht, hz⟩ := I5.tuple hx
    have hlen := r.length
    show wpAny (model X.prog X.w) X.A (subscriptTail e (.Slice none none (some (.UnaryOp .USub (.Constant (.int 1) k p1) p2)) p3) (.ref a) (.ref s4.heap.objs.size)) (EP X pins σ Q) X.xe { s4 with heap := s4.heap.push { cls := .type "slice", data := .fields #[vl, vu, vs] } }
    refine tail_any (ops := [.ref a, .ref s4.heap.objs.size]) ht.typeIs (PyProof.Rows.slot_tuple_getitem.lookup) ?_ (by with_unfolding_all rfl)
    refine HT.getItem_tuple_rev ht (Heap.IsSliceOf.new _ vl vu vs) pl pu ps ?_ (by rw [List.size_toArray]; omega)
    refine ⟨.ref _, _, I5.laid (t' := s4.toks) (o := .tup xs.reverse) (fun b ob q => Heap.get?_push_of_some _ q) (Nat.le_refl _) ?_, rfl, q _ (I5.hok.fresh (Nat.le_refl _))⟩
    exact ⟨by rw [List.length_reverse]; exact hz, _, r.reverse, ⟨_, Heap.get?_push_size _ rfl, rfl, _, rfl⟩⟩
section
variable {Γ : Ct} {e a : Expr} {fa : En → R Opd} {pos p q p1 p2 p3 : Pos}
def revD : D → Option (D × Nat)
  | .lst xs => some (.lst xs.reverse, 1)
  | .tup xs => some (.tup xs.reverse, 0)
  | _ => none
theorem shl_rev {C : RC} {Z : Fp} {H : Hp} : ∀ {us : List V} {ds : List D}, ShL C Z H us ds → ShL C Z H us.reverse ds.reverse
  | _, _, .nil => .nil
  | _, _, .cons h r => by
    rw [List.reverse_cons, List.reverse_cons]
    exact (shl_rev r).append (.cons h .nil)
theorem ev_rev (G : Good Γ) {k : Nat} (ha : EvO Γ a fa) : EvE Γ (.Subscript a (.Slice none none (some (.UnaryOp .USub (.Constant (.int 1) k p1) p2)) p3) pos) (op1 revD fa) := by
  obtain ⟨t, h1, h2⟩ := ha
  refine ⟨_, pe_revA h1, ?_⟩
  have := Ev.op1 (g := revD) (r := fun x H1 Q => (∃ a xs, x = .ref a ∧ SqL Γ.X.K H1 a xs ∧ ∀ p, H1 p = none → Q (.ref p) (upd H1 p (.lst xs.reverse))) ∨ (∃ a xs, x = .ref a ∧ SqT Γ.X.K H1 a xs ∧ ∀ p, H1 p = none → Q (.ref p) (upd H1 p (.tup xs.reverse)))) h2 (fun σ H Z env φ S x d p hx hg Q P => by
    unfold revD at hg
    split at hg
    · cases hg
      obtain ⟨a, us, rfl, ha, r⟩ := hx.lstI
      exact .inl ⟨a, us, rfl, SqL.of ha, fun l hl => Post.newL P S hl (Ow.lst1 upd_same ((shl_rev r).ext (Ext.new hl)))⟩
    · cases hg
      obtain ⟨a, us, rfl, ha, r⟩ := hx.tupI
      rw [G.hK] at ha
      exact .inr ⟨a, us, rfl, ha, fun l hl => Post.newT P S hl (Ow.sh (.tup (SqT.of upd_same) ((shl_rev r).ext (Ext.new hl))))⟩
    · cases hg)
  exact this
/-- str(i) -/
def strD : D → Option (D × Nat)
  | .int i => if i.natAbs.log2 < 1920 then some (.str (toString i), 0) else none
  | _ => none
theorem ev_str1 (hg : Gl Γ.X "str") (hm : Γ.X.mg "str" = none) (ha : EvO Γ a fa) (hs : starEach [a] Γ.X.env = [(false, eval a Γ.X.env)] := by rfl) : EvE Γ (.Call (.Name "str" p) [a] [] pos) (op1 strD fa) :=
  ev_t1 call_str_int (fun σ H Z env φ S x d p hx hg Q P => by
    unfold strD at hg
    split at hg
    · split at hg
      · rename_i h
        cases hg
        rw [hx.intI]
        exact ⟨_, rfl, h, Post.here P S (Ow.sh (.str _))⟩
      · cases hg
    · cases hg) hg hm (by decide +kernel) ha (hs := hs)
end
/-! ### a module's tuple -/
/-- a tuple that the program's top has made: its data -/
structure TA (K : PySem.W.Frag) (mg : Str → Option Value) (x : Str) (d : D) where
  a : Addr
  m : mg x = some (.ref a)
  s : ∀ (C : RC) (Z : Fp) (H : Hp), C.K = K → Sh C Z H (.ref a) d
theorem ev_gtup {Γ : Ct} {K : PySem.W.Frag} {mg : Str → Option Value} {x : Str} {d : D} {pos : Pos} (A : TA K mg x d) (G : Good Γ) (hg : Gl Γ.X x) (hm : Γ.X.mg = mg := by rfl) (hK : Γ.X.K = K := by rfl) (hd : (x == ("__debug__" : Str)) = false := by decide) : EvV Γ (.Name x pos) (fun env => .ok d env) := by
  subst hm hK
  exact ev_c (v := .ref A.a) (fun Z H => A.s Γ.C Z H G.hK) (pe_glob hg A.m rfl hd)
/-- what a written value bears -/
inductive RelD : Value → D → Prop
  | int (i : Int) (t : Tok) : RelD (.int i t) (.int i)
  | str (i : Str) (t : Tok) : RelD (.str i t) (.str i)
theorem TA.of {K : PySem.W.Frag} {h : Heap} {mg : Str → Option Value} (X : K.In h) (G : h.Ns mainGlobals mg) {x : Str} {a : Addr} {od : Option Addr} {its : Array Value} {n : Nat} {sl : Array (Option Value)} {vs : List V} {ds : List D}
    (e : PySem.W.nsIn K mainGlobals x = some (some (.ref a))) (l : K.lookup a = some ⟨.type "tuple", od, .seq its n, sl⟩) (hz : its.size ≤ sizeLine) (hv : Vals vs its.toList) (hs : ∀ (C : RC) (Z : Fp) (H : Hp), ShL C Z H vs ds) : Nonempty (TA K mg x (.tup ds)) :=
  ⟨⟨a, PySem.W.mg_of X G e, fun C Z H hK => .tup (.inr ⟨_, its, n, by rw [hK]; exact l, rfl, rfl, hz, hv⟩) (hs C Z H)⟩⟩
end Pv
end

section
set_option Elab.async false
set_option linter.all false
set_option maxRecDepth 100000
set_option maxHeartbeats 4000000
/-! Pv20: pop. -/
namespace Pv
open PySem PySem.Spec PyProof.Rows L2
section
variable {Γ : Ct} {x : Str} {p pos apos cpos sp : Pos} {e a b : Expr} {es : List Expr}
def popV (i : Nat) : En → R D := fun env => match env[i]? with
  | some (some (.lst ds, 1)) => (match ds[ds.length - 1]? with
    | some d => .ok d (env.set i (some (.lst ds.dropLast, 1)))
    | none => .no)
  | _ => .no
theorem ShL.dropLast {C : RC} {Z : Fp} {H : Hp} : ∀ {us : List V} {ds : List D}, ShL C Z H us ds → ShL C Z H us.dropLast ds.dropLast
  | _, _, .nil => .nil
  | _, _, .cons h .nil => .nil
  | _, _, .cons h (.cons h' r) => .cons h (ShL.dropLast (.cons h' r))
theorem ev_pop {i : Nat} (hN : Γ.X.N[i]? = some x) (hv : Vis Γ.X.env.scope x) (hd : (x == ("__debug__" : Str)) = false := by decide) (hcd : (x == ("__classdict__" : Str)) = false := by decide)
    (hline : (apos.endLine == cpos.line) = true := by rfl) :
    EvV Γ (.Call (.Attribute (.Name x p) "pop" apos) [] [] cpos) (popV i) := by
  refine ⟨_, pe_bm0 PySem.F.plainAttrs_list PySem.F.slot_list_pop PySem.F.type_list_pop mt_pop (pe_var hN hv hd hcd) rfl hline, fun σ H Z env φ S Q P => ?_⟩
  unfold popV at P
  split at P
  · rename_i ds hds
    split at P
    · rename_i d hd
      obtain ⟨v, hv1, o⟩ := S.slot i _ _ hds
      obtain ⟨a', ys, e0, ha, r, hφ⟩ := o.lst_inv
      subst e0
      obtain ⟨y, hy1, hy2⟩ := r.get' hd
      refine ⟨.ref a', hv1, .inl ⟨rfl, ys, SqL.of ha⟩, a', ys, y, rfl, rfl, ha, by rw [r.length]; exact hy1, ?_⟩
      have x : Ext Z H Z (upd H a' (.lst ys.dropLast)) := Ext.upd ha (S.nz i a' ((hφ a').mpr rfl)) trivial
      obtain ⟨S2, ev2⟩ := S.upd (o := .lst ys.dropLast) (A := fun b => b = a') hv1 (List.getElem?_eq_some_iff.mp hds).1 ha trivial ((hφ a').mpr rfl) (fun b hb => (hφ b).mpr hb) (Ow.lst1 upd_same (r.dropLast.ext x))
      exact Post.here (P.mono ev2) S2 (hy2.ext x)
    · exact P.elim
  · exact P.elim
/-- x.pop(i), i an int -/
def popAtV (i : Nat) (fe : En → R D) : En → R D := fun env => if isLst env[i]? = true then (fe env).bind fun j env1 => match env1[i]?, j with
    | some (some (.lst ds, 1)), .int k => (match ixN ds.length k with
      | some m => (match ds[m]? with
        | some d => if repB k = true then .ok d (env1.set i (some (.lst (ds.eraseIdx m), 1))) else .no
        | none => .no)
      | none => .no)
    | _, _ => .no
  else .no
theorem ShL.erase {C : RC} {Z : Fp} {H : Hp} : ∀ {us : List V} {ds : List D} (m : Nat), ShL C Z H us ds → ShL C Z H (us.eraseIdx m) (ds.eraseIdx m)
  | _, _, _, .nil => .nil
  | _, _, 0, .cons h r => r
  | _, _, m + 1, .cons h r => .cons h (ShL.erase m r)
theorem ev_popAt {i : Nat} {fe : En → R D} (hN : Γ.X.N[i]? = some x) (hv : Vis Γ.X.env.scope x) (he : EvV Γ e fe) (hd : (x == ("__debug__" : Str)) = false := by decide) (hcd : (x == ("__classdict__" : Str)) = false := by decide)
    (hfew : ((backTo cpos (starEach [e] Γ.X.env)).all (fun x => !x.1) && (backToKw cpos (keywordEach [] Γ.X.env)).all (fun x => x.1.isSome) && decide ([e].length + ([] : List Keyword).length + (if ([] : List Keyword).isEmpty then 0 else 1) < 30)) = true := by rfl)
    (hline : (apos.endLine == cpos.line) = true := by rfl) (hs : starEach [e] Γ.X.env = (false, eval e Γ.X.env) :: starEach [] Γ.X.env := by rfl) :
    EvV Γ (.Call (.Attribute (.Name x p) "pop" apos) [e] [] cpos) (popAtV i fe) := by
  obtain ⟨t, h1, h2⟩ := he
  refine ⟨_, pe_bm PySem.F.plainAttrs_list PySem.F.slot_list_pop PySem.F.type_list_pop mt_popAt (pe_var hN hv hd hcd) (pa_cons h1 pa_nil hs) rfl hfew hline hs rfl, fun σ H Z env φ S Q P => ?_⟩
  unfold popAtV at P
  split at P
  · rename_i hl
    obtain ⟨a, xs, hv0, ha0⟩ := isLst_at S hl
    refine ⟨.ref a, hv0, .inl ⟨rfl, xs, SqL.of ha0⟩, ?_⟩
    refine h2.bind S P fun d env1 w H1 Z1 φ1 A e1 S1 q1 dj1 ev1 P1 => ?_
    have P2 := P1.mono (Evo.refl.sub (F2 := Tot φ1) fun _ z => .inl z)
    split at P2
    · rename_i ds k hds
      split at P2
      · rename_i m hm
        split at P2
        · rename_i d hd1
          split at P2
          · rename_i hk
            have hk' : -(2 ^ 63) ≤ k ∧ k < 2 ^ 63 := by
              have := Nat.le_of_ble_eq_true hk
              omega
            obtain ⟨v, hv1, o⟩ := S1.slot i _ _ hds
            rw [hv0] at hv1; cases hv1
            obtain ⟨a', ys, e0, ha, r, hφ⟩ := o.lst_inv
            cases e0
            have q1 : Sh Γ.C Z1 H1 w (.int k) := q1
            cases q1
            obtain ⟨y, hy1, hy2⟩ := r.get' hd1
            rw [← r.length] at hm
            refine ⟨a, ys, k, m, y, rfl, rfl, ha, hk'.1, hk'.2, (ixN_seq hm).1, hy1, ?_⟩
            have x : Ext Z1 H1 Z1 (upd H1 a (.lst (ys.eraseIdx m))) := Ext.upd ha (S1.nz i a ((hφ a).mpr rfl)) trivial
            obtain ⟨S2, ev2⟩ := S1.upd (o := .lst (ys.eraseIdx m)) (A := fun b => b = a) hv0 (List.getElem?_eq_some_iff.mp hds).1 ha trivial ((hφ a).mpr rfl) (fun b hb => (hφ b).mpr hb) (Ow.lst1 upd_same ((r.erase m).ext x))
            exact Post.here (P2.mono ev2) S2 (hy2.ext x)
          · exact P2.elim
        · exact P2.elim
      · exact P2.elim
    · exact P2.elim
  · exact P.elim
end
end Pv
end

section
set_option Elab.async false
set_option linter.all false
set_option maxRecDepth 100000
set_option maxHeartbeats 4000000
/-! Pv21: isinstance(x, (S, T)). -/
namespace Pv
open PySem PySem.Spec PyProof.Rows L2
section
variable {Γ : Ct} {e a b c : Expr} {fa fb fc : En → R Opd} {pos p q : Pos} {x y : Str}
def isK (s T : String) : Bool := decide (s = T) || (decide (s = "bool") && decide (T = "int"))
def isi2D (T U : String) (d : D) : Option (D × Nat) := (tyD d).map fun s => (.bl (isK s T || isK s U), 0)
theorem ev_isi2 (G : Good Γ) {T U : String} (hT : T ∈ isiTs) (hU : U ∈ isiTs) (hx : bootBuiltins x = some (.type T)) (hy : bootBuiltins y = some (.type U)) (hg : Gl Γ.X "isinstance") (hm : Γ.X.mg "isinstance" = none) (hg2 : Gl Γ.X x) (hm2 : Γ.X.mg x = none) (hg3 : Gl Γ.X y) (hm3 : Γ.X.mg y = none) (ha : EvO Γ a fa) {q2 tq : Pos} {kk : Nat}
    (hn : x ≠ "__name__" := by decide) (hdb : (x == ("__debug__" : Str)) = false := by decide) (hn2 : y ≠ "__name__" := by decide) (hdb2 : (y == ("__debug__" : Str)) = false := by decide)
    (hs : starEach [a, .Tuple [.Name x q, .Name y q2] kk tq] Γ.X.env = [(false, eval a Γ.X.env), (false, eval (.Tuple [.Name x q, .Name y q2] kk tq) Γ.X.env)] := by rfl) : EvE Γ (.Call (.Name "isinstance" p) [a, .Tuple [.Name x q, .Name y q2] kk tq] [] pos) (op1 (isi2D T U) fa) := by
  obtain ⟨t, h1, h2⟩ := ha
  have pi : PA Γ.X [.Name x q, .Name y q2] (tCons (tC (.ty T)) (tCons (tC (.ty U)) tNil)) := pa_cons (pe_bltn hg2 hm2 hx rfl hn hdb) (pa_cons (pe_bltn hg3 hm3 hy rfl hn2 hdb2) pa_nil)
  have pb : PA Γ.X [.Tuple [.Name x q, .Name y q2] kk tq] (tCons _ tNil) := pa_cons (pe_tup pi) pa_nil
  have pa : PA Γ.X [a, .Tuple [.Name x q, .Name y q2] kk tq] (tCons t (tCons _ tNil)) := pa_cons h1 pb (by rw [hs]; rfl)
  refine ⟨_, pe_callB call_isiT hg hm (by decide +kernel) pa (by decide) (by decide) (by rw [hs]; rfl) rfl, ?_⟩
  have h3 := Ev.op1 (g := isi2D T U) (r := fun v H Q => [V.ty T, V.ty U].length ≤ sizeLine ∧ ∀ tp, H tp = none → rIsiT Γ.X.K [v, .ref tp] (upd H tp (.tup [.ty T, .ty U])) Q) h2 (fun σ H Z env φ S x d p hx hg Q P => by
    refine ⟨by show 2 ≤ sizeLine; decide, fun tp htp => ?_⟩
    unfold isi2D at hg
    obtain ⟨s, e1, rfl⟩ := Option.map_eq_some_iff.mp hg
    have k1 := kit_all s (tyD_mem e1) T hT
    have k2 := kit_all s (tyD_mem e1) U hU
    have ty : TyX Γ.C.K (upd H tp (.tup [.ty T, .ty U])) x (.type s) := by
      cases hx with
      | sh h => exact tyD_x (Rd1.sh (h.ext (Ext.new htp))) e1
      | lst h r => exact tyD_x (.lst (by rw [upd_ne (ne_of_none h htp)]; exact h) (r.ext (Ext.new htp))) e1
      | dic h l r => exact tyD_x (.dic (by rw [upd_ne (ne_of_none h htp)]; exact h) l (r.ext (Ext.new htp))) e1
    rw [G.hK] at ty
    refine ⟨x, tp, [.ty T, .ty U], .type s, [.type T, .type U], isK s T || isK s U, rfl, upd_same, .cons (.ty T) (.cons (.ty U) .nil), ty, ?_, Post.newT P S htp (Ow.sh (.bl _))⟩
    have q1 : PySem.W.kitOne Γ.X.K (.type s) (.type T) = some (isK s T) := kit_ty k1
    have q2 : PySem.W.kitOne Γ.X.K (.type s) (.type U) = some (isK s U) := kit_ty k2
    unfold PySem.W.kitAny
    rw [q1]
    cases h : isK s T with
    | true => rfl
    | false =>
      show PySem.W.kitAny Γ.X.K (.type s) [.type U] = some (isK s U)
      unfold PySem.W.kitAny
      rw [q2]
      cases h' : isK s U with
      | true => rfl
      | false => rfl)
  exact h3
end
end Pv
end

section
set_option Elab.async false
set_option linter.all false
set_option maxRecDepth 100000
set_option maxHeartbeats 4000000
/-! Pv22: a op b op c op d, as a test. -/
namespace Pv
open PySem PySem.Spec PyProof.Rows L2
/-- a chain of three -/
def tChain3 (r r' r'' : R2) (ta tb tc td : TE) : TE := fun σ H Q => ta σ H fun x H1 => tb σ H1 fun y H2 => r x y H2 fun z H3 => ∃ k, z = .bl k ∧
  (if k = true then tc σ H3 fun w H4 => r' y w H4 fun z2 H5 => ∃ k2, z2 = .bl k2 ∧ (if k2 = true then td σ H5 fun u H6 => r'' w u H6 Q else Q (.bl false) H5) else Q (.bl false) H3)
theorem pt_chain3 {X : Cx} {op op' op'' : CmpOp} {a b c d : Expr} {pos : Pos} {ta tb tc td : TE} {r r' r'' : R2} (ho : OpR X (compareOp op) r) (ho' : OpR X (compareOp op') r') (ho'' : OpR X (compareOp op'') r'') (ha : PE X a ta) (hb : PE X b tb) (hc : PE X c tc) (hd : PE X d td)
    (hm : lastMarks [op, op', op''] [b, c, d] = false := by with_unfolding_all rfl) : PT X (.Compare a [op, op', op''] [b, c, d] pos) (tTest (tChain3 r r' r'' ta tb tc td)) := by
  refine ⟨fun pins s σ H Q I h => ?_⟩
  refine isTrue_chain (thn (ha.run pins s σ H _ I h) fun v s1 ⟨x, H1, I1, r1, q1⟩ => test_link (thn (hb.run pins s1 σ H1 _ I1 q1) fun u s2 ⟨y, H2, I2, r2, q2⟩ =>
    thn (ho pins s2 σ H2 x y v u _ I2 r1 r2 q2) fun d s3 ⟨z, H3, I3, r3, k, e, q3⟩ => ?_)) hm
  subst e
  cases r3
  refine wpAny_truthy_bool ?_
  cases k with
  | false =>
    obtain ⟨k', e', q'⟩ := q3
    cases e'
    exact ite_ff ⟨H3, I3, q'⟩
  | true =>
    refine ite_tt (test_link (thn (hc.run pins s3 σ H3 _ I3 q3) fun w' s4 ⟨z', H4, I4, r4, q4⟩ => thn (ho' pins s4 σ H4 y z' u w' _ I4 r2 r4 q4) fun d' s5 ⟨z2, H5, I5, r5, k2, e2, q5⟩ => ?_))
    subst e2
    cases r5
    refine wpAny_truthy_bool ?_
    cases k2 with
    | false =>
      obtain ⟨k', e', q'⟩ := q5
      cases e'
      exact ite_ff ⟨H5, I5, q'⟩
    | true =>
      refine ite_tt (test_last (thn (hd.run pins s5 σ H5 _ I5 q5) fun w2 s6 ⟨z6, H6, I6, r6, q6⟩ => thn (ho'' pins s6 σ H6 z' z6 w' w2 _ I6 r4 r6 q6) fun d' s7 ⟨z7, H7, I7, r7, k7, e7, q7⟩ => ?_))
      subst e7
      cases r7
      exact wpAny_truthy_bool ⟨H7, I7, q7⟩
section
variable {Γ : Ct} {a b c d : Expr} {fa fb fc fd : En → R Opd} {pos : Pos}
def opC3 (g g' g'' : D → D → Option (D × Nat)) (fa fb fc fd : En → R Opd) : En → R (D × Nat) := fun env => (fa env).bind fun oa env1 => (fb env1).bind fun ob env2 =>
  match oa.get env2, ob.get env2 with
  | some x, some y => (match g x y with
    | some (.bl true, _) => (fc env2).bind fun oc env3 => (match ob.get env3, oc.get env3 with
      | some y, some z => (match g' y z with
        | some (.bl true, _) => (fd env3).bind fun od env4 => (match oc.get env4, od.get env4 with
          | some z, some u => R.of (g'' z u) env4
          | _, _ => .no)
        | some (.bl false, _) => .ok (.bl false, 0) env3
        | _ => .no)
      | _, _ => .no)
    | some (.bl false, _) => .ok (.bl false, 0) env2
    | _ => .no)
  | _, _ => .no
theorem Ev.chain3 {op op' op'' : CmpOp} {g g' g'' : D → D → Option (D × Nat)} (k : CmpB Γ op g) (k' : CmpB Γ op' g') (k'' : CmpR Γ op'' g'') {ta tb tc td : TE} (a2 : Ev Γ (OR Γ.C) fa ta) (b2 : Ev Γ (OR Γ.C) fb tb) (c2 : Ev Γ (OR Γ.C) fc tc) (d2 : Ev Γ (OR Γ.C) fd td) : Ev Γ (ER Γ.C) (opC3 g g' g'' fa fb fc fd) (tChain3 k.r k'.r k''.r ta tb tc td) := by
  intro σ H Z env φ S Q P
  refine a2.bind S P fun oa env1 x H1 Z1 φ1 A e1 S1 q1 dj1 ev1 P1 => ?_
  refine b2.bind S1 (P1.mono (Evo.refl.sub fun _ z => .inl z)) fun ob env2 y H2 Z2 φ2 B e2 S2 q2 dj2 ev2 P2 => ?_
  have P3 := P2.mono (Evo.refl.sub (F2 := Tot φ2) fun _ z => .inl z)
  have q1' : OR Γ.C σ B Z2 H2 oa x := OR.go (S1.ext ev2) q1
  cases ga : oa.get env2 with
  | none => rw [ga] at P3; exact P3.elim
  | some d0 =>
    cases gb : ob.get env2 with
    | none => rw [ga, gb] at P3; exact P3.elim
    | some e0 =>
      simp only [ga, gb] at P3
      have ra := Opd.rd S2 q1' ga
      have rb := Opd.rd S2 q2 gb
      cases gg : g d0 e0 with
      | none => rw [gg] at P3; exact P3.elim
      | some p =>
        obtain ⟨p, m⟩ := p
        rw [gg] at P3
        cases p with
        | bl w =>
          refine k.bool σ Z2 H2 x y d0 e0 w m ra rb gg _ ⟨w, rfl, ?_⟩
          cases w with
          | false => exact Post.here P3 S2 (Ow.sh (.bl false))
          | true =>
            rw [if_pos rfl]
            refine c2.bind S2 P3 fun oc env3 z H3 Z3 φ3 B3 e3 S3 q3 dj3 ev3 P4 => ?_
            have P5 := P4.mono (Evo.refl.sub (F2 := Tot φ3) fun _ z => .inl z)
            have q2' : OR Γ.C σ B3 Z3 H3 ob y := OR.go (S2.ext ev3) q2
            cases gb3 : ob.get env3 with
            | none => rw [gb3] at P5; exact P5.elim
            | some d3 =>
              cases gc3 : oc.get env3 with
              | none => rw [gb3, gc3] at P5; exact P5.elim
              | some f3 =>
                simp only [gb3, gc3] at P5
                have rb3 := Opd.rd S3 q2' gb3
                have rc3 := Opd.rd S3 q3 gc3
                cases g3 : g' d3 f3 with
                | none => rw [g3] at P5; exact P5.elim
                | some p3 =>
                  obtain ⟨p3, m3⟩ := p3
                  rw [g3] at P5
                  cases p3 with
                  | bl w3 =>
                    refine k'.bool σ Z3 H3 y z d3 f3 w3 m3 rb3 rc3 g3 _ ⟨w3, rfl, ?_⟩
                    cases w3 with
                    | false => exact Post.here P5 S3 (Ow.sh (.bl false))
                    | true =>
                      rw [if_pos rfl]
                      refine d2.bind S3 P5 fun od env4 u H4 Z4 φ4 B4 e4 S4 q4 dj4 ev4 P6 => ?_
                      have P7 := P6.mono (Evo.refl.sub (F2 := Tot φ4) fun _ z => .inl z)
                      have q3' : OR Γ.C σ B4 Z4 H4 oc z := OR.go (S3.ext ev4) q3
                      cases gc4 : oc.get env4 with
                      | none => rw [gc4] at P7; exact P7.elim
                      | some c4 =>
                        cases gd4 : od.get env4 with
                        | none => rw [gc4, gd4] at P7; exact P7.elim
                        | some f4 =>
                          simp only [gc4, gd4] at P7
                          cases g4 : g'' c4 f4 with
                          | none => rw [g4] at P7; exact P7.elim
                          | some p4 =>
                            rw [g4] at P7
                            exact k''.does σ H4 Z4 env4 φ4 S4 z u c4 f4 p4 (Opd.rd S4 q3' gc4) (Opd.rd S4 q4 gd4) g4 Q P7
                  | _ => exact P5.elim
        | _ => exact P3.elim
theorem et_chain3 {op op' op'' : CmpOp} {g g' g'' : D → D → Option (D × Nat)} (k : CmpB Γ op g) (k' : CmpB Γ op' g') (k'' : CmpR Γ op'' g'') (ha : EvO Γ a fa) (hb : EvO Γ b fb) (hc : EvO Γ c fc) (hd : EvO Γ d fd) (hm : lastMarks [op, op', op''] [b, c, d] = false := by with_unfolding_all rfl) : EvT Γ (.Compare a [op, op', op''] [b, c, d] pos) (tst (opC3 g g' g'' fa fb fc fd)) := by
  obtain ⟨ta, a1, a2⟩ := ha
  obtain ⟨tb, b1, b2⟩ := hb
  obtain ⟨tc, c1, c2⟩ := hc
  obtain ⟨td, d1, d2⟩ := hd
  exact ⟨_, pt_chain3 k.ok k'.ok k''.ok a1 b1 c1 d1 hm, (Ev.chain3 k k' k'' a2 b2 c2 d2).test⟩
end
end Pv
end

section
set_option Elab.async false
set_option linter.all false
set_option maxRecDepth 100000
set_option maxHeartbeats 4000000
/-! Pv23: comprehensions over encoded items. -/
namespace Pv
open PySem PySem.Spec PyProof.Rows L2
theorem compL_mapT {β : Type} {g : D → En → Option En} {tt : En → R Bool} {te : En → R (D × Nat)} {m : Nat} {vs : List Nat} (enc F : β → D) (env0 : En) : ∀ (bs : List β) (acc : List D), acc.length + bs.length ≤ lim →
    (∀ b ∈ bs, ∃ e1 e2 e3, g (enc b) env0 = some e1 ∧ tt e1 = .ok true e2 ∧ te e2 = .ok (F b, m) e3 ∧ wipeE e3 vs = env0) → compL g tt te m vs (bs.map enc) env0 acc = .ok (acc ++ bs.map F) env0
  | [], acc, _, _ => by simp [compL]
  | b :: bs, acc, hl, h => by
    obtain ⟨e1, e2, e3, h1, h2, h3, h4⟩ := h b List.mem_cons_self
    have hl' : acc.length < lim := by simp only [List.length_cons] at hl; omega
    have ih := compL_mapT (g := g) (tt := tt) (te := te) (m := m) (vs := vs) enc F env0 bs (acc ++ [F b]) (by simp only [List.length_append, List.length_cons, List.length_nil] at hl ⊢; omega) fun b' hb => h b' (List.mem_cons_of_mem _ hb)
    rw [List.map_cons]
    unfold compL
    rw [h1]
    simp only [h2, h3, h4, R.noX_ok, R.bind_ok, if_true, hl', and_self, ih, List.append_assoc, List.singleton_append, List.map_cons]
theorem comp_mapT {β : Type} {fi : En → R (List D)} {g : D → En → Option En} {tt : En → R Bool} {te : En → R (D × Nat)} {m : Nat} {vs : List Nat} (enc F : β → D) (env0 : En) {env env1 env2 : En} {bs : List β} (hfi : fi env = .ok (bs.map enc) env1) (h0 : wipeE env1 vs = env0) (hb : backE env1 env0 vs = env2) (hl : bs.length ≤ lim)
    (h : ∀ b ∈ bs, ∃ e1 e2 e3, g (enc b) env0 = some e1 ∧ tt e1 = .ok true e2 ∧ te e2 = .ok (F b, m) e3 ∧ wipeE e3 vs = env0) : comp fi g tt te m vs env = .ok (.lst (bs.map F), m + 1) env2 := by
  have q1 := compL_mapT (g := g) (tt := tt) (te := te) (m := m) (vs := vs) enc F env0 bs [] (by simpa using hl) h
  unfold comp
  rw [hfi]
  simp only [R.bind_ok, h0, q1, List.nil_append, hb]
theorem compL_filterT {β : Type} {g : D → En → Option En} {tt : En → R Bool} {te : En → R (D × Nat)} {m : Nat} {vs : List Nat} (enc F : β → D) (q : β → Bool) (env0 : En) : ∀ (bs : List β) (acc : List D), acc.length + bs.length ≤ lim →
    (∀ b ∈ bs, ∃ e1 e2, g (enc b) env0 = some e1 ∧ tt e1 = .ok (q b) e2 ∧ (q b = false → wipeE e2 vs = env0) ∧ (q b = true → ∃ e3, te e2 = .ok (F b, m) e3 ∧ wipeE e3 vs = env0)) → compL g tt te m vs (bs.map enc) env0 acc = .ok (acc ++ (bs.filter q).map F) env0
  | [], acc, _, _ => by simp [compL]
  | b :: bs, acc, hl, h => by
    obtain ⟨e1, e2, h1, h2, h3, h4⟩ := h b List.mem_cons_self
    have hl' : acc.length < lim := by simp only [List.length_cons] at hl; omega
    rw [List.map_cons]
    unfold compL
    rw [h1]
    simp only [h2, R.noX_ok, R.bind_ok]
    cases hq : q b with
    | false =>
      have ih := compL_filterT (g := g) (tt := tt) (te := te) (m := m) (vs := vs) enc F q env0 bs acc (by simp only [List.length_cons] at hl; omega) fun b' hb => h b' (List.mem_cons_of_mem _ hb)
      simp only [Bool.false_eq_true, if_false, h3 hq, ih, List.filter_cons, hq]
    | true =>
      obtain ⟨e3, h5, h6⟩ := h4 hq
      have ih := compL_filterT (g := g) (tt := tt) (te := te) (m := m) (vs := vs) enc F q env0 bs (acc ++ [F b]) (by simp only [List.length_append, List.length_cons, List.length_nil] at hl ⊢; omega) fun b' hb => h b' (List.mem_cons_of_mem _ hb)
      simp only [if_true, h5, R.noX_ok, R.bind_ok, hl', and_self, h6, ih, List.filter_cons, hq, List.map_cons, List.append_assoc, List.singleton_append]
theorem comp_filterT {β : Type} {fi : En → R (List D)} {g : D → En → Option En} {tt : En → R Bool} {te : En → R (D × Nat)} {m : Nat} {vs : List Nat} (enc F : β → D) (q : β → Bool) (env0 : En) {env env1 env2 : En} {bs : List β} (hfi : fi env = .ok (bs.map enc) env1) (h0 : wipeE env1 vs = env0) (hb : backE env1 env0 vs = env2) (hl : bs.length ≤ lim)
    (h : ∀ b ∈ bs, ∃ e1 e2, g (enc b) env0 = some e1 ∧ tt e1 = .ok (q b) e2 ∧ (q b = false → wipeE e2 vs = env0) ∧ (q b = true → ∃ e3, te e2 = .ok (F b, m) e3 ∧ wipeE e3 vs = env0)) : comp fi g tt te m vs env = .ok (.lst ((bs.filter q).map F), m + 1) env2 := by
  have q1 := compL_filterT (g := g) (tt := tt) (te := te) (m := m) (vs := vs) enc F q env0 bs [] (by simpa using hl) h
  unfold comp
  rw [hfi]
  simp only [R.bind_ok, h0, q1, List.nil_append, hb]
theorem set_none {env : En} {i : Nat} (hi : env[i]? = some none) : env.set i none = env := by
  apply List.ext_getElem?
  intro j
  rw [List.getElem?_set]
  split
  · rename_i e
    subst e
    split
    · exact hi.symm
    · rename_i h
      exact (h (List.getElem?_eq_some_iff.mp hi).1).elim
  · rfl
/-- one name, an item that changes nothing -/
theorem comp_map1 {β : Type} {fi : En → R (List D)} {te : En → R (D × Nat)} {m i : Nat} (enc F : β → D) {env env1 : En} {bs : List β} (hfi : fi env = .ok (bs.map enc) env1) (hi : env1[i]? = some none) (hl : bs.length ≤ 100000)
    (h : ∀ b ∈ bs, te (env1.set i (some (enc b, 0))) = .ok (F b, m) (env1.set i (some (enc b, 0)))) : comp fi (nameG i) yesT te m [i] env = .ok (.lst (bs.map F), m + 1) env1 := by
  have hlt := (List.getElem?_eq_some_iff.mp hi).1
  refine comp_mapT enc F env1 hfi (set_none hi) ?_ (le_lim hl) fun b hb => ⟨_, _, _, ?_, rfl, h b hb, ?_⟩
  · show env1.set i _ = env1
    rw [hi]
    exact set_none hi
  · unfold nameG
    rw [if_pos hlt]
  · show (env1.set i _).set i none = env1
    rw [List.set_set]
    exact set_none hi
/-- the same with a test -/
theorem comp_filter1 {β : Type} {fi : En → R (List D)} {tt : En → R Bool} {te : En → R (D × Nat)} {m i : Nat} (enc F : β → D) (q : β → Bool) {env env1 : En} {bs : List β} (hfi : fi env = .ok (bs.map enc) env1) (hi : env1[i]? = some none) (hl : bs.length ≤ 100000)
    (h : ∀ b ∈ bs, tt (env1.set i (some (enc b, 0))) = .ok (q b) (env1.set i (some (enc b, 0))) ∧ (q b = true → te (env1.set i (some (enc b, 0))) = .ok (F b, m) (env1.set i (some (enc b, 0))))) : comp fi (nameG i) tt te m [i] env = .ok (.lst ((bs.filter q).map F), m + 1) env1 := by
  have hlt := (List.getElem?_eq_some_iff.mp hi).1
  refine comp_filterT enc F q env1 hfi (set_none hi) ?_ (le_lim hl) fun b hb => ⟨_, _, ?_, (h b hb).1, fun _ => ?_, fun hq => ⟨_, (h b hb).2 hq, ?_⟩⟩
  · show env1.set i _ = env1
    rw [hi]
    exact set_none hi
  · unfold nameG
    rw [if_pos hlt]
  · show (env1.set i _).set i none = env1
    rw [List.set_set]
    exact set_none hi
  · show (env1.set i _).set i none = env1
    rw [List.set_set]
    exact set_none hi
end Pv
end

section
set_option Elab.async false
set_option linter.all false
set_option maxRecDepth 100000
set_option maxHeartbeats 4000000
/-! Pv24: enumerate over lists and tuples. -/
namespace Pv
open PySem PySem.Spec PyProof.Rows L2

theorem mkEnum {vv : Value} {ob : Obj} {Hq : Heap → Prop} (Bg : Begins vv ob Hq) :
    Meets (Builtin.«enumerate.__new__» ⟨[.type "enumerate", vv], []⟩) (fun _ R z => Hq z.heap ∧ R (.ok (.ret (.ref (z.heap.push ob).objs.size))) { z with heap := (z.heap.push ob).push { cls := .type "enumerate", data := .fields #[.none, .bool false, .ref z.heap.objs.size, rawInt 0, .none, .none] } }) :=
  .of_wp fun pr w A R z hz => by
    obtain ⟨h0, gg, dd, tk, os⟩ := z; obtain ⟨hb, hr⟩ := hz
    have hsub := sub_enumerate
    have itq : ∀ {A' : Around} {E : Value → Shared → Prop} {Q : Value → Shared → Prop}, Q (.ref h0.objs.size) ⟨h0.push ob, gg, dd, tk, os⟩ → wpAny (model pr w) A' (pyIter vv) Q E ⟨h0, gg, dd, tk, os⟩ := fun q => Bg.iter pr w _ _ ⟨h0, gg, dd, tk, os⟩ _ hb q
    wp_walk using itq
    refine wpAny_stack_any fun st => wpAny_pure ?_
    split
    · rename_i c _ _ _ _ _
      cases (c == Value.type "enumerate")
      · wp_walk using itq
        exact ⟨_, rfl, hr⟩
      · wp_walk using itq
        exact ⟨_, rfl, hr⟩
    · wp_walk using itq
      exact ⟨_, rfl, hr⟩
section
variable {pr : Program} {w : World} {A : Around} {E : Value → Shared → Prop} {z : Shared}
theorem callEnum {vv : Value} {ob : Obj} {Hq : Heap → Prop} {Q : Value → Shared → Prop} (Bg : Begins vv ob Hq) (hb : Hq z.heap)
    (k : ∀ h', IsEnum h' (z.heap.objs.size + 1) z.heap.objs.size 0 .none → h'.get? z.heap.objs.size = some ob → h'.objs.size = z.heap.objs.size + 2 → (∀ b o, z.heap.get? b = some o → h'.get? b = some o) → Q (.ref (z.heap.objs.size + 1)) { z with heap := h' }) :
    wpAny (model pr w) A (call (.type "enumerate") [vv]) Q E z := by
  refine callType_new F.called_enumerate (by decide) (F.typeCall_enumerate_1 vv) (F.newCall_enumerate_1 vv) (fun ob' => F.args_object_init_2 ob' _) F.entry_enumerate_new (mkEnum Bg) ⟨hb, ?_⟩
  have z1 : (z.heap.push ob).objs.size = z.heap.objs.size + 1 := Heap.size_push ..
  show _ ∧ _
  rw [z1]
  have ie : IsEnum ((z.heap.push ob).push { cls := .type "enumerate", data := .fields #[.none, .bool false, .ref z.heap.objs.size, rawInt 0, .none, .none] }) (z.heap.objs.size + 1) z.heap.objs.size 0 .none := by
    have q := Heap.get?_push_size (z.heap.push ob) (o := { cls := .type "enumerate", data := .fields #[.none, .bool false, .ref z.heap.objs.size, rawInt 0, .none, .none] }) rfl
    rw [z1] at q
    exact q
  exact ⟨⟨_, ie, rfl⟩, k _ ie (Heap.get?_push_of_some _ (Heap.get?_push_size _ Bg.free)) (by rw [Heap.size_push, z1]) fun b o x => Heap.get?_push_of_some _ (Heap.get?_push_of_some _ x)⟩
end
/-- the tuple at a, its items with their places -/
def ItEn (K : PySem.W.Frag) (a : Addr) : It where
  go := fun i Hh => ∃ (us : List V) (u : V), SqT K Hh a us ∧ us[i]? = some u
  yld := fun i Hh y Hh' => ∃ T u, y = .ref T ∧ Hh T = none ∧ Hh' = upd Hh T (.tup [.int (i : Nat), u]) ∧ ∀ us, SqT K Hh a us → us[i]? = some u
  stop := fun i Hh => ∃ us : List V, SqT K Hh a us ∧ us.length = i
theorem turnEn {Pg : Program} {w : World} {K : PySem.W.Frag} {ts : List Expr} {kk : Nat} {tp : Pos} (a e it : Addr) : Turn Pg w K (.Tuple ts kk tp) (ItEn K a) [e, it] e (fun i h => (∃ o, IsEnum h e it ((i : Nat) : Int) o) ∧ h.IsTupleIter it a i ∧ e ≠ it) where
  mem := by simp
  obj := fun i h st b hb => by
    obtain ⟨⟨o1, he⟩, ⟨o, ho, hc, hd⟩, _⟩ := st
    rcases List.mem_cons.mp hb with q | q
    · rw [q]; exact ⟨_, he, fun v q => nomatch q⟩
    · rw [List.mem_singleton.mp q]; exact ⟨o, ho, fun v q => by rw [hd] at q; cases q⟩
  keep := fun i h h' st k => ⟨⟨st.1.choose, k e (by simp) _ st.1.choose_spec⟩, st.2.1.at fun o q => k it (by simp) o q, st.2.2⟩
  item := by
    intro X hP hw hK hc i pins s σ H E I hf st hg
    subst hP hw hK
    obtain ⟨⟨o1, he⟩, hit, hne⟩ := st
    obtain ⟨us, u, hq, hu⟩ := hg
    obtain ⟨its, rv, pt, hz⟩ := I.tuple hq
    obtain ⟨x, hx, rx⟩ := rv.get hu
    have lt1 : e < s.heap.objs.size := Heap.lt_size he
    have lt2 : it < s.heap.objs.size := by obtain ⟨_, q, _⟩ := hit; exact Heap.lt_size q
    have hd := I.ok.hd hc
    have pt : s.heap.IsTuple a its.toArray := pt
    have lt3 : a < s.heap.objs.size := by obtain ⟨_, q, _⟩ := pt; exact Heap.lt_size q
    have hea : a ≠ it := fun q => by
      obtain ⟨o2, q1, q2, _⟩ := pt
      obtain ⟨o3, q3, q4, _⟩ := hit
      rw [q, q3] at q1; cases q1
      rw [q4] at q2; simp at q2
    have hee : e ≠ a := fun q => by
      obtain ⟨o2, q1, q2, _⟩ := pt
      have q3 : s.heap.get? e = _ := he
      rw [q, q1] at q3; cases q3
      simp at q2
    have hi : i < its.toArray.size := by
      have q := (List.getElem?_eq_some_iff.mp hx).1
      simpa using q
    refine wpAny_pyNext_enum_itemD (Draws.tuple (A := X.A.in1) (by simpa using hd) it a hea its.toArray) he ⟨hit, pt⟩ hi hne (by simp [hne, hee]) fun y h' tk hy ho hs' hT hsz hk => ?_
    have hyx : y = x := by
      have q : its.toArray[i]? = some y := hy
      rw [List.getElem?_toArray, hx] at q
      exact (Option.some.inj q).symm
    subst hyx
    refine ⟨_, rfl, wpAny_letOwnedTupleGo_enum (s := { s with heap := h', toks := tk + 1 }) ho fun h'' he' sb => ?_⟩
    have hT2 : h''.get? s.heap.objs.size = some { cls := .type "tuple", data := .seq #[.int i tk, y] } := (sb.2 _ (Nat.ne_of_gt lt1)).trans hT
    have nw : ObjOk X.prog X.w (upd H s.heap.objs.size (.tup [.int (i : Nat), u])) h'' s.heap.objs.size (.tup [.int (i : Nat), u]) :=
      ⟨by show 2 ≤ sizeLine; decide, [.int i tk, y], .cons ⟨_, rfl⟩ (.cons rx .nil), ⟨_, hT2, rfl, _, rfl⟩⟩
    have J : Inv X pins σ (upd H s.heap.objs.size (.tup [.int (i : Nat), u])) { s with heap := h'', toks := tk + 1 } :=
      I.turnedNew (ch := [e, it]) (fun b ob hb q => (sb.2 b (fun z => hb (by simp [z]))).trans (hk b ob (fun z => hb (by simp [z])) (fun z => hb (by simp [z])) q)) hf (Nat.le_refl _) nw
    refine ⟨.ref s.heap.objs.size, _, J, rfl, ⟨_, u, rfl, I.hok.fresh (Nat.le_refl _), rfl, fun ys hy => by rw [I.tuple_inj hy hq]; exact hu⟩, ⟨⟨y, ?_⟩, hs'.1.at fun o q => (sb.2 it (Ne.symm hne)).trans q, hne⟩, fun b hb => ?_⟩
    · have e1 : ((i + 1 : Nat) : Int) = (i : Int) + 1 := by omega
      rw [e1]; exact he'
    · have hb' : b < s.heap.objs.size := by
        rcases List.mem_cons.mp hb with q | q
        · rw [q]; exact lt1
        · rw [List.mem_singleton.mp q]; exact lt2
      rw [upd_ne (Nat.ne_of_lt hb')]
      exact (hf b hb).1
  done := by
    intro X hP hw hK hc i pins s σ H E I hf st hg
    subst hP hw hK
    obtain ⟨⟨o1, he⟩, hit, hne⟩ := st
    obtain ⟨us, hq, hu⟩ := hg
    obtain ⟨its, rv, pt, hz⟩ := I.tuple hq
    obtain ⟨f0, f1, f2, f3, f4, f5⟩ := hf it (by simp)
    have hl := rv.length
    have hd := I.ok.hd hc
    have pt : s.heap.IsTuple a its.toArray := pt
    have hea : a ≠ it := fun q => by
      obtain ⟨o2, q1, q2, _⟩ := pt
      obtain ⟨o3, q3, q4, _⟩ := hit
      rw [q, q3] at q1; cases q1
      rw [q4] at q2; simp at q2
    have hn : i = its.toArray.size := by simp; omega
    subst hn
    exact wpAny_pyNext_enum_endD (Draws.tuple (A := X.A.in1) (by simpa using hd) it a hea its.toArray) he ⟨hit, pt⟩ fun h' eb => ⟨rfl, I.turned (t' := s.toks) (fun b o hb q => eb b o hb q) f0 f1 f3 f4 f5⟩
  self := fun A i s Q E st h => wpAny_pyIter_enum st.1.choose_spec h

def iEnA (K : PySem.W.Frag) (ta : L2.TA) : TI := fun σ H R => ta σ H fun vs H1 => ∃ a xs, vs = [.ref a] ∧ ((SqL K H1 a xs ∧ R (Ite K a) H1) ∨ (SqT K H1 a xs ∧ R (ItEn K a) H1))
theorem pi_enA {X : Cx} {e : Expr} {ta : L2.TA} {p pos tp : Pos} {ts : List Expr} {kk : Nat} (hg : Gl X "enumerate") (hm : X.mg "enumerate" = none) (ha : PA X [e] ta) (hs : starEach [e] X.env = [(false, eval e X.env)] := by rfl) :
    PI X (.Tuple ts kk tp) (.Call (.Name "enumerate" p) [e] [] pos) (iEnA X.K ta) := by
  refine ⟨fun pins s σ H R I h => ?_⟩
  refine Call_ (ld_blt I hg hm boot_enumerate (PyProof.Rows.callWith_type1 (thn (ha.run pos pins s σ H _ I h) fun us s1 ⟨vs, H1, I1, r1, q1⟩ => ?_) hs rfl))
  obtain ⟨a, xs, rfl, q⟩ := q1
  cases r1 with
  | cons r rr =>
    cases rr
    cases r
    have fpo : ∀ h' : Heap, (∀ b o, s1.heap.get? b = some o → h'.get? b = some o) → ∀ b ∈ [s1.heap.objs.size + 1, s1.heap.objs.size], s1.heap.objs.size ≤ b := fun h' hk b hb => by
      rcases List.mem_cons.mp hb with z | z
      · rw [z]; exact Nat.le_add_right _ _
      · rw [List.mem_singleton.mp z]; exact Nat.le_refl _
    rcases q with ⟨hq, q⟩ | ⟨hq, q⟩
    · obtain ⟨its, rv, pl, hz⟩ := I1.list hq
      refine callEnum (begins_list a its.toArray) pl.isList fun h' he hit hsz hk => wpAny_pyIter_enum he ?_
      have I2 : Inv X pins σ H1 { s1 with heap := h' } := I1.kept (t' := s1.toks) hk
      exact ⟨s1.heap.objs.size + 1, [s1.heap.objs.size + 1, s1.heap.objs.size], _, _, H1, rfl, I2, turn_enum a (s1.heap.objs.size + 1) s1.heap.objs.size, ⟨⟨.none, he⟩, ⟨_, hit, rfl, rfl⟩, Nat.succ_ne_self _⟩, fun b hb => I1.fpOk (fpo h' hk b hb) (I1.hok.fresh (fpo h' hk b hb)), q⟩
    · obtain ⟨its, rv, pt, hz⟩ := I1.tuple hq
      refine callEnum (begins_tuple a its.toArray) pt fun h' he hit hsz hk => wpAny_pyIter_enum he ?_
      have I2 : Inv X pins σ H1 { s1 with heap := h' } := I1.kept (t' := s1.toks) hk
      exact ⟨s1.heap.objs.size + 1, [s1.heap.objs.size + 1, s1.heap.objs.size], _, _, H1, rfl, I2, turnEn a (s1.heap.objs.size + 1) s1.heap.objs.size, ⟨⟨.none, he⟩, ⟨_, hit, rfl, rfl⟩, Nat.succ_ne_self _⟩, fun b hb => I1.fpOk (fpo h' hk b hb) (I1.hok.fresh (fpo h' hk b hb)), q⟩
def enumL (xs : List D) : List D := (xs.zipIdx).map fun q => .tup [.int (q.2 : Nat), q.1]
def enumD : List D → Option (List D)
  | [.lst xs] => some (enumL xs)
  | [.tup xs] => some (enumL xs)
  | _ => none
def enumI (f : En → R (List D)) : En → R (List D) := fun env => (f env).bind fun ds env1 => R.of (enumD ds) env1
theorem enumL_get {xs : List D} {i : Nat} {d : D} (h : (enumL xs)[i]? = some d) : ∃ x, xs[i]? = some x ∧ d = .tup [.int (i : Nat), x] := by
  unfold enumL at h
  rw [List.getElem?_map] at h
  obtain ⟨q, hq, rfl⟩ := Option.map_eq_some_iff.mp h
  rw [List.getElem?_zipIdx] at hq
  obtain ⟨x, hx, rfl⟩ := Option.map_eq_some_iff.mp hq
  exact ⟨x, hx, by simp⟩
theorem ei_enum {Γ : Ct} {a : Expr} {p pos : Pos} {ts : List Expr} {kk : Nat} {tpos : Pos} {f : En → R (List D)} (G : Good Γ) (hg : Gl Γ.X "enumerate") (hm : Γ.X.mg "enumerate" = none) (ha : EvA Γ [a] f)
    (hs : starEach [a] Γ.X.env = [(false, eval a Γ.X.env)] := by rfl) : EvI Γ (.Tuple ts kk tpos) (.Call (.Name "enumerate" p) [a] [] pos) (enumI f) := by
  obtain ⟨t, h1, h2⟩ := ha
  refine ⟨_, pi_enA hg hm h1 hs, fun σ H Z env φ S R P => ?_⟩
  refine h2 σ H Z env φ S _ ?_
  unfold enumI at P
  cases e : f env with
  | ex x => rw [e] at P; exact P
  | no => rw [e] at P; exact P
  | ok ds env1 =>
    rw [e] at P
    simp only [Pv.R.bind_ok] at P
    intro vs H1 Z1 φ1 A S1 sh0 dj ev
    have ev' := ev.sub (F2 := Tot φ1) fun _ z => .inl z
    have sh : ShL Γ.C Z1 H1 vs ds := sh0
    cases eD : enumD ds with
    | none => rw [eD] at P; exact P.elim
    | some items =>
     rw [eD] at P
     unfold enumD at eD
     split at eD
     · rename_i xs
       cases eD
       cases sh with
       | cons h r =>
         cases r
         cases h with
         | @lst b us _ hb zb rb =>
           refine ⟨b, us, rfl, .inl ⟨SqL.of hb, P _ H1 Z1 φ1 S1 (fun Z2 H2 x => ?_) ev'⟩⟩
           have hb2 := x.zk b _ zb hb
           have rb2 := rb.ext x
           refine ⟨⟨us, SqL.of hb2, by simp [enumL, rb.length]⟩, fun i d hd => ?_⟩
           obtain ⟨q, hq, rfl⟩ := enumL_get hd
           obtain ⟨w1, e1, s1⟩ := rb2.get' hq
           refine ⟨⟨us, w1, SqL.of hb2, e1⟩, fun y H' hy => ?_⟩
           obtain ⟨T, y1, rfl, hT, rfl, k1⟩ := hy
           have f1 := k1 us (SqL.of hb2)
           rw [e1] at f1; cases f1
           have xn : Ext Z2 H2 Z2 (upd H2 T (.tup [.int (i : Nat), w1])) := Ext.new hT
           exact ⟨.tup (SqT.of upd_same) (.cons (.int _) (.cons (s1.ext xn) .nil)), .inr ⟨T, _, hT, rfl⟩⟩
     · rename_i xs
       cases eD
       cases sh with
       | cons h r =>
         cases r
         cases h with
         | @tup b us _ hb rb =>
           have hb' := hb
           rw [G.hK] at hb'
           refine ⟨b, us, rfl, .inr ⟨hb', P _ H1 Z1 φ1 S1 (fun Z2 H2 x => ?_) ev'⟩⟩
           have hb2 : SqT Γ.X.K H2 b us := by rw [← G.hK]; exact x.sqT hb
           have rb2 := rb.ext x
           refine ⟨⟨us, hb2, by simp [enumL, rb.length]⟩, fun i d hd => ?_⟩
           obtain ⟨q, hq, rfl⟩ := enumL_get hd
           obtain ⟨w1, e1, s1⟩ := rb2.get' hq
           refine ⟨⟨us, w1, hb2, e1⟩, fun y H' hy => ?_⟩
           obtain ⟨T, y1, rfl, hT, rfl, k1⟩ := hy
           have f1 := k1 us hb2
           rw [e1] at f1; cases f1
           have xn : Ext Z2 H2 Z2 (upd H2 T (.tup [.int (i : Nat), w1])) := Ext.new hT
           exact ⟨.tup (SqT.of upd_same) (.cons (.int _) (.cons (s1.ext xn) .nil)), .inr ⟨T, _, hT, rfl⟩⟩
     · cases eD
end Pv
end

section
set_option Elab.async false
set_option linter.all false
set_option maxRecDepth 100000
set_option maxHeartbeats 4000000
/-! Pv25: sorted(set(t)), ranges as values. -/
namespace Pv
open PySem PySem.Spec PyProof.Rows L2

/-- one more in an ascending list without repeats -/
def insU (k : Int) : List Int → List Int
  | [] => [k]
  | x :: xs => if k < x then k :: x :: xs else if k = x then x :: xs else x :: insU k xs
def srtU (ns : List Int) : List Int := ns.foldr insU []
theorem mem_insU (k j : Int) : ∀ l : List Int, j ∈ insU k l ↔ j = k ∨ j ∈ l
  | [] => by simp [insU]
  | x :: xs => by
    unfold insU
    split
    · simp
    · split
      · rename_i h; subst h; simp
      · rw [List.mem_cons, mem_insU k j xs, List.mem_cons]
        constructor
        · rintro (h | h | h)
          · exact .inr (.inl h)
          · exact .inl h
          · exact .inr (.inr h)
        · rintro (h | h | h)
          · exact .inr (.inl h)
          · exact .inl h
          · exact .inr (.inr h)
theorem asc_insU (k : Int) : ∀ l : List Int, l.Pairwise (· < ·) → (insU k l).Pairwise (· < ·)
  | [], _ => by simp [insU]
  | x :: xs, h => by
    have hx := List.pairwise_cons.mp h
    unfold insU
    split
    · rename_i q
      refine List.pairwise_cons.mpr ⟨fun y hy => ?_, h⟩
      rcases List.mem_cons.mp hy with e | hy
      · rw [e]; exact q
      · have := hx.1 y hy; omega
    · split
      · exact h
      · rename_i q1 q2
        refine List.pairwise_cons.mpr ⟨fun y hy => ?_, asc_insU k xs hx.2⟩
        rcases (mem_insU k y xs).mp hy with e | hy
        · rw [e]; omega
        · exact hx.1 y hy
theorem mem_srtU (j : Int) : ∀ ns : List Int, j ∈ srtU ns ↔ j ∈ ns
  | [] => by simp [srtU]
  | n :: ns => by
    have ih := mem_srtU j ns
    show j ∈ insU n (srtU ns) ↔ _
    rw [mem_insU, ih, List.mem_cons]
theorem asc_srtU : ∀ ns : List Int, (srtU ns).Pairwise (· < ·)
  | [] => .nil
  | n :: ns => asc_insU n _ (asc_srtU ns)
theorem asc_unique : ∀ {l r : List Int}, l.Pairwise (· < ·) → r.Pairwise (· < ·) → (∀ j, j ∈ l ↔ j ∈ r) → l = r
  | [], [], _, _, _ => rfl
  | [], y :: _, _, _, h => by have := (h y).mpr List.mem_cons_self; cases this
  | x :: _, [], _, _, h => by have := (h x).mp List.mem_cons_self; cases this
  | x :: xs, y :: ys, h1, h2, h => by
    have a1 := List.pairwise_cons.mp h1
    have a2 := List.pairwise_cons.mp h2
    have e : x = y := by
      rcases List.mem_cons.mp ((h x).mp List.mem_cons_self) with q | q
      · exact q
      · rcases List.mem_cons.mp ((h y).mpr List.mem_cons_self) with q' | q'
        · exact q'.symm
        · have := a2.1 x q; have := a1.1 y q'; omega
    subst e
    rw [asc_unique a1.2 a2.2 fun j => ?_]
    constructor
    · intro hj
      rcases List.mem_cons.mp ((h j).mp (List.mem_cons_of_mem _ hj)) with q | q
      · have := a1.1 j hj; omega
      · exact q
    · intro hj
      rcases List.mem_cons.mp ((h j).mpr (List.mem_cons_of_mem _ hj)) with q | q
      · have := a2.1 j hj; omega
      · exact q
def rSetTI (K : PySem.W.Frag) (w : World) : List V → Hp → VK → Prop := fun vs H Q => ∃ (p : Addr) (ns : List Int), vs = [.ref p] ∧ SqT K H p (ns.map V.int) ∧ ns.length ≤ 60 ∧ ∀ a c, H a = none → c ≤ ns.length → Q (.ref a) (upd H a (SetO w a (fun j => decide (j ∈ ns)) c))
theorem cr_setTI {X : Cx} (hc : X.calm = true) : CallR X (.type "set") (rSetTI X.K X.w) := by
  intro pins s σ H vs us Q I r h
  obtain ⟨p0, ns, rfl, hq, hl, q⟩ := h
  rw [Vals.ref1 r]
  obtain ⟨its, rv, pt, hz⟩ := I.tuple hq
  have hi : IntsAre its.toArray.toList ns := ints_of_vals rv
  refine call_set_tupI ns (I.ok.hd hc) (show s.heap.IsTuple p0 its.toArray from pt) hi (by unfold scanBound; omega) fun h' tk c R1 hcn k => ?_
  have hn : H s.heap.objs.size = none := I.hok.fresh (Nat.le_refl _)
  have J : Inv X pins σ (upd H s.heap.objs.size (SetO X.w s.heap.objs.size (fun j => decide (j ∈ ns)) c)) { s with heap := h', toks := tk } :=
    I.call (ch := []) (Un.laid k (Nat.le_refl _) hn) (I.hok.laid k (Nat.le_refl _) (setO_new R1)) I.bare (fun _ z => nomatch z)
  exact ⟨.ref _, _, J, rfl, q _ c hn hcn⟩
def ssetD : D → Option (D × Nat)
  | .tup xs => match D.ints xs with
    | some ns => if ns.length ≤ 60 then some (.lst ((srtU ns).map D.int), 1) else none
    | none => none
  | _ => none
section
variable {Γ : Ct} {a : Expr} {fa : En → R Opd} {p p2 q pos : Pos}
theorem ev_sset (G : Good Γ) (hg : Gl Γ.X "sorted") (hm : Γ.X.mg "sorted" = none) (hg2 : Gl Γ.X "set") (hm2 : Γ.X.mg "set" = none) (ha : EvO Γ a fa) (hs : starEach [a] Γ.X.env = [(false, eval a Γ.X.env)] := by rfl)
    (hs2 : starEach [.Call (.Name "set" p2) [a] [] q] Γ.X.env = [(false, eval (.Call (.Name "set" p2) [a] [] q) Γ.X.env)] := by rfl) : EvE Γ (.Call (.Name "sorted" p) [.Call (.Name "set" p2) [a] [] q] [] pos) (op1 ssetD fa) := by
  obtain ⟨t, h1, h2⟩ := ha
  have pa : PA Γ.X [a] (tCons t tNil) := pa_cons h1 pa_nil hs
  have pe1 := pe_callTy (p := p2) (pos := q) (cr_setTI G.calm) hg2 hm2 PyProof.Rows.boot_set pa (by decide) (by decide) hs rfl
  have pa2 := pa_cons pe1 pa_nil hs2
  have pe2 := pe_callB (p := p) (pos := pos) (cr_sortedSet G.calm) hg hm (by decide +kernel) pa2 (by decide) (by decide) hs2 rfl
  refine ⟨_, pe2, h2.op1 (r := fun v H Q => rSetTI Γ.X.K Γ.X.w [v] H fun u H2 => rSortedSet Γ.X.w [u] H2 Q) fun σ H Z env φ S x d pp hx hgd Q P => ?_⟩
  unfold ssetD at hgd
  split at hgd
  · rename_i xs
    split at hgd
    · rename_i ns hns
      split at hgd
      · rename_i hl
        cases hgd
        have e := D.ints_eq hns
        subst e
        obtain ⟨b, us, rfl, hb, r⟩ := hx.tupI
        rw [G.hK] at hb
        have e2 := r.ints
        subst e2
        refine ⟨b, ns, rfl, hb, hl, fun b2 c hb2 hcn => ⟨b2, _, c, rfl, upd_same, by omega, fun ns' p2 hp1 hp2 hp3 hp4 => ?_⟩⟩
        have e3 : ns' = srtU ns := asc_unique hp1 (asc_srtU ns) fun j => by rw [hp2, mem_srtU, decide_eq_true_eq]
        subst e3
        exact Post.newL (P.mono (Evo.new hb2 fun _ z => .inl z)) (S.new hb2) hp4 (Ow.lst1 upd_same shl_ints)
      · cases hgd
    · cases hgd
  · cases hgd
/-! ranges as values -/
def rgL (i j : Int) : List Int := (List.range (j - i).toNat).map fun k : Nat => i + k
def rgOkB (i j : Int) : Bool := rgB i j && decide ((j - i).toNat ≤ lim)
theorem rgOkB_ok {i j : Int} (h : rgOkB i j = true) : RgOk i j := by
  unfold rgOkB at h
  rw [Bool.and_eq_true, decide_eq_true_eq] at h
  have h1 := rgB_ok h.1
  have h2 : (j - i).toNat ≤ 2 ^ 24 := Nat.le_trans h.2 (by decide)
  exact ⟨h1.1, h1.2.1, h1.2.2.1, h1.2.2.2, h2⟩
theorem rgV_eq (i j : Int) : rgV i j = (rgL i j).map V.int := by
  unfold rgV rgL
  rw [List.map_map]
  rfl
def lrg1D : D → Option (D × Nat)
  | .int n => if rgOkB 0 n = true then some (.lst ((rgL 0 n).map D.int), 1) else none
  | _ => none
def trg1D : D → Option (D × Nat)
  | .int n => if rgOkB 0 n = true then some (.tup ((rgL 0 n).map D.int), 0) else none
  | _ => none
def lrg2D : D → D → Option (D × Nat)
  | .int m, .int n => if rgOkB m n = true then some (.lst ((rgL m n).map D.int), 1) else none
  | _, _ => none
theorem ev_lrg1 (G : Good Γ) (hg : Gl Γ.X "list") (hm : Γ.X.mg "list" = none) (hg2 : Gl Γ.X "range") (hm2 : Γ.X.mg "range" = none) (ha : EvO Γ a fa) (hs : starEach [a] Γ.X.env = [(false, eval a Γ.X.env)] := by rfl)
    (hs2 : starEach [.Call (.Name "range" p2) [a] [] q] Γ.X.env = [(false, eval (.Call (.Name "range" p2) [a] [] q) Γ.X.env)] := by rfl) : EvE Γ (.Call (.Name "list" p) [.Call (.Name "range" p2) [a] [] q] [] pos) (op1 lrg1D fa) := by
  obtain ⟨t, h1, h2⟩ := ha
  refine ⟨_, pe_listRg G.calm hg hm (prg_1 hg2 hm2 h1 hs) hs2, h2.op1 (r := fun v H Q => ∃ n, v = .int n ∧ RgOk 0 n ∧ ∀ q, H q = none → Q (.ref q) (upd H q (.lst (rgV 0 n)))) fun σ H Z env φ S x d pp hx hgd Q P => ?_⟩
  unfold lrg1D at hgd
  split at hgd
  · split at hgd
    · rename_i n hn
      cases hgd
      refine ⟨n, hx.intI, rgOkB_ok hn, fun b hb => ?_⟩
      rw [rgV_eq]
      exact Post.newL P S hb (Ow.lst1 upd_same shl_ints)
    · cases hgd
  · cases hgd
theorem ev_trg1 (G : Good Γ) (hg : Gl Γ.X "tuple") (hm : Γ.X.mg "tuple" = none) (hg2 : Gl Γ.X "range") (hm2 : Γ.X.mg "range" = none) (ha : EvO Γ a fa) (hs : starEach [a] Γ.X.env = [(false, eval a Γ.X.env)] := by rfl)
    (hs2 : starEach [.Call (.Name "range" p2) [a] [] q] Γ.X.env = [(false, eval (.Call (.Name "range" p2) [a] [] q) Γ.X.env)] := by rfl) : EvE Γ (.Call (.Name "tuple" p) [.Call (.Name "range" p2) [a] [] q] [] pos) (op1 trg1D fa) := by
  obtain ⟨t, h1, h2⟩ := ha
  refine ⟨_, pe_tupRg G.calm hg hm (prg_1 hg2 hm2 h1 hs) hs2, h2.op1 (r := fun v H Q => ∃ n, v = .int n ∧ RgOk 0 n ∧ ∀ q, H q = none → Q (.ref q) (upd H q (.tup (rgV 0 n)))) fun σ H Z env φ S x d pp hx hgd Q P => ?_⟩
  unfold trg1D at hgd
  split at hgd
  · split at hgd
    · rename_i n hn
      cases hgd
      refine ⟨n, hx.intI, rgOkB_ok hn, fun b hb => ?_⟩
      rw [rgV_eq]
      exact Post.newT P S hb (Ow.sh (.tup (SqT.of upd_same) shl_ints))
    · cases hgd
  · cases hgd
theorem ev_lrg2 {b : Expr} {fb : En → R Opd} (G : Good Γ) (hg : Gl Γ.X "list") (hm : Γ.X.mg "list" = none) (hg2 : Gl Γ.X "range") (hm2 : Γ.X.mg "range" = none) (ha : EvO Γ a fa) (hb : EvO Γ b fb) (hs : starEach [a, b] Γ.X.env = (false, eval a Γ.X.env) :: starEach [b] Γ.X.env := by rfl)
    (hs1 : starEach [b] Γ.X.env = (false, eval b Γ.X.env) :: starEach [] Γ.X.env := by rfl) (hpl : (backTo q (starEach [b] Γ.X.env)).any (·.1) = false := by rfl)
    (hs2 : starEach [.Call (.Name "range" p2) [a, b] [] q] Γ.X.env = [(false, eval (.Call (.Name "range" p2) [a, b] [] q) Γ.X.env)] := by rfl) : EvE Γ (.Call (.Name "list" p) [.Call (.Name "range" p2) [a, b] [] q] [] pos) (op2 lrg2D fa fb) := by
  refine ev_op2 (ta := fun _ _ _ _ => False) (mk := fun x _ => x) (r := fun x y H Q => ∃ m n, x = .int m ∧ y = .int n ∧ RgOk m n ∧ ∀ q, H q = none → Q (.ref q) (upd H q (.lst (rgV m n)))) ha hb (fun ta tb h1 h2 => pe_listRg G.calm hg hm (prg_2 hg2 hm2 h1 h2 hs hs1 hpl) hs2) fun σ H Z env φ S x y d e pp hx hy hgd Q P => ?_
  unfold lrg2D at hgd
  split at hgd
  · split at hgd
    · rename_i m n hn
      cases hgd
      refine ⟨m, n, hx.intI, hy.intI, rgOkB_ok hn, fun b hb => ?_⟩
      rw [rgV_eq]
      exact Post.newL P S hb (Ow.lst1 upd_same shl_ints)
    · cases hgd
  · cases hgd
theorem rgL_nat {n : Nat} : rgL 0 (n : Int) = (List.range n).map fun k : Nat => (k : Int) := by
  unfold rgL
  have e : ((n : Int) - 0).toNat = n := by omega
  rw [e]
  exact List.map_congr_left fun k _ => Int.zero_add _
theorem rgOkB_nat {n : Nat} (h : n ≤ 100000) : rgOkB 0 (n : Int) = true := by
  unfold rgOkB
  rw [Bool.and_eq_true, decide_eq_true_eq]
  refine ⟨?_, ?_⟩
  · unfold rgB
    rw [Bool.and_eq_true]
    exact ⟨Nat.ble_eq_true_of_le (by omega), Nat.ble_eq_true_of_le (by omega)⟩
  · have e : ((n : Int) - 0).toNat = n := by omega
    rw [e]; exact le_lim h
end
end Pv
end

section
set_option Elab.async false
set_option linter.all false
set_option maxRecDepth 100000
set_option maxHeartbeats 4000000
/-! Pv26: sorted(ints, reverse=True). -/
namespace Pv
open PySem PySem.Spec PyProof.Rows L2
def insD (k : Int) : List Int → List Int
  | [] => [k]
  | x :: xs => if x ≤ k then k :: x :: xs else x :: insD k xs
def srtDn (ns : List Int) : List Int := ns.foldr insD []
theorem perm_insD (k : Int) : ∀ l : List Int, (insD k l).Perm (k :: l)
  | [] => .refl _
  | x :: xs => by
    unfold insD
    split
    · exact .refl _
    · exact ((perm_insD k xs).cons x).trans (.swap k x xs)
theorem desc_insD (k : Int) : ∀ l : List Int, l.Pairwise (· ≥ ·) → (insD k l).Pairwise (· ≥ ·)
  | [], _ => by simp [insD]
  | x :: xs, h => by
    have hx := List.pairwise_cons.mp h
    unfold insD
    split
    · rename_i q
      refine List.pairwise_cons.mpr ⟨fun y hy => ?_, h⟩
      rcases List.mem_cons.mp hy with e | hy
      · rw [e]; exact q
      · have := hx.1 y hy; omega
    · rename_i q
      refine List.pairwise_cons.mpr ⟨fun y hy => ?_, desc_insD k xs hx.2⟩
      rcases List.mem_cons.mp ((perm_insD k xs).mem_iff.mp hy) with e | hy
      · rw [e]; omega
      · exact hx.1 y hy
theorem perm_srtDn : ∀ ns : List Int, (srtDn ns).Perm ns
  | [] => .refl _
  | n :: ns => (perm_insD n _).trans ((perm_srtDn ns).cons n)
theorem desc_srtDn : ∀ ns : List Int, (srtDn ns).Pairwise (· ≥ ·)
  | [] => .nil
  | n :: ns => desc_insD n _ (desc_srtDn ns)
theorem desc_unique : ∀ {l r : List Int}, l.Pairwise (· ≥ ·) → r.Pairwise (· ≥ ·) → l.Perm r → l = r
  | [], r, _, _, h => by rw [List.Perm.eq_nil h.symm]
  | x :: xs, [], _, _, h => by have := h.length_eq; simp at this
  | x :: xs, y :: ys, h1, h2, h => by
    have a1 := List.pairwise_cons.mp h1
    have a2 := List.pairwise_cons.mp h2
    have e : x = y := by
      have k1 : y ≥ x := by
        rcases List.mem_cons.mp (h.mem_iff.mp List.mem_cons_self) with q | q
        · rw [q]; exact Int.le_refl _
        · exact a2.1 x q
      have k2 : x ≥ y := by
        rcases List.mem_cons.mp (h.mem_iff.mpr List.mem_cons_self) with q | q
        · rw [q]; exact Int.le_refl _
        · exact a1.1 y q
      omega
    subst e
    rw [desc_unique a1.2 a2.2 (List.Perm.cons_inv h)]
def sortRD : D → Option (D × Nat)
  | .lst xs => match D.ints xs with
    | some ns => some (.lst ((srtDn ns).map D.int), 1)
    | none => none
  | _ => none
section
variable {Γ : Ct} {a : Expr} {fa : En → R Opd} {p pos kpos p3 : Pos} {j : Nat}
theorem ev_sortR (hg : Gl Γ.X "sorted") (hm : Γ.X.mg "sorted" = none) (ha : EvO Γ a fa) (hs : starEach [a] Γ.X.env = [(false, eval a Γ.X.env)] := by rfl)
    (he : backTo pos (starEach [a] Γ.X.env) = (false, eval a Γ.X.env) :: backTo pos (starEach [] Γ.X.env) := by rfl) (hpl : (backTo pos (starEach [a] Γ.X.env)).any (·.1) = false := by rfl)
    (hall : (backToKw pos (keywordEach [⟨some "reverse", .Constant (.bool true) j p3, kpos⟩] Γ.X.env)).all (·.1.isSome) = true := by rfl) (hnone : (backToKw pos (keywordEach [⟨some "reverse", .Constant (.bool true) j p3, kpos⟩] Γ.X.env)).any (·.1.isNone) = false := by rfl)
    (hks : (backToKw pos (keywordEach [⟨some "reverse", .Constant (.bool true) j p3, kpos⟩] Γ.X.env)).filterMap (·.1) = [Str.ofString "reverse"] := by rfl) :
    EvE Γ (.Call (.Name "sorted" p) [a] [⟨some "reverse", .Constant (.bool true) j p3, kpos⟩] pos) (op1 sortRD fa) := by
  obtain ⟨t, h1, h2⟩ := ha
  have pa : PA Γ.X [a] (tCons t tNil) := pa_cons h1 pa_nil hs
  have pk : PK Γ.X [⟨some "reverse", .Constant (.bool true) j p3, kpos⟩] (tCons (tC (.bl true)) tNil) := pk_cons pe_bl pk_nil
  have pe2 := pe_callBK (p := p) (pos := pos) (cr_sortedRev (X := Γ.X) (b := true)) hg hm (by decide +kernel) pa pk (by decide) (by decide) he hpl hall hnone hks
  refine ⟨_, pe2, h2.op1 (r := fun v H Q => rSortedKw Γ.X.K true [.bl true] [v] [.bl true] H Q) fun σ H Z env φ S x d pp hx hgd Q P => ?_⟩
  unfold sortRD at hgd
  split at hgd
  · rename_i xs
    split at hgd
    · rename_i ns hns
      cases hgd
      have e := D.ints_eq hns
      subst e
      obtain ⟨b, us, rfl, hb, r⟩ := hx.lstI
      have e2 := r.ints
      subst e2
      refine ⟨b, ns, rfl, rfl, SqL.of hb, fun ns' p hp ho hp0 => ?_⟩
      have e3 : ns' = srtDn ns := desc_unique ho (desc_srtDn ns) (hp.trans (perm_srtDn ns).symm)
      subst e3
      exact Post.newL P S hp0 (Ow.lst1 upd_same shl_ints)
    · cases hgd
  · cases hgd
end
end Pv
end

section
set_option Elab.async false
set_option linter.all false
set_option maxRecDepth 100000
set_option maxHeartbeats 4000000
/-! Pv27: == of plain data (None, ints, texts, tuples, lists). -/
namespace Pv
open PySem PySem.Spec PyProof.Rows L2
mutual
def plD : D → Bool
  | .non => true
  | .int _ => true
  | .str s => PyData.strOk s
  | .tup ds => plL ds
  | .lst ds => plL ds
  | .bl _ => false
  | .fn _ => false
  | .dic _ _ => false
  | .scr _ => false
def plL : List D → Bool
  | [] => true
  | d :: ds => plD d && plL ds
end
mutual
def dpD : D → Nat
  | .tup ds => dpL ds + 1
  | .lst ds => dpL ds + 1
  | .non => 0
  | .int _ => 0
  | .str _ => 0
  | .bl _ => 0
  | .fn _ => 0
  | .dic _ _ => 0
  | .scr _ => 0
def dpL : List D → Nat
  | [] => 0
  | d :: ds => max (dpD d) (dpL ds)
end
mutual
def enP : D → PyData
  | .int i => .int i
  | .str s => .str s
  | .tup ds => .tuple (enPL ds)
  | .lst ds => .list (enPL ds)
  | .non => .none
  | .bl b => .bool b
  | .fn _ => .none
  | .dic _ _ => .none
  | .scr _ => .none
def enPL : List D → List PyData
  | [] => []
  | d :: ds => enP d :: enPL ds
end
mutual
theorem py_enP : ∀ d : D, plD d = true → D.py d = some (enP d)
  | .non, _ => rfl
  | .int _, _ => rfl
  | .str _, _ => rfl
  | .tup ds, h => by
    rw [D.py, pyL_enP ds (by simpa [plD] using h), enP]; rfl
  | .lst ds, h => by
    rw [D.py, pyL_enP ds (by simpa [plD] using h), enP]; rfl
  | .bl _, h => by simp [plD] at h
  | .fn _, h => by simp [plD] at h
  | .dic _ _, h => by simp [plD] at h
  | .scr _, h => by simp [plD] at h
theorem pyL_enP : ∀ ds : List D, plL ds = true → D.pyL ds = some (enPL ds)
  | [], _ => rfl
  | d :: ds, h => by
    rw [plL, Bool.and_eq_true] at h
    rw [D.pyL, py_enP d h.1, pyL_enP ds h.2, enPL]
end
mutual
theorem lay_enP : ∀ d : D, plD d = true → (enP d).canLay0 = true
  | .non, _ => by simp [enP, PyData.canLay0]
  | .int _, _ => by simp [enP, PyData.canLay0]
  | .str s, h => by
    rw [plD] at h
    simp [enP, PyData.canLay0, h]
  | .tup ds, h => by
    rw [enP, PyData.canLay0]; exact lay_enPL ds (by simpa [plD] using h)
  | .lst ds, h => by
    rw [enP, PyData.canLay0]; exact lay_enPL ds (by simpa [plD] using h)
  | .bl _, h => by simp [plD] at h
  | .fn _, h => by simp [plD] at h
  | .dic _ _, h => by simp [plD] at h
  | .scr _, h => by simp [plD] at h
theorem lay_enPL : ∀ ds : List D, plL ds = true → PyData.canLayAll0 (enPL ds) = true
  | [], _ => by simp [enPL, PyData.canLayAll0]
  | d :: ds, h => by
    rw [plL, Bool.and_eq_true] at h
    rw [enPL, PyData.canLayAll0, lay_enP d h.1, lay_enPL ds h.2]
    rfl
end
mutual
theorem dep_enP : ∀ d : D, (enP d).depth = dpD d
  | .non => by simp [enP, PyData.depth, dpD]
  | .int _ => by simp [enP, PyData.depth, dpD]
  | .str s => by simp [enP, PyData.depth, dpD]
  | .tup ds => by rw [enP, PyData.depth, dpD, dep_enPL ds]
  | .lst ds => by rw [enP, PyData.depth, dpD, dep_enPL ds]
  | .bl _ => by simp [enP, PyData.depth, dpD]
  | .fn _ => by simp [enP, PyData.depth, dpD]
  | .dic _ _ => by simp [enP, PyData.depth, dpD]
  | .scr _ => by simp [enP, PyData.depth, dpD]
theorem dep_enPL : ∀ ds : List D, PyData.depthAll (enPL ds) = dpL ds
  | [] => by simp [enPL, PyData.depthAll, dpL]
  | d :: ds => by rw [enPL, PyData.depthAll, dpL, dep_enP d, dep_enPL ds]
end
mutual
theorem eqv_enP : ∀ d e : D, plD d = true → plD e = true → (PyData.eqv (enP d) (enP e) = true ↔ d = e)
  | .non, e, _, h => by cases e <;> simp [plD] at h <;> simp [enP, PyData.eqv]
  | .int i, e, _, h => by cases e <;> simp [plD] at h <;> simp [enP, PyData.eqv]
  | .str s, e, _, h => by cases e <;> simp [plD] at h <;> simp [enP, PyData.eqv]
  | .tup ds, e, h0, h => by
    have h0 : plL ds = true := by simpa [plD] using h0
    cases e with
    | tup es =>
      have h : plL es = true := by simpa [plD] using h
      have ih := eqv_enPL ds es h0 h
      rw [enP, enP, PyData.eqv, ih]
      simp
    | non => simp [enP, PyData.eqv]
    | int _ => simp [enP, PyData.eqv]
    | str _ => simp [enP, PyData.eqv]
    | lst _ => simp [enP, PyData.eqv]
    | bl _ => simp [plD] at h
    | fn _ => simp [plD] at h
    | dic _ _ => simp [plD] at h
    | scr _ => simp [plD] at h
  | .lst ds, e, h0, h => by
    have h0 : plL ds = true := by simpa [plD] using h0
    cases e with
    | lst es =>
      have h : plL es = true := by simpa [plD] using h
      have ih := eqv_enPL ds es h0 h
      rw [enP, enP, PyData.eqv, ih]
      simp
    | non => simp [enP, PyData.eqv]
    | int _ => simp [enP, PyData.eqv]
    | str _ => simp [enP, PyData.eqv]
    | tup _ => simp [enP, PyData.eqv]
    | bl _ => simp [plD] at h
    | fn _ => simp [plD] at h
    | dic _ _ => simp [plD] at h
    | scr _ => simp [plD] at h
  | .bl _, _, h, _ => by simp [plD] at h
  | .fn _, _, h, _ => by simp [plD] at h
  | .dic _ _, _, h, _ => by simp [plD] at h
  | .scr _, _, h, _ => by simp [plD] at h
theorem eqv_enPL : ∀ ds es : List D, plL ds = true → plL es = true → (PyData.eqvAll (enPL ds) (enPL es) = true ↔ ds = es)
  | [], [], _, _ => by simp [enPL, PyData.eqvAll]
  | [], _ :: _, _, _ => by simp [enPL, PyData.eqvAll]
  | _ :: _, [], _, _ => by simp [enPL, PyData.eqvAll]
  | d :: ds, e :: es, h0, h => by
    rw [plL, Bool.and_eq_true] at h0 h
    rw [enPL, enPL, PyData.eqvAll, Bool.and_eq_true, eqv_enP d e h0.1 h.1, eqv_enPL ds es h0.2 h.2]
    simp
end
/-- plain data, not deep -/
structure PlD (d : D) : Prop where
  p : plD d = true
  d : dpD d ≤ 64
theorem eqB_pl {d e : D} (h0 : PlD d) (h : PlD e) : ∃ b, eqB d e = some b ∧ (b = true ↔ d = e) := by
  refine ⟨PyData.eqv (enP d) (enP e), ?_, eqv_enP d e h0.p h.p⟩
  unfold eqB
  rw [py_enP d h0.p, py_enP e h.p]
  have s0 : SeqAt.shaped (enP d) = true := by
    unfold SeqAt.shaped
    rw [lay_enP d h0.p, dep_enP, Bool.true_and]
    exact decide_eq_true h0.d
  have s1 : SeqAt.shaped (enP e) = true := by
    unfold SeqAt.shaped
    rw [lay_enP e h.p, dep_enP, Bool.true_and]
    exact decide_eq_true h.d
  simp only [s0, s1, Bool.and_self, if_true]
theorem eqB_same {d : D} (h : PlD d) : eqB d d = some true := by
  obtain ⟨b, h1, h2⟩ := eqB_pl h h
  rw [h1, h2.mpr rfl]
theorem eqB_diff {d e : D} (h0 : PlD d) (h : PlD e) (hn : d ≠ e) : eqB d e = some false := by
  obtain ⟨b, h1, h2⟩ := eqB_pl h0 h
  cases b with
  | true => exact (hn (h2.mp rfl)).elim
  | false => exact h1
theorem eqD_same {d : D} (h : PlD d) : eqD d d = some (.bl true, 0) := by simp [eqD, eqB_same h]
theorem neD_same {d : D} (h : PlD d) : neD d d = some (.bl false, 0) := by simp [neD, eqB_same h]
theorem eqD_diff {d e : D} (h0 : PlD d) (h : PlD e) (hn : d ≠ e) : eqD d e = some (.bl false, 0) := by simp [eqD, eqB_diff h0 h hn]
theorem neD_diff {d e : D} (h0 : PlD d) (h : PlD e) (hn : d ≠ e) : neD d e = some (.bl true, 0) := by simp [neD, eqB_diff h0 h hn]
theorem plL_all : ∀ ds : List D, plL ds = ds.all plD
  | [] => rfl
  | d :: ds => by rw [plL, plL_all ds]; rfl
theorem dpL_le {k : Nat} : ∀ {ds : List D}, (∀ d ∈ ds, dpD d ≤ k) → dpL ds ≤ k
  | [], _ => Nat.zero_le _
  | d :: ds, h => by
    rw [dpL]
    exact Nat.max_le.mpr ⟨h d List.mem_cons_self, dpL_le fun e he => h e (List.mem_cons_of_mem _ he)⟩
theorem PlD.tup {ds : List D} {k : Nat} (h : ∀ d ∈ ds, plD d = true ∧ dpD d ≤ k) (hk : k < 64) : PlD (.tup ds) :=
  ⟨by rw [plD, plL_all, List.all_eq_true]; exact fun d hd => (h d hd).1, by rw [dpD]; have := dpL_le fun d hd => (h d hd).2; omega⟩
theorem PlD.lst {ds : List D} {k : Nat} (h : ∀ d ∈ ds, plD d = true ∧ dpD d ≤ k) (hk : k < 64) : PlD (.lst ds) :=
  ⟨by rw [plD, plL_all, List.all_eq_true]; exact fun d hd => (h d hd).1, by rw [dpD]; have := dpL_le fun d hd => (h d hd).2; omega⟩
end Pv
end

section
set_option Elab.async false
set_option linter.all false
set_option maxRecDepth 100000
set_option maxHeartbeats 4000000
/-! Pm1: partings: first numbering, restricted growth, kernels. -/
namespace PM
theorem snocInd {α : Type} {P : List α → Prop} (h0 : P []) (hs : ∀ xs x, P xs → P (xs ++ [x])) (xs : List α) : P xs := by
  have key : ∀ l : List α, P l.reverse := by
    intro l
    induction l with
    | nil => exact h0
    | cons a l ih => rw [List.reverse_cons]; exact hs _ _ ih
  have := key xs.reverse
  rwa [List.reverse_reverse] at this
def stepN (st : List Int × List Int) (m : Int) : List Int × List Int := if m ∈ st.1 then (st.1, st.2 ++ [((st.1.idxOf m : Nat) : Int)]) else (st.1 ++ [m], st.2 ++ [((st.1.length : Nat) : Int)])
def stN (xs : List Int) : List Int × List Int := xs.foldl stepN ([], [])
def fnum (xs : List Int) : List Int := (stN xs).2
theorem stN_snoc (xs : List Int) (m : Int) : stN (xs ++ [m]) = stepN (stN xs) m := by
  unfold stN
  rw [List.foldl_append]
  rfl
theorem mem_foldN (j : Int) : ∀ (xs : List Int) (st : List Int × List Int), j ∈ (xs.foldl stepN st).1 ↔ j ∈ st.1 ∨ j ∈ xs
  | [], st => by simp
  | m :: xs, st => by
    rw [List.foldl_cons, mem_foldN j xs, List.mem_cons]
    unfold stepN
    split
    · rename_i h
      constructor
      · rintro (q | q)
        · exact .inl q
        · exact .inr (.inr q)
      · rintro (q | rfl | q)
        · exact .inl q
        · exact .inl h
        · exact .inr q
    · simp only [List.mem_append, List.mem_singleton]
      constructor
      · rintro ((q | q) | q)
        · exact .inl q
        · exact .inr (.inl q)
        · exact .inr (.inr q)
      · rintro (q | q | q)
        · exact .inl (.inl q)
        · exact .inl (.inr q)
        · exact .inr q
theorem mem_stN {j : Int} {xs : List Int} : j ∈ (stN xs).1 ↔ j ∈ xs := by
  unfold stN
  rw [mem_foldN]
  simp
theorem len_foldN : ∀ (xs : List Int) (st : List Int × List Int), (xs.foldl stepN st).2.length = st.2.length + xs.length
  | [], st => by simp
  | m :: xs, st => by
    rw [List.foldl_cons, len_foldN xs]
    unfold stepN
    split <;> simp <;> omega
theorem len_fnum (xs : List Int) : (fnum xs).length = xs.length := by
  unfold fnum stN
  rw [len_foldN]
  simp
def rgI (K : Nat) : List Int := (List.range K).map fun k : Nat => (k : Int)
theorem mem_rgI {j : Int} {K : Nat} : j ∈ rgI K ↔ 0 ≤ j ∧ j < K := by
  unfold rgI
  rw [List.mem_map]
  constructor
  · rintro ⟨a, ha, rfl⟩
    have := List.mem_range.mp ha
    omega
  · rintro ⟨h1, h2⟩
    exact ⟨j.toNat, List.mem_range.mpr (by omega), by omega⟩
theorem rgI_succ (K : Nat) : rgI (K + 1) = rgI K ++ [(K : Int)] := by
  unfold rgI
  rw [List.range_succ, List.map_append]
  rfl
theorem rgI_len (K : Nat) : (rgI K).length = K := by simp [rgI]
theorem idx_rgI {K c : Nat} (h : c < K) : (rgI K).idxOf (c : Int) = c := by
  induction K with
  | zero => omega
  | succ K ih =>
    rw [rgI_succ, List.idxOf_append]
    by_cases hc : c < K
    · have : (c : Int) ∈ rgI K := mem_rgI.mpr ⟨by omega, by omega⟩
      rw [if_pos this, ih hc]
    · have e : c = K := by omega
      subst e
      have : ¬ (c : Int) ∈ rgI c := fun q => by have := (mem_rgI.mp q).2; omega
      rw [if_neg this, rgI_len]
      simp
/-- a parting with K blocks -/
def RG (K : Nat) (xs : List Int) : Prop := stN xs = (rgI K, xs)
theorem rg_nil : RG 0 [] := rfl
theorem rg_old {K c : Nat} {xs : List Int} (h : RG K xs) (hc : c < K) : RG K (xs ++ [(c : Int)]) := by
  unfold RG at h ⊢
  rw [stN_snoc, h]
  unfold stepN
  rw [if_pos (mem_rgI.mpr ⟨by omega, by omega⟩)]
  simp only [idx_rgI hc]
theorem rg_new {K : Nat} {xs : List Int} (h : RG K xs) : RG (K + 1) (xs ++ [(K : Int)]) := by
  unfold RG at h ⊢
  rw [stN_snoc, h]
  unfold stepN
  have : ¬ (K : Int) ∈ rgI K := fun q => by have := (mem_rgI.mp q).2; omega
  simp only [if_neg this, rgI_len, rgI_succ]
theorem rg_mem {K : Nat} {xs : List Int} (h : RG K xs) (j : Int) : j ∈ xs ↔ 0 ≤ j ∧ j < K := by
  rw [← mem_stN, h, mem_rgI]
theorem rg_fnum {K : Nat} {xs : List Int} (h : RG K xs) : fnum xs = xs := by
  unfold fnum
  rw [h]
theorem rg_of {xs : List Int} (h : fnum xs = xs) : ∃ K, RG K xs := by
  have key : ∀ xs : List Int, (stN xs).2 = xs → ∃ K, (stN xs).1 = rgI K := by
    intro xs
    refine snocInd (P := fun xs => (stN xs).2 = xs → ∃ K, (stN xs).1 = rgI K) (fun _ => ⟨0, rfl⟩) (fun xs c ih h => ?_) xs
    rw [stN_snoc] at h ⊢
    unfold stepN at h ⊢
    by_cases hc : c ∈ (stN xs).1
    · rw [if_pos hc] at h ⊢
      exact ih (List.append_inj_left' h rfl)
    · rw [if_neg hc] at h ⊢
      obtain ⟨K, hK⟩ := ih (List.append_inj_left' h rfl)
      have e := List.append_inj_right' h rfl
      simp only [List.cons.injEq, and_true] at e
      rw [hK, rgI_len] at e
      exact ⟨K + 1, by rw [rgI_succ, ← e, hK]⟩
  obtain ⟨K, hK⟩ := key xs h
  exact ⟨K, Prod.ext hK h⟩
theorem len_stN1 (xs : List Int) : (stN xs).1.length ≤ xs.length := by
  refine snocInd (P := fun xs => (stN xs).1.length ≤ xs.length) (by simp [stN]) (fun xs c ih => ?_) xs
  rw [stN_snoc]
  unfold stepN
  split <;> simp <;> omega
theorem rg_le {K : Nat} {xs : List Int} (h : RG K xs) : K ≤ xs.length := by
  have key : ∀ xs : List Int, (stN xs).1.length ≤ xs.length := by
    intro xs
    refine snocInd (P := fun xs => (stN xs).1.length ≤ xs.length) (by simp [stN]) (fun xs c ih => ?_) xs
    rw [stN_snoc]
    unfold stepN
    split <;> simp <;> omega
  have := key xs
  rw [h, rgI_len] at this
  exact this
/-! kernels -/
theorem idx_map {σ : Int → Int} {m : Int} : ∀ {l : List Int}, (∀ a ∈ l, σ a = σ m → a = m) → (l.map σ).idxOf (σ m) = l.idxOf m
  | [], _ => rfl
  | a :: l, h => by
    rw [List.map_cons, List.idxOf_cons, List.idxOf_cons, idx_map fun b hb => h b (List.mem_cons_of_mem _ hb)]
    by_cases e : a = m
    · subst e
      rw [beq_self_eq_true, beq_self_eq_true]
    · have h1 : (σ a == σ m) = false := beq_eq_false_iff_ne.mpr fun q => e (h a List.mem_cons_self q)
      have h2 : (a == m) = false := beq_eq_false_iff_ne.mpr e
      rw [h1, h2]
theorem fold_map {σ : Int → Int} : ∀ (xs : List Int) (st : List Int × List Int), (∀ a, a ∈ st.1 ∨ a ∈ xs → ∀ b, b ∈ st.1 ∨ b ∈ xs → σ a = σ b → a = b) →
    (xs.map σ).foldl stepN (st.1.map σ, st.2) = ((xs.foldl stepN st).1.map σ, (xs.foldl stepN st).2)
  | [], st, _ => rfl
  | m :: xs, st, h => by
    rw [List.map_cons, List.foldl_cons, List.foldl_cons]
    have hm : σ m ∈ st.1.map σ ↔ m ∈ st.1 := by
      rw [List.mem_map]
      constructor
      · rintro ⟨a, ha, e⟩
        rw [← h a (.inl ha) m (.inr List.mem_cons_self) e]; exact ha
      · exact fun q => ⟨m, q, rfl⟩
    have hi : (st.1.map σ).idxOf (σ m) = st.1.idxOf m := idx_map fun a ha e => h a (.inl ha) m (.inr List.mem_cons_self) e
    have e : stepN (st.1.map σ, st.2) (σ m) = ((stepN st m).1.map σ, (stepN st m).2) := by
      unfold stepN
      by_cases q : m ∈ st.1
      · rw [if_pos (hm.mpr q), if_pos q]
        simp only [hi]
      · rw [if_neg (fun z => q (hm.mp z)), if_neg q]
        simp
    rw [e]
    refine fold_map xs (stepN st m) fun a ha b hb => h a ?_ b ?_
    · rcases ha with ha | ha
      · unfold stepN at ha
        split at ha
        · exact .inl ha
        · rcases List.mem_append.mp ha with ha | ha
          · exact .inl ha
          · exact .inr (by rw [List.mem_singleton.mp ha]; exact List.mem_cons_self)
      · exact .inr (List.mem_cons_of_mem _ ha)
    · rcases hb with ha | ha
      · unfold stepN at ha
        split at ha
        · exact .inl ha
        · rcases List.mem_append.mp ha with ha | ha
          · exact .inl ha
          · exact .inr (by rw [List.mem_singleton.mp ha]; exact List.mem_cons_self)
      · exact .inr (List.mem_cons_of_mem _ ha)
theorem fnum_map {σ : Int → Int} {xs : List Int} (h : ∀ a ∈ xs, ∀ b ∈ xs, σ a = σ b → a = b) : fnum (xs.map σ) = fnum xs := by
  have := fold_map (σ := σ) xs ([], []) (fun a ha b hb => h a (by simpa using ha) b (by simpa using hb))
  unfold fnum stN
  have e : (([] : List Int).map σ, ([] : List Int)) = ([], []) := rfl
  rw [e] at this
  rw [this]
/-- one numbering for one kernel -/
theorem fnum_ker {a b : List Int} (hl : a.length = b.length) (h : ∀ i j, i < a.length → j < a.length → (a[i]? = a[j]? ↔ b[i]? = b[j]?)) : fnum a = fnum b := by
  have hm : a.map (fun v => b.getD (a.idxOf v) 0) = b := by
    apply List.ext_getElem?
    intro i
    rw [List.getElem?_map]
    by_cases hi : i < a.length
    · have e1 : a[i]? = some a[i] := List.getElem?_eq_getElem hi
      have hmem : a[i] ∈ a := List.getElem_mem hi
      have hlt : a.idxOf a[i] < a.length := List.idxOf_lt_length_of_mem hmem
      have e2 : a[a.idxOf a[i]]? = some a[i] := by
        rw [List.getElem?_eq_getElem hlt, List.getElem_idxOf]
      have e3 := (h (a.idxOf a[i]) i hlt hi).mp (by rw [e2, e1])
      rw [e1, Option.map_some, List.getD_eq_getElem?_getD, e3]
      rw [List.getElem?_eq_getElem (by omega)]
      rfl
    · rw [List.getElem?_eq_none (by omega), List.getElem?_eq_none (by omega)]
      rfl
  rw [← hm, fnum_map fun u hu v hv e => ?_]
  have hlu : a.idxOf u < a.length := List.idxOf_lt_length_of_mem hu
  have hlv : a.idxOf v < a.length := List.idxOf_lt_length_of_mem hv
  simp only [List.getD_eq_getElem?_getD] at e
  rw [List.getElem?_eq_getElem (by omega), List.getElem?_eq_getElem (by omega), Option.getD_some, Option.getD_some] at e
  have q := (h (a.idxOf u) (a.idxOf v) hlu hlv).mpr (by rw [List.getElem?_eq_getElem (by omega), List.getElem?_eq_getElem (by omega), e])
  rw [List.getElem?_eq_getElem hlu, List.getElem?_eq_getElem hlv, List.getElem_idxOf, List.getElem_idxOf] at q
  exact Option.some.inj q
end PM
end

section
set_option Elab.async false
set_option linter.all false
set_option maxRecDepth 100000
set_option maxHeartbeats 4000000
/-! Pv28: loops that may raise, dicts with int keys, sorted ints. -/
namespace Pv
open PySem PySem.Spec PyProof.Rows L2
/-- a loop whose turns may raise x -/
theorem loopS_opt {α β : Type} {g : D → En → Option En} {body : En → SR} {x : Xn} (f : β → D) (step : α → β → Option α) (P : α → En → Prop) : ∀ (bs : List β) (a : α) (env : En), P a env →
    (∀ b ∈ bs, ∀ a env, P a env → ∃ e1, g (f b) env = some e1 ∧ (match step a b with
      | some a' => ∃ e2, body e1 = .nx e2 ∧ P a' e2
      | none => body e1 = .ex x)) →
    (match bs.foldlM step a with
      | some a' => ∃ e, loopS g body (bs.map f) env = .nx e ∧ P a' e
      | none => loopS g body (bs.map f) env = .ex x)
  | [], a, env, hP, _ => ⟨env, rfl, hP⟩
  | b :: bs, a, env, hP, h => by
    obtain ⟨e1, h1, h2⟩ := h b List.mem_cons_self a env hP
    rw [List.foldlM_cons, List.map_cons]
    cases hs : step a b with
    | none =>
      rw [hs] at h2
      simp only [Option.bind_eq_bind, Option.bind_none]
      unfold loopS
      rw [h1]
      simp only [h2]
    | some a' =>
      rw [hs] at h2
      obtain ⟨e2, h3, h4⟩ := h2
      have ih := loopS_opt (g := g) (body := body) (x := x) f step P bs a' e2 h4 fun b' hb => h b' (List.mem_cons_of_mem _ hb)
      simp only [Option.bind_eq_bind, Option.bind_some]
      unfold loopS
      rw [h1]
      simp only [h3]
      exact ih
/-- a dict with int keys -/
def dicI (ks : List Int) (vs : List D) : D := .dic (ks.map Sum.inl) vs
theorem hasK_int (m : Int) : ∀ ks : List Int, hasK (ks.map (Sum.inl : Int → Key)) (Sum.inl m) = decide (m ∈ ks)
  | [] => rfl
  | k :: ks => by
    have ih := hasK_int m ks
    unfold hasK at ih ⊢
    rw [List.map_cons, List.any_cons, ih]
    by_cases e : k = m
    · subst e; simp
    · have e' : ¬ m = k := fun q => e q.symm
      simp [e, e']
theorem inD_dicI (m : Int) (ks : List Int) (vs : List D) : inD (.int m) (dicI ks vs) = some (.bl (decide (m ∈ ks)), 0) := by
  show (((keyD (.int m)).map fun k => hasK (ks.map Sum.inl) k).map fun b => (D.bl b, 0)) = _
  simp only [keyD, Option.map_some, hasK_int]
theorem ninD_dicI (m : Int) (ks : List Int) (vs : List D) : ninD (.int m) (dicI ks vs) = some (.bl (!decide (m ∈ ks)), 0) := by
  show (((keyD (.int m)).map fun k => hasK (ks.map Sum.inl) k).map fun b => (D.bl (!b), 0)) = _
  simp only [keyD, Option.map_some, hasK_int]
theorem put_dicI {m : Int} {ks : List Int} {vs : List D} {v : D} (h : m ∉ ks) (hl : ks.length < 100000) : putD (dicI ks vs) (.int m) v = some (dicI (ks ++ [m]) (vs ++ [v])) := by
  show ((keyD (.int m)).bind fun k => if (ks.map (Sum.inl : Int → Key)).length < lim then some (if hasK (ks.map Sum.inl) k then D.dic (ks.map Sum.inl) (putVs (ks.map Sum.inl) vs k v) else D.dic (ks.map Sum.inl ++ [k]) (vs ++ [v])) else none) = _
  have h1 : (ks.map (Sum.inl : Int → Key)).length < lim := by rw [List.length_map]; exact lt_lim hl
  have h2 : decide (m ∈ ks) = false := decide_eq_false h
  simp only [keyD, Option.bind_some, h1, if_true, hasK_int, h2, Bool.false_eq_true, if_false]
  unfold dicI
  rw [List.map_append]
  rfl
theorem keyV_int (m : Int) : ∀ (ks : List Int) (vs : List D), ks.length = vs.length → m ∈ ks → keyV (ks.map (Sum.inl : Int → Key)) vs (Sum.inl m) = vs[ks.idxOf m]?
  | [], _, _, h => by cases h
  | k :: ks, [], h, _ => by simp at h
  | k :: ks, v :: vs, hl, hm => by
    unfold keyV
    rw [List.map_cons, List.zip_cons_cons, List.find?_cons]
    by_cases e : k = m
    · subst e
      simp
    · have h1 : decide ((Sum.inl k : Key) = Sum.inl m) = false := decide_eq_false fun q => e (Sum.inl.inj q)
      have h2 : (k == m) = false := beq_eq_false_iff_ne.mpr e
      have hm' : m ∈ ks := by
        rcases List.mem_cons.mp hm with q | q
        · exact (e q.symm).elim
        · exact q
      have ih := keyV_int m ks vs (by simpa using hl) hm'
      unfold keyV at ih
      simp only [h1, List.idxOf_cons, h2, cond_false, List.getElem?_cons_succ]
      exact ih
theorem idx_dicI {m : Int} {ks : List Int} {vs : List D} {v : D} (hl : ks.length = vs.length) (hm : m ∈ ks) (hv : vs[ks.idxOf m]? = some v) : idxD (dicI ks vs) (.int m) = some (v, 0) := by
  show ((keyD (.int m)).bind fun k => (keyV (ks.map Sum.inl) vs k).map (·, 0)) = _
  simp only [keyD, Option.bind_some, keyV_int m ks vs hl hm, hv, Option.map_some]
/-- a draw -/
theorem take_nat (a b : Int) (m : Nat) (hm : 0 < m) (hl : m ≤ 1000) : ∃ (v : Nat) (a' b' : Int), lawTake (some (.lst [.int a, .int b], 1)) [.int m] = .ok (.int v, 0) (some (.lst [.int a', .int b'], 1)) ∧ v < m := by
  have hlog : (m : Int).natAbs.log2 < 9000 := by
    have h1 : (m : Int).natAbs = m := by omega
    rw [h1]
    have : m.log2 ≤ m := Nat.log2_le_self m
    omega
  obtain ⟨v, a', b', h1, h2, h3⟩ := lawTake_ok a b m (by omega) hlog
  obtain ⟨u, rfl⟩ : ∃ u : Nat, v = u := ⟨v.toNat, by omega⟩
  exact ⟨u, a', b', h1, by omega⟩
abbrev stt (a b : Int) : Sl := some (.lst [.int a, .int b], 1)
theorem idx_lst {ds : List D} {k : Nat} (h : k < ds.length) : idxD (.lst ds) (.int k) = some (ds[k], 0) := by
  show (L2.atI ds (k : Int)).map (·, 0) = _
  rw [at_nat h]
  rfl
theorem idx_tup {ds : List D} {k : Nat} (h : k < ds.length) : idxD (.tup ds) (.int k) = some (ds[k], 0) := by
  show (L2.atI ds (k : Int)).map (·, 0) = _
  rw [at_nat h]
  rfl
theorem str_nat {i : Int} (h : i.natAbs < 2 ^ 200) : strD (.int i) = some (.str (toString i), 0) := by
  have h1 : i.natAbs.log2 < 1920 := by
    by_cases h0 : i.natAbs = 0
    · rw [h0]; decide
    · have := (Nat.log2_lt h0).mpr h
      omega
  show (if i.natAbs.log2 < 1920 then some (D.str (toString i), 0) else none) = _
  rw [if_pos h1]
theorem cut_to {α : Type} {xs : List α} {k : Nat} (h : k ≤ xs.length) : cutD xs none (some (k : Int)) = xs.take k := by
  have h0 : HT.sIx xs.length 0 none = 0 := rfl
  have h1 : HT.sIx xs.length xs.length (some (k : Int)) = k := by
    rw [HT.sIx_nat]
    omega
  unfold cutD
  rw [h0, h1]
  simp
theorem cut_from {α : Type} {xs : List α} {k : Nat} (h : k ≤ xs.length) : cutD xs (some (k : Int)) none = xs.drop k := by
  have h0 : HT.sIx xs.length xs.length none = xs.length := rfl
  have h1 : HT.sIx xs.length 0 (some (k : Int)) = k := by
    rw [HT.sIx_nat]
    omega
  unfold cutD
  rw [h0, h1]
  apply List.take_of_length_le
  simp
/-- sorted ints, turned -/
theorem leK_int (a b : Int) : leK (.int a) (.int b) = decide (a ≤ b) := by
  rw [leK_eq]
  show (!PySem.W.dataLt (encD (.int b)) (encD (.int a))) = _
  have e : ∀ n : Int, encD (.int n) = .int n := fun _ => rfl
  rw [e, e]
  have h2 : PySem.W.dataLt (.int b) (.int a) = decide (b < a) := PySem.W.dataLt_int b a
  rw [h2]
  by_cases q : a ≤ b
  · have : ¬ b < a := by omega
    simp [q, this]
  · have : b < a := by omega
    simp [q, this]
def srtI (ns : List Int) : List Int := msr (fun a b => decide (a ≤ b)) ns.length ns
theorem sort_ints (ns : List Int) : sortL (ns.map D.int) = some (.lst ((srtI ns).map D.int), 1) := by
  have ok : sortOkB (ns.map D.int) = true := by
    unfold sortOkB
    have : (ns.map D.int).all isInt = true := by simp [isInt]
    rw [this]; simp
  unfold sortL
  rw [if_pos ok]
  unfold srt srtI
  rw [List.length_map, msr_map leK_int]
theorem srtI_perm (ns : List Int) : (srtI ns).Perm ns := msr_perm _ ns
theorem srtI_asc (ns : List Int) : (srtI ns).Pairwise (· ≤ ·) := by
  unfold srtI
  rw [msr_eq _ _ _ (Nat.le_succ _)]
  have := List.pairwise_mergeSort (le := fun a b : Int => decide (a ≤ b)) (fun a b c h1 h2 => by
    rw [decide_eq_true_eq] at *; omega) (fun a b => by
    rw [Bool.or_eq_true, decide_eq_true_eq, decide_eq_true_eq]; omega) ns
  exact this.imp fun h => of_decide_eq_true h
theorem srtI_rev (ns : List Int) : (srtI ns).reverse = srtDn ns :=
  desc_unique (List.pairwise_reverse.mpr ((srtI_asc ns).imp fun h => h)) (desc_srtDn ns) ((List.reverse_perm _).trans ((srtI_perm ns).trans (perm_srtDn ns).symm))
end Pv
end

section
set_option Elab.async false
set_option linter.all false
set_option maxRecDepth 100000
set_option maxHeartbeats 4000000
/-! Pv29: comprehensions that draw; partings put together again. -/
namespace Pv
open PySem PySem.Spec PyProof.Rows L2
inductive Rel2 {α β : Type} (R : α → β → Prop) : List α → List β → Prop
  | nil : Rel2 R [] []
  | cons {a : α} {b : β} {as : List α} {bs : List β} : R a b → Rel2 R as bs → Rel2 R (a :: as) (b :: bs)
theorem compL_rel {g : D → En → Option En} {tt : En → R Bool} {te : En → R (D × Nat)} {m : Nat} {vs : List Nat} (I : En → Prop) (Rl : D → D → Prop) : ∀ (ds : List D) (env : En) (acc : List D), I env → acc.length + ds.length ≤ lim →
    (∀ d ∈ ds, ∀ env, I env → ∃ e1 e2 e3 d', g d env = some e1 ∧ tt e1 = .ok true e2 ∧ te e2 = .ok (d', m) e3 ∧ I (wipeE e3 vs) ∧ Rl d d') → ∃ e ds', compL g tt te m vs ds env acc = .ok (acc ++ ds') e ∧ I e ∧ Rel2 Rl ds ds'
  | [], env, acc, hI, _, _ => ⟨env, [], by simp [compL], hI, .nil⟩
  | d :: ds, env, acc, hI, hl, h => by
    obtain ⟨e1, e2, e3, d', h1, h2, h3, h4, h5⟩ := h d List.mem_cons_self env hI
    have hl' : acc.length < lim := by simp only [List.length_cons] at hl; omega
    obtain ⟨e, ds', q1, q2, q3⟩ := compL_rel I Rl ds (wipeE e3 vs) (acc ++ [d']) h4 (by simp only [List.length_append, List.length_cons, List.length_nil] at hl ⊢; omega) fun d' hd => h d' (List.mem_cons_of_mem _ hd)
    refine ⟨e, d' :: ds', ?_, q2, .cons h5 q3⟩
    unfold compL
    rw [h1]
    simp only [h2, h3, R.noX_ok, R.bind_ok, if_true, hl', and_self, q1, List.append_assoc, List.singleton_append]
theorem comp_rel {fi : En → R (List D)} {te : En → R (D × Nat)} {m i : Nat} (I : En → Prop) (Rl : D → D → Prop) {env env1 : En} {ds : List D} (hfi : fi env = .ok ds env1) (hi : env1[i]? = some none) (hI : I env1) (hl : ds.length ≤ 100000)
    (h : ∀ d ∈ ds, ∀ env, I env → i < env.length ∧ ∃ e3 d', te (env.set i (some (d, 0))) = .ok (d', m) e3 ∧ I (e3.set i none) ∧ Rl d d') : ∃ e ds', comp fi (nameG i) yesT te m [i] env = .ok (.lst ds', m + 1) (e.set i none) ∧ I e ∧ Rel2 Rl ds ds' := by
  obtain ⟨e, ds', q1, q2, q3⟩ := compL_rel (g := nameG i) (tt := yesT) (te := te) (m := m) (vs := [i]) I Rl ds env1 [] hI (by simpa using le_lim hl) fun d hd env hE => by
    obtain ⟨hlt, e3, d', h1, h2, h3⟩ := h d hd env hE
    exact ⟨_, _, e3, d', by unfold nameG; rw [if_pos hlt], rfl, h1, h2, h3⟩
  refine ⟨e, ds', ?_, q2, q3⟩
  unfold comp
  rw [hfi]
  have hw : wipeE env1 [i] = env1 := set_none hi
  simp only [R.bind_ok, hw, q1, List.nil_append]
  have hb : backE env1 e [i] = e.set i none := by
    show e.set i _ = _
    rw [hi]
  rw [hb]
end Pv
namespace PM
open Pv
def mark1 (n k : Nat) (tg : List (Int × Nat)) (x : Int) : Option (List (Int × Nat)) := if 0 ≤ x ∧ x < n ∧ x ∉ tg.map Prod.fst then some (tg ++ [(x, k)]) else none
def markB (n : Nat) (tg : List (Int × Nat)) (q : List Int × Nat) : Option (List (Int × Nat)) := q.1.foldlM (mark1 n q.2) tg
def tagsFrom : Nat → List (List Int) → List (Int × Nat)
  | _, [] => []
  | j, b :: M => b.map (fun x => (x, j)) ++ tagsFrom (j + 1) M
theorem tags_keys : ∀ (M : List (List Int)) (j : Nat), (tagsFrom j M).map Prod.fst = M.flatten
  | [], _ => rfl
  | b :: M, j => by
    rw [tagsFrom, List.map_append, List.map_map, tags_keys M, List.flatten_cons]
    congr 1
    simp [Function.comp_def]
theorem fold1 {n k : Nat} : ∀ (b : List Int) (tg : List (Int × Nat)), (∀ x ∈ b, 0 ≤ x ∧ x < n) → (tg.map Prod.fst ++ b).Nodup → b.foldlM (mark1 n k) tg = some (tg ++ b.map fun x => (x, k))
  | [], tg, _, _ => by simp
  | x :: b, tg, h, hn => by
    have h1 := h x List.mem_cons_self
    have h2 : x ∉ tg.map Prod.fst := fun q => by
      have := (List.nodup_append.mp hn).2.2 x q x List.mem_cons_self
      exact this rfl
    rw [List.foldlM_cons]
    unfold mark1
    rw [if_pos ⟨h1.1, h1.2, h2⟩]
    show List.foldlM (mark1 n k) (tg ++ [(x, k)]) b = _
    rw [fold1 b (tg ++ [(x, k)]) (fun y hy => h y (List.mem_cons_of_mem _ hy)) (by simpa using hn)]
    simp
theorem foldAll {n : Nat} : ∀ (M : List (List Int)) (j : Nat) (tg : List (Int × Nat)), (∀ x ∈ M.flatten, 0 ≤ x ∧ x < n) → (tg.map Prod.fst ++ M.flatten).Nodup → (M.zipIdx j).foldlM (markB n) tg = some (tg ++ tagsFrom j M)
  | [], j, tg, _, _ => by simp [tagsFrom]
  | b :: M, j, tg, h, hn => by
    rw [List.flatten_cons] at h hn
    rw [List.zipIdx_cons, List.foldlM_cons]
    have h1 : markB n tg (b, j) = some (tg ++ b.map fun x => (x, j)) := fold1 b tg (fun x hx => h x (List.mem_append_left _ hx)) (by
      rw [← List.append_assoc] at hn
      exact (List.nodup_append.mp hn).1)
    rw [h1]
    show List.foldlM (markB n) (tg ++ b.map fun x => (x, j)) (M.zipIdx (j + 1)) = _
    rw [foldAll M (j + 1) _ (fun x hx => h x (List.mem_append_right _ hx)) (by
      rw [List.map_append, List.map_map]
      have e : (Prod.fst ∘ fun x : Int => (x, j)) = id := rfl
      rw [e, List.map_id, List.append_assoc]
      exact hn)]
    rw [tagsFrom, List.append_assoc]
theorem tag_at : ∀ (M : List (List Int)) (j : Nat) (x : Int), x ∈ M.flatten → (tagsFrom j M)[M.flatten.idxOf x]? = some (x, j + M.findIdx fun b => decide (x ∈ b))
  | [], _, _, h => by simp at h
  | b :: M, j, x, h => by
    rw [tagsFrom, List.flatten_cons, List.idxOf_append, List.findIdx_cons]
    by_cases hx : x ∈ b
    · rw [if_pos hx, decide_eq_true hx]
      have hlt := List.idxOf_lt_length_of_mem hx
      rw [List.getElem?_append_left (by simpa using hlt), List.getElem?_map, List.getElem?_eq_getElem hlt, List.getElem_idxOf]
      rfl
    · rw [if_neg hx, decide_eq_false hx]
      have hM : x ∈ M.flatten := by
        rw [List.flatten_cons] at h
        exact (List.mem_append.mp h).resolve_left hx
      rw [List.getElem?_append_right (by simp)]
      have e : M.flatten.idxOf x + b.length - (b.map fun x => (x, j)).length = M.flatten.idxOf x := by simp
      rw [e, tag_at M (j + 1) x hM]
      simp only [cond_false, Option.some.injEq, Prod.mk.injEq, true_and]
      omega
/-- M: the blocks of p, in any order, each in any order -/
structure Fits (p : List Int) (M : List (List Int)) : Prop where
  cls : ∀ b ∈ M, ∃ c : Int, ∀ x : Int, x ∈ b ↔ ∃ i : Nat, x = i ∧ p[i]? = some c
  all : ∀ i : Nat, i < p.length → ∃ b ∈ M, (i : Int) ∈ b
  nd : M.flatten.Nodup
  len : M.flatten.length = p.length
  ne : ∀ b ∈ M, b ≠ []
theorem Fits.rng {p : List Int} {M : List (List Int)} (h : Fits p M) : ∀ x ∈ M.flatten, 0 ≤ x ∧ x < p.length := by
  intro x hx
  obtain ⟨b, hb, hxb⟩ := List.mem_flatten.mp hx
  obtain ⟨c, hc⟩ := h.cls b hb
  obtain ⟨i, rfl, hi⟩ := (hc x).mp hxb
  have := (List.getElem?_eq_some_iff.mp hi).1
  omega
def msOf (n : Nat) (M : List (List Int)) : List Int := (List.range n).map fun x : Nat => ((M.findIdx fun b => decide ((x : Int) ∈ b) : Nat) : Int)
theorem Fits.at {p : List Int} {M : List (List Int)} (h : Fits p M) {i : Nat} (hi : i < p.length) : ∃ hk : (M.findIdx fun b => decide ((i : Int) ∈ b)) < M.length, (i : Int) ∈ M[M.findIdx fun b => decide ((i : Int) ∈ b)] := by
  obtain ⟨b, hb, hib⟩ := h.all i hi
  have hk : (M.findIdx fun b => decide ((i : Int) ∈ b)) < M.length := List.findIdx_lt_length_of_exists ⟨b, hb, decide_eq_true hib⟩
  exact ⟨hk, of_decide_eq_true (List.findIdx_getElem (w := hk))⟩
theorem Fits.ker {p : List Int} {M : List (List Int)} (h : Fits p M) {i j : Nat} (hi : i < p.length) (hj : j < p.length) : (M.findIdx fun b => decide ((i : Int) ∈ b)) = (M.findIdx fun b => decide ((j : Int) ∈ b)) ↔ p[i]? = p[j]? := by
  have one : ∀ {i j : Nat}, i < p.length → j < p.length → p[i]? = p[j]? → (M.findIdx fun b => decide ((j : Int) ∈ b)) ≤ (M.findIdx fun b => decide ((i : Int) ∈ b)) := by
    intro i j hi hj e
    obtain ⟨hk, hm⟩ := h.at hi
    obtain ⟨c, hc⟩ := h.cls _ (List.getElem_mem hk)
    obtain ⟨i', e1, e2⟩ := (hc _).mp hm
    have e3 : i' = i := by omega
    subst e3
    have hjm := (hc (j : Int)).mpr ⟨j, rfl, by rw [← e, e2]⟩
    refine Nat.le_of_not_lt fun q => ?_
    have z := List.not_of_lt_findIdx q
    rw [decide_eq_true hjm] at z
    cases z
  constructor
  · intro e
    obtain ⟨hk, hm⟩ := h.at hi
    obtain ⟨hk', hm'⟩ := h.at hj
    obtain ⟨c, hc⟩ := h.cls _ (List.getElem_mem hk)
    obtain ⟨i', e1, e2⟩ := (hc _).mp hm
    have hm2 : (j : Int) ∈ M[M.findIdx fun b => decide ((i : Int) ∈ b)] := by
      have : M[M.findIdx fun b => decide ((i : Int) ∈ b)] = M[M.findIdx fun b => decide ((j : Int) ∈ b)] := by
        congr 1
      rw [this]; exact hm'
    obtain ⟨j', e3, e4⟩ := (hc _).mp hm2
    have q1 : i' = i := by omega
    have q2 : j' = j := by omega
    subst q1 q2
    rw [e2, e4]
  · intro e
    have := one hi hj e
    have := one hj hi e.symm
    omega
theorem fits_num {p : List Int} {M : List (List Int)} (h : Fits p M) : fnum (msOf p.length M) = fnum p := by
  refine fnum_ker (by simp [msOf]) fun i j hi hj => ?_
  have hi : i < p.length := by simpa [msOf] using hi
  have hj : j < p.length := by simpa [msOf] using hj
  unfold msOf
  rw [List.getElem?_map, List.getElem?_map, List.getElem?_range hi, List.getElem?_range hj, Option.map_some, Option.map_some, ← h.ker hi hj]
  constructor
  · intro e
    have := Option.some.inj e
    omega
  · intro e
    rw [e]
end PM
end

section
set_option Elab.async false
set_option linter.all false
set_option maxRecDepth 100000
set_option maxHeartbeats 4000000
/-! Pv30: len(set(list of ints)), a call of what an expression gives. -/
namespace Pv
open PySem PySem.Spec PyProof.Rows L2

def rLenSetA (K : PySem.W.Frag) : V → Hp → VK → Prop := fun x H Q => ∃ (l : Addr) (ns : List Int), x = .ref l ∧ SqL K H l (ns.map V.int) ∧ ns.length ≤ 4000 ∧ Q (.int ((firstMet (fun i => ns.getD i 0) ns.length).length : Nat)) H
theorem pe_lsetA {X : Cx} {a : Expr} {ta : TE} {p p2 q pos : Pos} (hg : Gl X "len") (hm : X.mg "len" = none) (hg2 : Gl X "set") (hm2 : X.mg "set" = none) (ha : PE X a ta) (hc : X.calm = true)
    (na : starEach [a] X.env = (false, eval a X.env) :: starEach [] X.env := by rfl) : PE X (.Call (.Name "len" p) [.Call (.Name "set" p2) [a] [] q] [] pos) (fun σ H Q => ta σ H fun x H1 => rLenSetA X.K x H1 Q) := by
  refine ⟨fun pins s σ H Q I h => ?_⟩
  refine Call_ (ld_blt I hg hm boot_len ?_)
  refine PyProof.Rows.callWith_builtin1 (PyProof.Rows.args_cons ?_ rfl) rfl rfl
  refine Call_ (ld_blt I hg2 hm2 boot_set ?_)
  refine PyProof.Rows.callWith_type1 (PyProof.Rows.args_cons (thn (ha.run pins s σ H _ I h) fun v s1 ⟨x, H1, I1, r1, qq⟩ => PyProof.Rows.args_nil ?_) na) na rfl
  obtain ⟨l, ns, rfl, hq, hl, qq⟩ := qq
  cases r1
  obtain ⟨its, r, pl, hz⟩ := I1.list hq
  have hsz : its.toArray.size = ns.length := by rw [List.size_toArray, ← r.length, List.length_map]
  have hi : IntsAre its.toArray.toList ns := ints_of_vals r
  refine call_set_list (I1.ok.hd hc) pl.isList hi (by rw [hsz]; unfold scanBound; omega) fun h' tk hS hk => ?_
  refine PyProof.Rows.args_nil ?_
  rw [hsz] at hS
  have hle := firstMet_length_le (fun i => ns.getD i 0) ns.length
  obtain ⟨o, es, ep, t, ho, hex, hd, _, _, _, hf, hn⟩ := hS
  have J : Inv X pins σ H1 { s1 with heap := h', toks := tk } := I1.kept fun b o e => hk b o (Heap.lt_size e) e
  exact call_len_set ho hex hd hf (by rw [hn]; omega) ⟨.int _, H1, J.tok _, ⟨_, by rw [hn]⟩, qq⟩
theorem mem_dedup (j : Int) : ∀ (l acc : List Int), j ∈ l.foldl step_dedup acc ↔ j ∈ acc ∨ j ∈ l
  | [], acc => by simp
  | x :: l, acc => by
    rw [List.foldl_cons, mem_dedup j l]
    unfold step_dedup
    split
    · rename_i h
      have hx : x ∈ acc := by simpa using h
      constructor
      · rintro (q | q)
        · exact .inl q
        · exact .inr (List.mem_cons_of_mem _ q)
      · rintro (q | q)
        · exact .inl q
        · rcases List.mem_cons.mp q with rfl | q
          · exact .inl hx
          · exact .inr q
    · simp only [List.mem_append, List.mem_cons, List.not_mem_nil, or_false]
      constructor
      · rintro ((q | q) | q)
        · exact .inl q
        · exact .inr (.inl q)
        · exact .inr (.inr q)
      · rintro (q | q | q)
        · exact .inl (.inl q)
        · exact .inl (.inr q)
        · exact .inr q
theorem nodup_dedup : ∀ (l acc : List Int), acc.Nodup → (l.foldl step_dedup acc).Nodup
  | [], acc, h => h
  | x :: l, acc, h => by
    rw [List.foldl_cons]
    refine nodup_dedup l _ ?_
    unfold step_dedup
    split
    · exact h
    · rename_i q
      have hx : x ∉ acc := by simpa using q
      exact List.nodup_append.mpr ⟨h, by simp, fun a ha b hb e => by
        rw [List.mem_singleton.mp hb] at e
        exact hx (e ▸ ha)⟩
theorem map_getD (ns : List Int) : (List.range ns.length).map (fun i => ns.getD i 0) = ns := by
  apply List.ext_getElem?
  intro i
  rw [List.getElem?_map]
  by_cases h : i < ns.length
  · rw [List.getElem?_range h, Option.map_some, List.getD_eq_getElem?_getD, List.getElem?_eq_getElem h]
    rfl
  · rw [List.getElem?_eq_none (by simpa using h), List.getElem?_eq_none (by omega)]
    rfl
theorem nodup_len {l r : List Int} (h1 : l.Nodup) (h2 : r.Nodup) (h : ∀ j, j ∈ l ↔ j ∈ r) : l.length = r.length :=
  ((List.perm_ext_iff_of_nodup h1 h2).mpr h).length_eq
theorem first_srtU (ns : List Int) : (firstMet (fun i => ns.getD i 0) ns.length).length = (srtU ns).length := by
  unfold firstMet
  rw [map_getD]
  refine nodup_len (nodup_dedup ns [] .nil) ((asc_srtU ns).imp fun h e => by omega) fun j => ?_
  rw [mem_dedup, mem_srtU]
  simp
def lsetD : D → Option (D × Nat)
  | .lst xs => match D.ints xs with
    | some ns => if ns.length ≤ 4000 then some (.int (srtU ns).length, 0) else none
    | none => none
  | _ => none
section
variable {Γ : Ct} {a e : Expr} {es : List Expr} {fa : En → R Opd} {p p2 q pos : Pos} {k : Nat}
theorem ev_lset (G : Good Γ) (hg : Gl Γ.X "len") (hm : Γ.X.mg "len" = none) (hg2 : Gl Γ.X "set") (hm2 : Γ.X.mg "set" = none) (ha : EvO Γ a fa) (hs : starEach [a] Γ.X.env = (false, eval a Γ.X.env) :: starEach [] Γ.X.env := by rfl) :
    EvE Γ (.Call (.Name "len" p) [.Call (.Name "set" p2) [a] [] q] [] pos) (op1 lsetD fa) := by
  obtain ⟨t, h1, h2⟩ := ha
  refine ⟨_, pe_lsetA hg hm hg2 hm2 h1 G.calm hs, h2.op1 (r := rLenSetA Γ.X.K) fun σ H Z env φ S x d pp hx hgd Q P => ?_⟩
  unfold lsetD at hgd
  split at hgd
  · split at hgd
    · rename_i ns hns
      split at hgd
      · rename_i hl
        cases hgd
        have e := D.ints_eq hns
        subst e
        obtain ⟨b, us, rfl, hb, r⟩ := hx.lstI
        have e2 := r.ints
        subst e2
        refine ⟨b, ns, rfl, SqL.of hb, hl, ?_⟩
        rw [first_srtU]
        exact Post.here P S (Ow.sh (.int _))
      · cases hgd
    · cases hgd
  · cases hgd
/-- the callee is what an expression gives -/
def callV (T : Nat → Option (Nat × (Sl → List D → FR))) (fe : En → R D) (r : En → R (List D)) : En → R (D × Nat) := fun env => (fe env).bind fun d env1 => match d with
  | .fn m => (match T m with
    | some (n, F) => callF n F r env1
    | none => .no)
  | _ => .no
def tCallV (W : WX) (tf : TE) (S : Addr → Sp → Prop) (t : L2.TA) : TE := fun σ H Q => tf σ H fun y H1 => ∃ f sp, y = .ref f ∧ S f sp ∧ t σ H1 fun vs H2 => sp vs H2 Q (WE W σ)
theorem pe_callV {X : Cx} {W : WX} {g : Expr} {tf : TE} {S : Addr → Sp → Prop} {t : L2.TA} (tk : Takes X W) (hS : ∀ f sp, S f sp → ∃ fd ps, FnOk X.prog X.w X.K X.mg X.base (L2.CX X.prog X.w) k f fd ps sp ∧ PySem.W.keepIn X.K (.ref f) = true ∧ Binds X.K fd ps []) (hr : Room k X.A) (hf : PE X g tf) (ha : PA X (e :: es) t)
    (ht : eval (.Call g (e :: es) [] pos) X.env = (do callWith pos (← eval g X.env) [] (backTo pos (starEach (e :: es) X.env)) (backToKw pos (keywordEach [] X.env))) := by rfl)
    (he : starEach (e :: es) X.env = (false, eval e X.env) :: starEach es X.env := by rfl) (hpl : (backTo pos (starEach es X.env)).any (·.1) = false := by rfl) : PE X (.Call g (e :: es) [] pos) (tCallV W tf S t) := by
  refine ⟨fun pins s σ H Q I h => ?_⟩
  refine Call_ (thn (hf.run pins s σ H _ I h) fun u s1 ⟨y, H1, I1, ry, f, sp, ey, hSf, qq⟩ => ?_) ht
  subst ey
  obtain rfl : u = Value.ref f := ry
  obtain ⟨fd, ps, F, hk, hb⟩ := hS f sp hSf
  refine PySem.W.callWith_K (h₀ := X.base) I.ok.mod.kin hk (thn (ha.run pos pins s1 σ _ _ I1 qq) fun us s2 ⟨vs, H2, I2, r, q⟩ => ⟨I2.kIn, ?_⟩) he hpl
  exact run_fnS (E := WE W) F hr hb (passAt tk σ) I2 r q
theorem ev_callV {g : Expr} {fe : En → R D} (G : Good Γ) {T : Nat → Option (Nat × (Sl → List D → FR))} (hT : FnT Γ k T) (hr : Room k Γ.X.A) (hfe : EvV Γ g fe) {r : En → R (List D)} (ha : EvA Γ (e :: es) r)
    (ht : eval (.Call g (e :: es) [] pos) Γ.X.env = (do callWith pos (← eval g Γ.X.env) [] (backTo pos (starEach (e :: es) Γ.X.env)) (backToKw pos (keywordEach [] Γ.X.env))) := by rfl)
    (he : starEach (e :: es) Γ.X.env = (false, eval e Γ.X.env) :: starEach es Γ.X.env := by rfl) (hpl : (backTo pos (starEach es Γ.X.env)).any (·.1) = false := by rfl) :
    EvE Γ (.Call g (e :: es) [] pos) (callV T fe r) := by
  obtain ⟨t, h1, h2⟩ := ha
  obtain ⟨tf, f1, f2⟩ := hfe
  refine ⟨_, pe_callV (k := k) (W := Γ.W) (S := fun f sp => ∃ m n F, Γ.C.fa m = some f ∧ T m = some (n, F) ∧ sp = spF Γ.C n false F) G.tk (fun f sp ⟨m, n, F, e1, e2, e3⟩ => ?_) hr f1 h1 ht he hpl, fun σ H Z env φ S Q P => ?_⟩
  · obtain ⟨fd, ps, q1, q2, q3, q4⟩ := hT.at' m n F e2 f e1
    subst e3 q4
    exact ⟨fd, ps, q1, q2, q3⟩
  · refine f2.bind S P fun d env1 v H1 Z1 φ1 A e1 S1 sh dj1 ev1 P1 => ?_
    have sh : Sh Γ.C Z1 H1 v d := sh
    have P1 := P1.mono (Evo.refl.sub (F2 := Tot φ1) fun _ z => .inl z)
    cases d with
    | fn m =>
      cases sh with
      | @fn _ f0 hf =>
        cases eT : T m with
        | none => simp only [eT] at P1; exact P1.elim
        | some nF =>
          obtain ⟨n, F⟩ := nF
          simp only [eT] at P1
          refine ⟨f0, spF Γ.C n false F, rfl, ⟨m, n, F, hf, eT, rfl⟩, ?_⟩
          refine h2.bind S1 P1 fun ds env2 vs H2 Z2 φ2 A2 e2 S2 q1 dj2 ev2 P2 => ?_
          have q1 : ShL Γ.C Z2 H2 vs ds := q1
          have P2 := P2.mono Evo.dropA
          by_cases hl : ds.length = n
          · rw [if_pos hl] at P2
            exact call_core S2 (fun _ _ _ h => h.1) (by rw [q1.length]; exact hl) q1 P2
          · rw [if_neg hl] at P2; exact P2.elim
    | non => exact P1.elim
    | bl _ => exact P1.elim
    | int _ => exact P1.elim
    | str _ => exact P1.elim
    | tup _ => exact P1.elim
    | lst _ => exact P1.elim
    | dic _ _ => exact P1.elim
    | scr _ => exact P1.elim
end
end Pv
end

section
set_option Elab.async false
set_option linter.all false
set_option maxRecDepth 100000
set_option maxHeartbeats 4000000
/-! Pv31: an own error class over ValueError (a class between) whose __init__ calls super's and keeps its argument. -/
namespace Pv
open PySem PySem.Spec PyProof.Rows L2
/-- where the top has left a class with its own beginning -/
structure RfA (P : Program) (K : PySem.W.Frag) (mg : Str → Option Value) (x fld : Str) where
  a : Addr
  m : mg x = some (.ref a)
  k : PySem.W.keepIn K (.ref a) = true
  T : OexC K a
  i : PySem.W.isClsIn K a = true
  f : PySem.W.subIn K (.ref a) (.ref a) = some true
  q : PySem.W.excInitIn K a [.type "ValueError", .type "Exception", .type "BaseException", .type "object"] "ValueError.__new__" = true
  ve : PySem.W.subIn K (.ref a) (.type "ValueError") = some true
  me : PySem.W.mroIn K a (.ref a) = some true
  su : PySem.W.ks_superIn K a a "__init__" = some (some (.builtin "ValueError.__init__"))
  no : PySem.W.findIn K (.ref a) fld = some none
  tp : PySem.W.nsIn K cStatics "thirdparty.any" = some none
  sp : PySem.W.nsIn K mainGlobals "super" = some none
  fi : Addr
  xf : XfC K a
  iC : PySem.W.findIn K (.ref a) "__init__" = some (some (.ref fi))
  tI : PySem.W.typeIn K (.ref fi) = some (.type "function")
  cc : Addr
  cda : Addr
  name : Str
  qual : Str
  params : Arguments
  body : List Stmt
  scope : Scope
  oc : Value
  od : Option Addr
  osl : Array (Option Value)
  dV : Value
  kV : Value
  doc : Value
  pm : Value
  an : Option Addr
  ct : Value
  lf : K.lookup fi = some ⟨oc, od, .func (PySem.W.ksFn name qual params body scope dV kV doc pm an (.ref cda) ct cc), osl⟩
  ce : PySem.W.codeIn K (.ref cda) qual = true
  lc : ∃ cl cdd vs ccs file tf, K.lookup cda = some ⟨cl, cdd, .fields vs, ccs⟩ ∧ vs[2]? = some (.str file tf) ∧ ((P.main.file : Str) == file) = true
  ll : ∃ cl cld csl, K.lookup cc = some ⟨cl, cld, .cell (some (.ref a)), csl⟩
  par : Str
  ar : ∃ a0 : Arg, (params.posonlyargs ++ params.args).head? = some a0 ∧ a0.arg = "self"
  bi : ∀ (s : Shared) (u v : Value), BindsTo s (PySem.W.ksFn name qual params body scope dV kV doc pm an (.ref cda) ct cc) ⟨[u, v], []⟩ [("self", u), (par, v)]
  bd : ∃ p0 p1 p2 p3 p4 p5 p6 p7 p8 p9, body = [.Expr (.Call (.Attribute (.Call (.Name "super" p0) [] [] p1) "__init__" p2) [.Name par p3] [] p4) p5, .Assign [.Attribute (.Name "self" p6) fld p7] (.Name par p8) p9] ∧ (p2.endLine == p4.line) = true
  sk : scope.kind = .function
  s1 : scope.names.lookup ("super" : Str) = some .globalImplicit
  s2 : scope.names.lookup ("__class__" : Str) = some .free
  s3 : scope.names.lookup ("self" : Str) = some .local
  s4 : scope.names.lookup par = some .local
  sn : par ≠ "self"
  sd : (par == ("__debug__" : Str)) = false
  s5 : ∀ x ∈ scope.names, x.2 ≠ .cell
  s6 : scope.isCoroutine = false
  s7 : scope.isGenerator = false
  tt : (P.main.scope.names.lookup ("super" : Str)).isSome = false
section
variable {P : Program} {w : World} {K : PySem.W.Frag} {mg : Str → Option Value} {base : Heap} {x fld : Str}
abbrev RfA.fd (R : RfA P K mg x fld) : FuncData := PySem.W.ksFn R.name R.qual R.params R.body R.scope R.dV R.kV R.doc R.pm R.an (.ref R.cda) R.ct R.cc
/-- the bound beginning of ValueError, called -/
theorem call_mwV {A : Around} {E : Value → Shared → Prop} {h : Heap} {g : Array GenState} {d : Drawn} {t : Nat} {os : OsState} {C u e t0 : Addr} {us : List Value} {Q : Value → Shared → Prop} (X : K.In h)
    (q : PySem.W.excInitIn K C [.type "ValueError", .type "Exception", .type "BaseException", .type "object"] "ValueError.__new__" = true) (he : h.get? e = some (PySem.HandSPX.excO C t0)) (hu : h.get? u = some (PySem.W.kxs_mw "ValueError.__init__" e)) (hz : us.length ≤ sizeLine)
    (hq : ∀ h' t1, (∀ b o, b ≠ e → h.get? b = some o → h'.get? b = some o) → h'.get? e = some (PySem.HandSPX.excO C t1) → Q .none ⟨h', g, d, t, os⟩) :
    wpAny (model P w) A (call (.ref u) us) Q E ⟨h, g, d, t, os⟩ := by
  obtain ⟨nm, N', qn, bs, bm, hdct, sn, sub, ab, col, dd, k0, k1, k2, k3, k5, hC, hT⟩ := PySem.W.excInit_of X q
  refine wpAny_call (codeAny_of_tree ?_)
  show wpAny _ A.in1 (callAny (.ref u) ⟨us, []⟩) _ _ _
  unfold callAny
  refine wpAny_bind (wpAny_load hu ?_)
  refine PySem.W.KFB.if_so (show (Value.type "method-wrapper" == Value.type "method" || Value.type "method-wrapper" == Value.type "builtin_function_or_method" || Value.type "method-wrapper" == Value.type "method-wrapper") = true from by decide) ?_
  refine wpAny_bind (PySem.W.check_bound_init PySem.F.excBase_ValueError.toExcCallFacts hC he rfl ?_)
  refine wpAny_bind (wpAny_pure (wpAny_pure ?_))
  refine ⟨plainId_quiet PySem.F.excBase_ValueError.init.plain _, codeAny_builtin PySem.F.excBase_ValueError.initEntry ?_⟩
  rw [Around.under_plainId PySem.F.excBase_ValueError.init.plain _]
  refine PySem.W.exc_init_tree (cls := .ref C) (t0 := t0) (dv := none) (c2 := .none) (c3 := .none) (b4 := .bool false) he hz fun h' k e' _ => ?_
  exact hq h' _ k e'
theorem meth_call_eq {o : Expr} {name : Str} {apos pos : Pos} {e : Expr} {env : Env} (hl : (apos.endLine == pos.line) = true) (hs : starEach [e] env = [(false, eval e env)]) :
    eval (.Call (.Attribute o name apos) [e] [] pos) env = (do
      let ov ← attributeBase o name env (eval o env)
      standAt apos.atName
      let (f, first) ← holding [ov] (getMethod ov name (do return (← importBound o env).getD true))
      callWith pos f first (backTo pos (starEach [e] env)) []) := by
  have key : ∀ ov, methodCall o name apos pos env ov 1 (backTo pos (starEach [e] env)) [] = (holding [ov] (getMethod ov name (do return (← importBound o env).getD true)) >>= fun fx => callWith pos fx.1 fx.2 (backTo pos (starEach [e] env)) []) := fun ov => by
    have hf : methodCallForm 1 (backTo pos (starEach [e] env)) [] = true := by rw [hs]; rfl
    unfold methodCall methodCallPos calleeOf
    simp only [hf, hl, Bool.not_true, Bool.false_or, if_true, pure_bind]
  show (attributeBase o name env (eval o env) >>= fun ov => standAt apos.atName >>= fun _ => methodCall o name apos pos env ov 1 (backTo pos (starEach [e] env)) []) = _
  simp only [key]
/-- what its beginning promises -/
def rfSp (C : Addr) (fld : Str) : Sp := fun vs H Q _ => ∃ e y, vs = [.ref e, y] ∧ H e = some (exo e C none) ∧ ∀ dx, H dx = none → dx ≠ e → Q .non (upd (upd H dx (exd dx [(fld, y)])) e (exo e C (some dx)))
theorem rf_fn (R : RfA P K mg x fld) {CX : CXT} {k : Nat} : FnOk P w K mg base CX k R.fi R.fd ["self", R.par] (rfSp R.a fld) := by
  refine ⟨fun vs H Q E ⟨e, y, hv, _⟩ => by rw [hv]; rfl, fun A outer s H args us vs Q E hr e0 hb rv hsp => ?_⟩
  obtain ⟨e, y, rfl, he, hq⟩ := hsp
  obtain ⟨u1, rfl, ry⟩ : ∃ u1, us = [.ref e, u1] ∧ RelV y u1 := by
    cases rv with
    | cons r1 r2 =>
      cases r2 with
      | cons r3 r4 =>
        cases r4
        exact ⟨_, by rw [show _ = Value.ref e from r1], r3⟩
  have X0 : K.In s.heap := e0.mod.kin.keeps fun b o z => (e0.bs b o z).1
  obtain ⟨t1, ho⟩ := exo_at e0.hok he
  obtain ⟨hp, g, d, t, os⟩ := s
  have hel : e < hp.objs.size := Heap.lt_size ho
  refine ks_codeAny_call_defAt (fd := R.fd) (body := R.body) (binds := [("self", .ref e), (R.par, u1)]) hr.depth (X0 _ _ R.lf) rfl (e0.mod.nolimit.keeps fun b o z => (e0.bs b o z).1) (PySem.W.codeRec_of X0 R.ce) rfl hb R.s5 (fun z hz => ?_) (fun h0 hns kp => ?_) R.s6 R.s7 R.sk
  · rcases List.mem_cons.mp hz with rfl | hz
    · exact R.s3
    · rw [List.mem_singleton.mp hz]; exact R.s4
  obtain ⟨p0, p1, p2, p3, p4, p5, p6, p7, p8, p9, hbd, hln⟩ := R.bd
  obtain ⟨a0, har, ha0⟩ := R.ar
  obtain ⟨cl, cdd, vs, ccs, file, tf, lc1, lc2, lc3⟩ := R.lc
  obtain ⟨cl2, cld, csl, ll⟩ := R.ll
  obtain ⟨mb, hb1, hb2⟩ := e0.mod.blt
  have X1 : K.In h0 := X0.keeps kp
  have keepB : ∀ b o, base.get? b = some o → h0.get? b = some o := fun b o z => kp b o (e0.bs b o z).1
  have hself : ([(("self" : Str), Value.ref e), (R.par, u1)] : List (Str × Value)).reverse.lookup ("self" : Str) = some (Value.ref e) := by
    have : (("self" : Str) == R.par) = false := beq_eq_false_iff_ne.mpr fun z => R.sn z.symm
    show ([(R.par, u1), (("self" : Str), Value.ref e)] : List (Str × Value)).lookup ("self" : Str) = _
    simp [List.lookup, this]
  have hpar : ([(("self" : Str), Value.ref e), (R.par, u1)] : List (Str × Value)).reverse.lookup R.par = some u1 := by
    show ([(R.par, u1), (("self" : Str), Value.ref e)] : List (Str × Value)).lookup R.par = _
    simp [List.lookup]
  obtain ⟨cn, cq, cN, cbs, cbm, csn, csub, cab, ccol, cdd2, k0, k1, k2, k3, k5, hC, hbm⟩ := R.T.cls
  have hD1 := X1 _ _ hC
  rw [hbd]
  refine ks_wpAt_execs_cons ?_
  refine ks_wpAt_Expr_any ?_ ?_ ?_
  · refine ks_wpAt_MethodCall ?_ (meth_call_eq hln rfl)
    refine ks_wpAt_super_base (f := R.fi) (fd := R.fd) (ar := a0) (cc := R.cda) R.s1 R.s2 rfl rfl (X1 _ _ R.lf) rfl har rfl (X1 _ _ lc1) rfl lc2 lc3 R.tt ?_
    refine PySem.W.ks_loadName_global R.sk R.s1 (Calls.loadGlobal_builtin (e0.mod.glob.keeps keepB) (PySem.W.mg_none_of e0.mod.kin e0.mod.glob R.sp) (hb1.keeps keepB) ((hb2 _ (by decide)).trans PyProof.Rows.Boot.«super») ⟨rfl, ?_⟩)
    refine wpAny_loadName_free R.sk R.s2 rfl ⟨_, X1 _ _ ll, rfl⟩ ?_
    rw [ha0]
    refine wpAny_loadName_local R.sk R.s3 hns hself ?_
    refine ks_wpAny_isType_cls hD1 rfl ⟨rfl, ?_⟩
    refine ks_wpAny_call_super hD1 rfl (kp _ _ ho) rfl (fun c z => by cases z) (PySem.W.looks_mroIn X1 R.me) (fun h1 e1 kk1 => ?_)
    have Xa : K.In h1 := X1.keeps kk1
    have hcl : PySem.W.clsIn K R.a = some { name := cn, bases := cbs, mro := .ref R.a :: cbm, ns := cN, qualname := cq, hasDict := true, slotNames := csn, subclasses := csub, abstract := cab, collection := ccol, hasDel := false } := by
      unfold PySem.W.clsIn
      rw [hC] <;> rfl
    have hsu := R.su
    unfold PySem.W.ks_superIn at hsu
    rw [hcl] at hsu
    have hne : e ≠ R.a := fun z => by
      have z1 := X0 _ _ hC
      rw [← z, ho] at z1
      cases z1
    have ho1 := kk1 _ _ (kp _ _ ho)
    refine PySem.W.kxs_getMethod PySem.W.kxs_ValueError e1 (PySem.W.looks_opaque Xa R.tp) (l₀ := .ref R.a :: cbm) (fun A Q E s k q => wpAny_bind ((PySem.W.looks_clsIn Xa hcl) A _ E s k (wpAny_pure q))) rfl Xa hsu ((show PySem.W.Looks _ h1 (typeOf (.ref e)) (.ref R.a) from fun A Q E s k q => wpAny_typeOf_ref (k _ _ ho1) q).andThen (PySem.W.looks_subIn Xa R.ve)) hne (by decide) ?_
    refine PySem.W.kxs_callWith (i := "ValueError.__init__") (x := e) rfl (Calls.evalArgs_plain (Calls.spliced_cons (wpAny_Name (wpAny_loadName_local R.sk R.s4 (hns.at fun o z => Heap.get?_push_of_some _ (kk1 _ _ z)) hpar (Calls.spliced_nil ⟨Heap.get?_push_at rfl rfl, ?_⟩)) R.sd)))
    refine call_mwV (Xa.keeps fun b o z => Heap.get?_push_of_some _ z) R.q (t0 := t1) (Heap.get?_push_of_some _ ho1) (Heap.get?_push_at rfl rfl) (by rw [sizeLine_eq]; simp) fun h3 t3 k3 e3 => ?_
    have hns3 : h3.Ns hp.objs.size (fun z => ([(("self" : Str), Value.ref e), (R.par, u1)] : List (Str × Value)).reverse.lookup z) := hns.at fun o z => k3 _ _ (Nat.ne_of_gt hel) (Heap.get?_push_of_some _ (kk1 _ _ z))
    have X3 : K.In h3 := fun b o z => k3 b o (fun q => by
      have q1 := (e0.bs b o (e0.mod.kin b o z)).2
      rw [q, he] at q1
      cases q1) (Heap.get?_push_of_some _ (Xa b o z))
    refine ks_wpAt_execs_cons (wpAt_of_wpAny (plainObj_wpAny_Assign_Attribute (wpAny_Name (wpAny_loadName_local R.sk R.s4 hns3 hpar (wpAny_Name (wpAny_loadName_local R.sk R.s3 hns3 hself ?_) (by decide))) R.sd) rfl))
    refine PySem.W.set_plain X3 (ox := PySem.HandSPX.excO R.a t3) (od := none) ⟨e3, rfl, rfl, trivial⟩ R.T.sa ?_
    refine PySem.HandSPX.exc_osa X3 e3 hcl (show PySem.HandSPX.refsVE (.ref R.a :: cbm) = true from hbm) rfl R.no (fun h4 tk4 dx k4 dn dne hx hn => ?_)
    refine wpAt_of_wpAny (wpAny_execs_nil ?_)
    have kall : ∀ b o, b ≠ e → hp.get? b = some o → h4.get? b = some o := fun b o q z => k4 b o q (k3 b o q (Heap.get?_push_of_some _ (kk1 _ _ (kp _ _ z))))
    have hdn : hp.objs.size ≤ dx := by
      obtain ⟨oL, _, _, hL, _⟩ := hns3
      exact Nat.le_of_lt (Nat.lt_of_lt_of_le (Heap.lt_size hL) dn)
    have hnd : H dx = none := e0.hok.fresh hdn
    have nd : ∀ {b : Addr} {o : Obj}, hp.get? b = some o → b ≠ dx := fun {b o} z => Nat.ne_of_lt (Nat.lt_of_lt_of_le (Heap.lt_size z) hdn)
    have na : ∀ {b : Addr}, H b = none → b ≠ e := fun {b} n z => by
      rw [z, he] at n
      cases n
    refine ⟨.non, _, rfl, e0.bare, ⟨fun b o z n _ _ => kall b o (na n) z, fun b o z n _ _ => ⟨o.slots, kall b o (na n) z⟩, fun b o z n _ => by rw [upd_ne (na n), upd_ne (nd z)]; exact n, fun b o z _ => ?_, fun b xs z => ?_, fun b o v z => ?_, fun b ps z => ?_⟩, fun b o z => ?_, rfl, hq dx hnd dne⟩
    · by_cases hb : b = e
      · exact ⟨_, by rw [hb]; exact hx⟩
      · exact ⟨o, kall b o hb z⟩
    · rw [upd_ne (at_ne he z exo_tup), upd_ne (ne_of_none z hnd)]; exact z
    · rw [upd_ne (at_ne he z exo_frz), upd_ne (ne_of_none z hnd)]; exact z
    · exact ⟨#[], by rw [upd_ne (at_ne he z exo_tbl), upd_ne (ne_of_none z hnd), z]; simp⟩
    · by_cases hb : b = e
      · subst hb
        rw [upd_same] at z
        cases z
        exact exo_ok hx
      · rw [upd_ne hb] at z
        by_cases hd : b = dx
        · subst hd
          rw [upd_same] at z
          cases z
          exact exd_ok hn (relO_put (fs := []) ry fun g => True.intro)
        · rw [upd_ne hd] at z
          exact (e0.hok b o z).stay (fun c v hc zz => kall c v (by
              rcases hc with hc | hc
              · rw [hc]; exact hb
              · exact at_ne he hc exo_own) zz)
            (fun c hc => by rw [upd_ne (at_ne he hc exo_own), upd_ne (ne_of_none hc hnd)]; exact hc) (fun c xs hc => by rw [upd_ne (at_ne he hc exo_tup), upd_ne (ne_of_none hc hnd)]; exact hc)
  · show (R.scope.kind == .module && _) = false
    rw [R.sk]
    rfl
  · rfl
end
section
variable {Γ : Ct} {x fld : Str} {p cpos pos : Pos}
def raiseR (c : Nat) (fld m : Str) : En → SR := fun _ => .ex (.mk c [(fld, .str m)])
theorem rf_heap {H : Hp} {a dx : Addr} {o1 o2 o3 o4 : HO} (ha : H a = none) (hn : dx ≠ a) : upd (L2.del (upd (upd (upd H a o1) dx o2) a o3) a) dx o4 = upd H dx o4 := by
  funext b
  by_cases h1 : b = dx
  · rw [h1, upd_same, upd_same]
  · rw [upd_ne h1, upd_ne h1]
    by_cases h2 : b = a
    · rw [h2, L2.del_same, ha]
    · rw [L2.del_ne h2, upd_ne h2, upd_ne h1, upd_ne h2]
theorem es_raiseR {c : Nat} {m : Str} {j : Nat} {p2 : Pos} (G : Good Γ) (R : RfA Γ.X.prog Γ.X.K Γ.X.mg x fld) (hn : Γ.C.ca c = some R.a) (hr : Room 1 Γ.X.A) (hg : Gl Γ.X x) (hdb : (x == ("__debug__" : Str)) = false := by decide) :
    EvS Γ (.Raise (some (.Call (.Name x p) [.Constant (.str m) j p2] [] cpos)) none pos) (raiseR c fld m) := by
  have hb : Binds Γ.X.K R.fd ["self", R.par] [] := fun s us _ hl => by
    match us, hl with
    | [u, v], _ => exact R.bi s u v
  refine ⟨_, ps_raise G.calm G.tk (pmk_oex (CX := CX0) R.T R.iC R.tI (rf_fn R) hr hb .nil pass0 hg R.m (pa_cons pe_str pa_nil) hdb rfl rfl), fun σ H Z env φ S Dn P => ?_⟩
  refine ⟨(show 1 ≤ 1000 by decide), fun a ha => ⟨a, .str m, rfl, upd_same, fun dx hdx hne => ⟨rfl, dx, [(fld, .str m)], upd_same, ?_, ?_, ?_⟩⟩⟩
  · rw [upd_ne hne, upd_same]
  · rw [upd_ne hne] at hdx
    exact hdx
  · rw [upd_ne hne] at hdx
    rw [rf_heap ha hne]
    exact P σ S.io S.l0 (.ref R.a) (some dx) _ Z (Evo.new hdx fun _ z => z.elim) (fun b z => by
      by_cases q : b = dx
      · rw [q, upd_same]; exact fun z => by cases z
      · rw [upd_ne q]; exact S.zh b z) ⟨R.a, hn, rfl, .inr ⟨dx, [(fld, .str m)], rfl, upd_same, rfl, .cons (.str m) .nil⟩⟩
end
/-- the classes' tests -/
theorem exm_of {K : PySem.W.Frag} {a b : Addr} {r : Bool} (h1 : PySem.W.subIn K (.ref b) (.type "BaseException") = some true) (h2 : PySem.W.isClsIn K b = true) (h3 : PySem.W.typeIn K (.ref b) = some (.type "type")) (h4 : PySem.W.subIn K (.ref a) (.ref b) = some r) : PySem.W.exmOne K (.ref a) (.ref b) = some r := by
  have e1 : (PySem.W.subIn K (.ref b) (.type "BaseException") == some true) = true := by rw [h1]; rfl
  have e2 : ((PySem.W.clsIn K b).isSome && PySem.W.typeIn K (.ref b) == some (.type "type")) = true := by
    have h2' : (PySem.W.clsIn K b).isSome = true := h2
    rw [h2', h3]; rfl
  show (if (PySem.W.subIn K (.ref b) (.type "BaseException") == some true) = true then (if ((PySem.W.clsIn K b).isSome && PySem.W.typeIn K (.ref b) == some (.type "type")) = true then PySem.W.subIn K (.ref a) (.ref b) else none) else none) = some r
  rw [if_pos e1, if_pos e2]
  exact h4
theorem RfA.e {P : Program} {K : PySem.W.Frag} {mg : Str → Option Value} {x fld : Str} (R : RfA P K mg x fld) : PySem.W.exmOne K (.ref R.a) (.ref R.a) = some true := exm_of R.T.exC R.i R.T.tyC R.f
theorem XA.no {K : PySem.W.Frag} {mg : Str → Option Value} {x : Str} (A : XA K mg x) {a : Addr} (h : PySem.W.subIn K (.ref a) (.ref A.a) = some false) : PySem.W.exmOne K (.ref a) (.ref A.a) = some false := exm_of A.s A.i A.t h
theorem rf_q {K : PySem.W.Frag} {nm q : Str} {C N : Addr} {bs bm bmB : List Value} {hdct : Bool} {sn : List Str} {sub : List Value} {ab : Bool} {col : Option Bool} {dd : Option Addr} {k0 k1 k2 k3 k5 : Option Value} {id : String} (l : K.lookup C = some (excClassObj nm q C N bs bm hdct sn sub ab col dd k0 k1 k2 k3 k5 id)) (t : PySem.W.excTail bmB bm = true) : PySem.W.excInitIn K C bmB id = true := by
  unfold PySem.W.excInitIn
  rw [l]
  simp [t]
/-- a class's own statements -/
def clsBody : Stmt → List Stmt
  | .ClassDef _ _ _ b _ _ _ _ _ _ _ => b
  | _ => []
end Pv
end

section
set_option Elab.async false
set_option linter.all false
set_option maxRecDepth 100000
set_option maxHeartbeats 4000000
/-! Pv32: try .. except A: suite / except B as n: return (text, n.field). -/
namespace Pv
open PySem PySem.Spec PyProof.Rows L2
/-- what the two clauses wish -/
def w12 (K : PySem.W.Frag) (nl : Nat) (c1 c2 : Value) (i : Nat) (ts1 ts2 : Addr → Value → Option Addr → TS) (D : Ends) : WX := fun cls d σ H => ∃ b, PySem.W.exmOne K cls c1 = some b ∧ (b = true → ∀ a, H a = none → ts1 a cls d D σ H) ∧
  (b = false → PySem.W.exmOne K cls c2 = some true ∧ ∀ a, H a = none → σ.length = nl → ts2 a cls d ⟨fun σ' H' => D.nx (σ'.set i none) H', D.rt, fun σ' H' => D.bk (σ'.set i none) H', fun σ' H' => D.ct (σ'.set i none) H'⟩ (σ.set i (some (.ref a))) H)
section
variable {X : Cx} {body : List Stmt} {pos : Pos} {tb : WX → TS}
theorem ps_try_12 {x1 x2 n : Str} {c1 c2 : Value} {i : Nat} {ts1 ts2 : Addr → Value → Option Addr → TS} {b1 b2 : Stmt} {s1 s2 : List Stmt} {np1 np2 q1 q2 : Pos} (hs : X.stack = X.env :: X.outer) (hf : X.env.frame = some X.env.locals)
    (hN : X.N.Nodup) (hi : X.N[i]? = some n) (hln : X.env.kindOf n = some .local)
    (hb : ∀ (W : WX) (pn : List (Addr × Obj)) (xe : Value → Shared → Prop), Takes (X.tr pn xe) W → PassesOwn (model X.prog X.w) X.A X.env xe → PSs (X.tr pn xe) body (tb W))
    (hc1 : Names X x1 c1) (hc2 : Names X x2 c2)
    (hs1 : ∀ (a : Addr) (oe : Obj) (cls : Value) (d : Option Addr) (pn : List (Addr × Obj)), Zc cls d oe → (∃ vs, oe.data = .fields vs) → PSs (X.suite a ((a, oe) :: pn)) (b1 :: s1) (ts1 a cls d))
    (hs2 : ∀ (a : Addr) (oe : Obj) (cls : Value) (d : Option Addr) (pn : List (Addr × Obj)), Zc cls d oe → (∃ vs, oe.data = .fields vs) → PSs (X.suite a ((a, oe) :: pn)) (b2 :: s2) (ts2 a cls d)) :
    PS X (.Try body [.ExceptHandler (some (.Name x1 np1)) none (b1 :: s1) q1, .ExceptHandler (some (.Name x2 np2)) (some n) (b2 :: s2) q2] [] [] pos) (fun D σ H => tb (w12 X.K X.N.length c1 c2 i ts1 ts2 D) D σ H) := by
  refine ⟨fun pins s σ H D I h => ?_⟩
  have ok := I.ok
  have hloc : Loc X.env.scope n := .inl hln
  have hfr : X.A.frames = some (X.env :: X.outer) := by rw [ok.frames, hs]
  refine wpAny_Try_except ?_
  refine wpAny_mono ((hb (w12 X.K X.N.length c1 c2 i ts1 ts2 D) (X.pn ++ pins) (fun e s₁ => wpAny (model X.prog X.w) X.A (noteFrame e X.env) (fun _ s₂ => wpAny (model X.prog X.w) X.A (setFlight e none) (fun _ s₃ =>
    wpAny (model X.prog X.w) X.A (handleBy e X.env [.ExceptHandler (some (.Name x1 np1)) none (b1 :: s1) q1, .ExceptHandler (some (.Name x2 np2)) (some n) (b2 :: s2) q2]) (SP X pins D) X.xe s₃) X.xe s₂) X.xe s₁) (fun u s' xx => ?_) PassesOwn.looking).run [] s σ H D (I.toTry _) h) (fun f z1 hsp => ?_) (fun e z1 he => he)
  · obtain ⟨a, B, sI, pins', σ', H', cls, d, rfl, J', nb, up, sky, na, os, ag, w⟩ := xx
    have J : Inv X pins σ' H' sI := J'.ofTry ok
    have sky' : Sky B (X.env :: X.outer) a (Zc cls d) X.env.locals s'.heap := by rw [← hs]; exact sky
    show wpAny (model X.prog X.w) X.A (noteFrame (.ref a) X.env) _ _ _
    refine Sky.land Zc.steady hfr hf sky' fun h3 fl3 up3 => ?_
    have J3 : Inv X pins σ' H' { s' with heap := h3 } := J.landed nb fl3.1 (up.trans up3) os ag
    obtain ⟨oe3, vs3, he3, hz3, hd3⟩ := fl3.there
    have notFr : ∀ {h : Heap} {o : Obj} {vs : Array Value}, h.FunFrames B (X.env :: X.outer) → h.get? a = some o → o.data = .fields vs → a ∉ frs (X.env :: X.outer) := fun {h o vs} ff e dd hm => by
      obtain ⟨_, o', e', hnf⟩ := ff.mem hm
      rw [e] at e'; cases e'
      exact hnf _ dd
    have nfr := notFr fl3.2.2.1 he3 hd3
    have nL : a ≠ X.env.locals := fun z => nfr (List.mem_filterMap.mpr ⟨X.env, List.mem_cons_self, by rw [hf, z]⟩)
    have nF : a ∉ X.fs := fun hm => by
      obtain ⟨e, he, q⟩ := List.mem_filterMap.mp hm
      exact nfr (List.mem_filterMap.mpr ⟨e, List.mem_cons_of_mem _ he, q⟩)
    have S3 := J3.suite he3 hd3 na nL nF
    obtain ⟨b, hb1, hyes, hno⟩ := w
    have LT : PySem.W.Looks (model X.prog X.w) h3 (typeOf (.ref a)) cls := fun A Q E s k q => wpAny_typeOf_ref (k _ _ he3) (by rw [hz3.1]; exact q)
    have test : ∀ {x : Str} {np : Pos} {c : Value} {Q : Value → Shared → Prop} {E : Value → Shared → Prop}, Names X x c → Q c { s' with heap := h3 } → wpAny (model X.prog X.w) (X.A.mark (some (.ref a))) (eval (.Name x np) X.env) Q E { s' with heap := h3 } := fun {x np c Q E} hc q => by
      obtain ⟨hg, hdbg, hm | ⟨hm, hv, hnn⟩⟩ := hc
      · exact ld_glob (X := X.suite a ((a, oe3) :: (X.pn ++ pins))) S3 hg hm q hdbg
      · exact ld_blt (X := X.suite a ((a, oe3) :: (X.pn ++ pins))) S3 hg hm hv q hnn hdbg
    refine wpAny_handleBy_cons (codeAny_handlers_test ?_) (by intro q; cases q)
    refine test hc1 ((PySem.W.exm_one (M := model X.prog X.w) (J3.kIn) LT hb1).here ?_)
    cases b with
    | true =>
      refine codeAny_handlers_suite ?_
      refine HandSPX.lands_againZ fl3 fun h4 fl4 up4 => ?_
      have J4 : Inv X pins σ' H' { s' with heap := h4 } := J.landed nb fl4.1 ((up.trans up3).trans up4) os ag
      obtain ⟨oe4, vs4, he4, hz4, hd4⟩ := fl4.there
      have S4 := J4.suite he4 hd4 na nL nF
      refine wpAny_mono ((hs1 a oe4 cls d (X.pn ++ pins) hz4 ⟨_, hd4⟩).run [] _ _ H' _ S4 (hyes rfl a na)) (fun f s6 hsp => ?_) (fun _ _ z => False.elim z)
      cases f with
      | next =>
        obtain ⟨σ6, H6, S6, q6⟩ := hsp
        exact ⟨_, _, S6.unsuite ok, q6⟩
      | brk =>
        obtain ⟨σ6, H6, S6, q6⟩ := hsp
        exact ⟨_, _, S6.unsuite ok, q6⟩
      | cont =>
        obtain ⟨σ6, H6, S6, q6⟩ := hsp
        exact ⟨_, _, S6.unsuite ok, q6⟩
      | ret u =>
        obtain ⟨v6, σ6, H6, S6, r6, q6⟩ := hsp
        exact ⟨_, _, _, S6.unsuite ok, r6, q6⟩
    | false =>
      obtain ⟨hb2, hyes2⟩ := hno rfl
      show wpAny _ X.A (handleBy (.ref a) X.env [.ExceptHandler (some (.Name x2 np2)) (some n) (b2 :: s2) q2]) _ _ _
      refine wpAny_handleBy_cons (codeAny_handlers_test ?_) (by intro q; cases q)
      refine test hc2 ((PySem.W.exm_one (M := model X.prog X.w) (J3.kIn) LT hb2).here ?_)
      refine codeAny_handlers_suite_as ?_
      refine HandSPX.lands_againZ fl3 fun h4 fl4 up4 => ?_
      have J4 : Inv X pins σ' H' { s' with heap := h4 } := J.landed nb fl4.1 ((up.trans up3).trans up4) os ag
      obtain ⟨oe4, vs4, he4, hz4, hd4⟩ := fl4.there
      have S4 := J4.suite he4 hd4 na nL nF
      refine store_ok (X := X.suite a ((a, oe4) :: (X.pn ++ pins))) (v := .ref a) S4 hN hi hloc rfl (fun s5 S5 => ?_) (.inr hln)
      refine wpAny_mono ((hs2 a oe4 cls d (X.pn ++ pins) hz4 ⟨_, hd4⟩).run [] s5 _ H' _ S5 (hyes2 a na J.len)) (fun f s6 hsp => ?_) (fun _ _ z => False.elim z)
      have fin : ∀ {σ6 : L2.St} {H6 : Hp} {Q : Shared → Prop}, Inv (X.suite a ((a, oe4) :: (X.pn ++ pins))) [] σ6 H6 s6 → (∀ s7, Inv X pins (σ6.set i none) H6 s7 → Q s7) →
          wpAny (model X.prog X.w) X.A (do bindName X.env n .none; unbindBehindTheSuite X.env n q2) (fun _ s7 => Q s7) X.xe s6 := fun {σ6 H6 Q} S6 hq => gone_ok (S6.unsuite ok) hN hi hln hq
      cases f with
      | next =>
        obtain ⟨σ6, H6, S6, q6⟩ := hsp
        exact fin S6 fun s7 J7 => ⟨_, _, J7, q6⟩
      | brk =>
        obtain ⟨σ6, H6, S6, q6⟩ := hsp
        exact fin S6 fun s7 J7 => ⟨_, _, J7, q6⟩
      | cont =>
        obtain ⟨σ6, H6, S6, q6⟩ := hsp
        exact fin S6 fun s7 J7 => ⟨_, _, J7, q6⟩
      | ret u =>
        obtain ⟨v6, σ6, H6, S6, r6, q6⟩ := hsp
        exact fin S6 fun s7 J7 => ⟨_, _, _, J7, r6, q6⟩
  · cases f with
    | next =>
      obtain ⟨σ', H', J', q⟩ := hsp
      exact wpAny_execs_nil ⟨σ', H', J'.ofTry ok, q⟩
    | brk =>
      obtain ⟨σ', H', J', q⟩ := hsp
      exact ⟨σ', H', J'.ofTry ok, q⟩
    | cont =>
      obtain ⟨σ', H', J', q⟩ := hsp
      exact ⟨σ', H', J'.ofTry ok, q⟩
    | ret u =>
      obtain ⟨v, σ', H', J', r, q⟩ := hsp
      exact ⟨v, σ', H', J'.ofTry ok, r, q⟩
end
def tryS2 (io : List Nat) (c1 : Nat) (g1 : En → SR) (c2 : Nat) (fld T : Str) (f : En → SR) : En → SR := fun env => match f env with
  | .ex (.mk c fs) => if c = c1 then (g1 (keepE io env)).noX else if c = c2 then (match fs with
    | [(k, d)] => if k = fld then .ret (.tup [.str T, d], 0) (keepE io env) else .no
    | _ => .no) else .no
  | r => r
section
variable {Γ : Ct} {body : List Stmt} {pos : Pos} {f g : En → SR}
theorem keep_stt {σ σ' : L2.St} {Z Z' : Fp} {H H' : Hp} {env : En} {φ : Nat → Fp} {F' : Fp} (S : SttC Γ Z σ H env φ) (hio : Γ.io ≠ []) (ev : Evo Z H (Tot φ) Z' H' F') (zh : ∀ a, Z' a → H' a ≠ none) (k1 : ∀ i ∈ Γ.io, σ'[i]? = Γ.σ₀[i]?) (k2 : Γ.io ≠ [] → σ'.length = Γ.σ₀.length) : SttC Γ Z' σ' H' (keepE Γ.io env) (fun _ _ => False) where
  len := by
    have l1 := S.l0 hio
    have l2 := k2 hio
    have l3 := S.len
    unfold keepE
    rw [List.length_mapIdx]
    omega
  slot := fun i d k h => by
    obtain ⟨hi, h0, rfl⟩ := keepE_at h
    obtain ⟨v, hv, o⟩ := S.slot i d 0 h0
    exact ⟨v, by rw [k1 i hi, ← S.io i hi]; exact hv, o.1.ext (S.ext ev), fun _ z => z⟩
  off := fun _ _ _ z => z
  dj := fun _ _ _ z => z.elim
  nz := fun _ _ z => z.elim
  zh := zh
  l0 := k2
  io := k1
theorem es_try2 {x1 x2 n : Str} {c1 c2 : Nat} {a1 : Addr} {b1 : Stmt} {s1 : List Stmt} {np1 np2 q1 q2 p3 p4 p5 p6 p7 : Pos} {j kk i : Nat} {T : Str} (G : Good Γ) (R : RfA Γ.X.prog Γ.X.K Γ.X.mg x2 "reason")
    (hs : Γ.X.stack = Γ.X.env :: Γ.X.outer) (hf : Γ.X.env.frame = some Γ.X.env.locals) (hio : Γ.io ≠ [])
    (hb : ∀ W pn xe, Takes (Γ.X.tr pn xe) W → PassesOwn (model Γ.X.prog Γ.X.w) Γ.X.A Γ.X.env xe → EvB (tryCt Γ pn xe W) body f)
    (hg1 : Gl Γ.X x1) (hm1 : Γ.X.mg x1 = some (.ref a1)) (hn1 : Γ.C.ca c1 = some a1) (hx1 : PySem.W.exmOne Γ.X.K (.ref a1) (.ref a1) = some true) (hs1 : ∀ a oe pn, EvB (suiCt Γ a oe pn) (b1 :: s1) g)
    (hg2 : Gl Γ.X x2) (hn2 : Γ.C.ca c2 = some R.a) (hx2 : PySem.W.exmOne Γ.X.K (.ref R.a) (.ref R.a) = some true) (hx3 : PySem.W.exmOne Γ.X.K (.ref R.a) (.ref a1) = some false)
    (hi : Γ.X.N[i]? = some n) (hln : Γ.X.env.kindOf n = some .local) (hd1 : (x1 == ("__debug__" : Str)) = false := by decide) (hd2 : (x2 == ("__debug__" : Str)) = false := by decide) (hd3 : (n == ("__debug__" : Str)) = false := by decide) (hd4 : (n == ("__classdict__" : Str)) = false := by decide) :
    EvS Γ (.Try body [.ExceptHandler (some (.Name x1 np1)) none (b1 :: s1) q1, .ExceptHandler (some (.Name x2 np2)) (some n) [.Return (some (.Tuple [.Constant (.str T) j p3, .Attribute (.Name n p4) "reason" p5] kk p6)) p7] q2] [] [] pos) (tryS2 Γ.io c1 g c2 "reason" T f) := by
  have nm1 : Names Γ.X x1 (.ref a1) := ⟨hg1, hd1, .inl hm1⟩
  have nm2 : Names Γ.X x2 (.ref R.a) := ⟨hg2, hd2, .inl R.m⟩
  refine ⟨_, ps_try_12 (tb := fun W D σ H => ∀ pn xe tk po, Classical.choose (hb W pn xe tk po) D σ H) (ts1 := fun a _ _ D σ H => ∀ oe pn, Classical.choose (hs1 a oe pn) D σ H)
    (ts2 := fun a cls d => tRet (tTup (tCons (tC (.str T)) (tCons (tXf a cls d R.a "reason" (tVar i)) tNil)))) hs hf G.nd hi hln
    (fun W pn xe tk po => ⟨fun pins s σ H D I h => (Classical.choose_spec (hb W pn xe tk po)).1.run pins s σ H D I (h pn xe tk po)⟩) nm1 nm2
    (fun a oe cls d pn _ _ => ⟨fun pins s σ H D I h => (Classical.choose_spec (hs1 a oe pn)).1.run pins s σ H D I (h oe pn)⟩)
    (fun a oe cls d pn hz hv => pss_one (ps_ret (pe_tup (pa_cons pe_str (pa_cons (pe_xf R.xf R.no hz hv (pe_var (X := Γ.X.suite a ((a, oe) :: pn)) hi (.inl hln) hd3 hd4)) pa_nil))))), fun σ H Z env φ S Dn P pn xe tk po => ?_⟩
  refine (Classical.choose_spec (hb _ pn xe tk po)).2 σ H Z env φ S Dn ?_
  unfold tryS2 at P
  cases e : f env with
  | nx env1 => rw [e] at P; exact P
  | bk env1 => rw [e] at P; exact P
  | ct env1 => rw [e] at P; exact P
  | ret p env1 => rw [e] at P; exact P
  | no => rw [e] at P; exact P
  | ex x =>
    obtain ⟨c', fs⟩ := x
    rw [e] at P
    simp only at P
    by_cases hcc : c' = c1
    · rw [if_pos hcc] at P
      subst hcc
      intro σ' k1 k2 cls dx H' Z' ev zh xr
      obtain ⟨a2, h1, rfl, _⟩ := xr
      have h1 : Γ.C.ca c' = some a2 := h1
      rw [hn1] at h1; cases h1
      refine ⟨true, hx1, fun _ a ha oe pn2 => ?_, (fun z => by cases z)⟩
      have S' : SttC (suiCt Γ a oe pn2) Z' σ' H' (keepE Γ.io env) (fun _ _ => False) := keep_stt S hio ev zh k1 k2
      refine (Classical.choose_spec (hs1 a oe pn2)).2 σ' H' Z' _ _ S' Dn ?_
      have P2 := PostS.mono P (ev.sub (F2 := Tot fun (_ : Nat) (_ : Addr) => False) fun a ⟨_, z⟩ => z.elim)
      cases eg : g (keepE Γ.io env) with
      | nx env1 => rw [eg] at P2; exact P2
      | bk env1 => rw [eg] at P2; exact P2
      | ct env1 => rw [eg] at P2; exact P2
      | ret p env1 => rw [eg] at P2; exact P2
      | no => rw [eg] at P2; exact P2
      | ex y => rw [eg] at P2; exact P2.elim
    · rw [if_neg hcc] at P
      by_cases hc2 : c' = c2
      · rw [if_pos hc2] at P
        subst hc2
        match fs, P with
        | [(k, d)], P =>
          simp only at P
          by_cases hk : k = "reason"
          · rw [if_pos hk] at P
            subst hk
            intro σ' k1 k2 cls dx H' Z' ev zh xr
            obtain ⟨a2, h1, rfl, h2⟩ := xr
            have h1 : Γ.C.ca c' = some a2 := h1
            rw [hn2] at h1; cases h1
            refine ⟨false, hx3, (fun z => by cases z), fun _ => ⟨hx2, fun a ha hlen => ?_⟩⟩
            rcases h2 with h2 | ⟨dd, gs, rfl, hdd, hg, hsh⟩
            · cases h2
            obtain ⟨v, rfl⟩ : ∃ v, gs = [(("reason" : Str), v)] := by
              match gs, hg with
              | [(k2, v)], hg =>
                have : k2 = "reason" := by simpa using hg
                exact ⟨v, by rw [this]⟩
            have hv : Sh Γ.C Z' H' v d := by
              cases hsh with
              | cons h _ => exact h
            have hil : i < σ'.length := by
              rw [hlen]
              exact (List.getElem?_eq_some_iff.mp hi).1
            refine ⟨.ref a, by rw [List.getElem?_set_self hil], rfl, rfl, dd, _, v, rfl, hdd, by simp [List.lookup], (by rw [sizeLine_eq]; simp), fun p hp => ?_⟩
            have ev2 : Evo Z H (Tot φ) Z' (upd H' p (.tup [.str T, v])) (fun _ => False) := ev.trans (Evo.new hp fun _ z => z.elim)
            have hq : Sh Γ.C Z' (upd H' p (.tup [.str T, v])) v d := hv.ext (Ext.new hp)
            have zh2 : ∀ b, Z' b → (upd H' p (.tup [.str T, v])) b ≠ none := fun b z => by
              by_cases q : b = p
              · rw [q, upd_same]; exact fun z => by cases z
              · rw [upd_ne q]; exact zh b z
            exact P (.ref p) σ' _ Z' _ (fun _ => False) (keep_stt S hio ev2 zh2 k1 k2) (Ow.sh (.tup (.inl (.inl upd_same)) (.cons (.str T) (.cons hq .nil)))) (fun _ z => z.elim) (ev2.sub fun b z => by
              rcases z with ⟨_, z⟩ | z <;> exact z)
          · rw [if_neg hk] at P; exact P.elim
        | [], P => exact P.elim
        | (_, _) :: _ :: _, P => exact P.elim
      · rw [if_neg hc2] at P; exact P.elim
end
end Pv
end

section
set_option Elab.async false
set_option linter.all false
set_option maxRecDepth 100000
set_option maxHeartbeats 4000000
/-! Pv33: < of tuples of ints; sorted of a list of tuples of ints. -/
namespace Pv
open PySem PySem.Spec PyProof.Rows L2
def ltTD : D → D → Option (D × Nat)
  | .int i, .int j => some (.bl (decide (i < j)), 0)
  | .tup xs, .tup ys => match D.ints xs, D.ints ys with
    | some ns, some ms => some (.bl (HT.lexLt ns ms), 0)
    | _, _ => none
  | _, _ => none
section
variable {Γ : Ct}
theorem does_ltT (G : Good Γ) : Does2 Γ ltTD (fun x y H Q => rI0 (fun i j => .bl (decide (i < j))) x y H Q ∨ rLtT Γ.X.K x y H Q) := by
  intro σ H Z env φ S x y d e p hx hy hg Q P
  unfold ltTD at hg
  split at hg
  · cases hg
    exact .inl ⟨_, _, hx.intI, hy.intI, Post.here P S (Ow.sh (.bl _))⟩
  · split at hg
    · rename_i ns ms e1 e2
      cases hg
      obtain ⟨a, us, rfl, ha, q1⟩ := hx.tupI
      obtain ⟨b, ws, rfl, hb, q2⟩ := hy.tupI
      rw [D.ints_eq e1] at q1
      rw [D.ints_eq e2] at q2
      rw [q1.ints] at ha
      rw [q2.ints] at hb
      rw [G.hK] at ha hb
      exact .inr ⟨a, b, ns, ms, rfl, rfl, ha, hb, Post.here P S (Ow.sh (.bl _))⟩
    · cases hg
  · cases hg
def cLtT (G : Good Γ) {k : Nat} (hr : Room k Γ.X.A) : CmpR Γ .Lt ltTD := ⟨_, op_lt.or (op_ltT hr.units0), does_ltT G⟩
end
end Pv
end

section
open PySem PySem.Spec PyProof.Rows L2 Pv
namespace L34
def topS (i : Nat) : Stmt := PySem.Challenge.pw_momentroads_k34_whole_paths_listed.main.body.getD i (.Pass ⟨0, 0, 0, 0⟩)
abbrev s_Refused : Stmt := (clsBody (topS 3)).getD 0 (.Pass ⟨0, 0, 0, 0⟩)
abbrev s__law_state : Stmt := topS 19
theorem sc__law_state : FnScope ["script", "seed", "total", "cell"] ["script"] (defScope s__law_state) := ⟨rfl, rfl, rfl, by decide +kernel, rfl, by decide +kernel, by decide +kernel⟩
abbrev s__law_take : Stmt := topS 20
theorem sc__law_take : FnScope ["state", "m", "value"] ["state", "m"] (defScope s__law_take) := ⟨rfl, rfl, rfl, by decide +kernel, rfl, by decide +kernel, by decide +kernel⟩
abbrev s_is_integer : Stmt := topS 5
theorem sc_is_integer : FnScope ["value"] ["value"] (defScope s_is_integer) := ⟨rfl, rfl, rfl, by decide +kernel, rfl, by decide +kernel, by decide +kernel⟩
abbrev s_paths_to : Stmt := topS 13
theorem sc_paths_to : FnScope ["n", "most", "found", "left", "longer", "path", "height", "step", "_"] ["n", "most"] (defScope s_paths_to) := ⟨rfl, rfl, rfl, by decide +kernel, rfl, by decide +kernel, by decide +kernel⟩
abbrev s__law_is_number : Stmt := topS 23
theorem sc__law_is_number : FnScope ["value"] ["value"] (defScope s__law_is_number) := ⟨rfl, rfl, rfl, by decide +kernel, rfl, by decide +kernel, by decide +kernel⟩
abbrev s__law_paths : Stmt := topS 21
theorem sc__law_paths : FnScope ["n", "most", "least", "found", "turn", "longer", "path", "h", "s"] ["n", "most", "least"] (defScope s__law_paths) := ⟨rfl, rfl, rfl, by decide +kernel, rfl, by decide +kernel, by decide +kernel⟩
abbrev s__law_chosen : Stmt := topS 22
theorem sc__law_chosen : FnScope ["n", "k", "total", "j"] ["n", "k"] (defScope s__law_chosen) := ⟨rfl, rfl, rfl, by decide +kernel, rfl, by decide +kernel, by decide +kernel⟩
abbrev s__law_says : Stmt := topS 27
theorem sc__law_says : FnScope ["value", "due"] ["value", "due"] (defScope s__law_says) := ⟨rfl, rfl, rfl, by decide +kernel, rfl, by decide +kernel, by decide +kernel⟩
abbrev s__law_drawn_path : Stmt := topS 25
theorem sc__law_drawn_path : FnScope ["state", "n", "turn", "h", "path", "left", "steps", "s"] ["state", "n"] (defScope s__law_drawn_path) := ⟨rfl, rfl, rfl, by decide +kernel, rfl, by decide +kernel, by decide +kernel⟩
abbrev s_check_count : Stmt := topS 9
theorem sc_check_count : FnScope ["n"] ["n"] (defScope s_check_count) := ⟨rfl, rfl, rfl, by decide +kernel, rfl, by decide +kernel, by decide +kernel⟩
abbrev s__law_is_path : Stmt := topS 24
theorem sc__law_is_path : FnScope ["value", "least", "most", "total", "s"] ["value", "least", "most"] (defScope s__law_is_path) := ⟨rfl, rfl, rfl, by decide +kernel, rfl, by decide +kernel, by decide +kernel⟩
abbrev s_goes_back : Stmt := topS 10
theorem sc_goes_back : FnScope ["value", "most", "height", "step"] ["value", "most"] (defScope s_goes_back) := ⟨rfl, rfl, rfl, by decide +kernel, rfl, by decide +kernel, by decide +kernel⟩
abbrev s_motzkin_paths : Stmt := topS 14
theorem sc_motzkin_paths : FnScope ["n"] ["n"] (defScope s_motzkin_paths) := ⟨rfl, rfl, rfl, by decide +kernel, rfl, by decide +kernel, by decide +kernel⟩
abbrev s_lukasiewicz_paths : Stmt := topS 15
theorem sc_lukasiewicz_paths : FnScope ["n"] ["n"] (defScope s_lukasiewicz_paths) := ⟨rfl, rfl, rfl, by decide +kernel, rfl, by decide +kernel, by decide +kernel⟩
abbrev s_is_motzkin_path : Stmt := topS 11
theorem sc_is_motzkin_path : FnScope ["value"] ["value"] (defScope s_is_motzkin_path) := ⟨rfl, rfl, rfl, by decide +kernel, rfl, by decide +kernel, by decide +kernel⟩
abbrev s_is_lukasiewicz_path : Stmt := topS 12
theorem sc_is_lukasiewicz_path : FnScope ["value"] ["value"] (defScope s_is_lukasiewicz_path) := ⟨rfl, rfl, rfl, by decide +kernel, rfl, by decide +kernel, by decide +kernel⟩
abbrev s__law_bent : Stmt := topS 26
theorem sc__law_bent : FnScope ["state", "value", "deep", "k"] ["state", "value", "deep"] (defScope s__law_bent) := ⟨rfl, rfl, rfl, by decide +kernel, rfl, by decide +kernel, by decide +kernel⟩
abbrev s__law_inner : Stmt := topS 17
theorem sc__law_inner : FnScope ["value", "item"] ["value"] (defScope s__law_inner) := ⟨rfl, rfl, rfl, by decide +kernel, rfl, by decide +kernel, by decide +kernel⟩
abbrev s__law_plain : Stmt := topS 18
theorem sc__law_plain : FnScope ["value"] ["value"] (defScope s__law_plain) := ⟨rfl, rfl, rfl, by decide +kernel, rfl, by decide +kernel, by decide +kernel⟩
abbrev s__law_told : Stmt := topS 28
theorem sc__law_told : FnScope ["which", "n", "e"] ["which", "n"] (defScope s__law_told) := ⟨rfl, rfl, rfl, by decide +kernel, rfl, by decide +kernel, by decide +kernel⟩
abbrev s_law : Stmt := topS 29
theorem sc_law : FnScope ["script", "state", "n", "m", "numbers", "turn", "path", "long", "values", "value", "one", "two", "which", "bad", "k"] ["script"] (defScope s_law) := ⟨rfl, rfl, rfl, by decide +kernel, rfl, by decide +kernel, by decide +kernel⟩
/-- where the program's top has left its things -/
structure Facts (P : Program) (K : PySem.W.Frag) (mg : Str → Option Value) where
  d__law_state : DA K mg "_law_state" s__law_state ["script"]
  d__law_take : DA K mg "_law_take" s__law_take ["state", "m"]
  d_is_integer : DA K mg "is_integer" s_is_integer ["value"]
  d_paths_to : DA K mg "paths_to" s_paths_to ["n", "most"]
  d__law_is_number : DA K mg "_law_is_number" s__law_is_number ["value"]
  d__law_paths : DA K mg "_law_paths" s__law_paths ["n", "most", "least"]
  d__law_chosen : DA K mg "_law_chosen" s__law_chosen ["n", "k"]
  d__law_says : DA K mg "_law_says" s__law_says ["value", "due"]
  d__law_drawn_path : DA K mg "_law_drawn_path" s__law_drawn_path ["state", "n"]
  d_check_count : DA K mg "check_count" s_check_count ["n"]
  d__law_is_path : DA K mg "_law_is_path" s__law_is_path ["value", "least", "most"]
  d_goes_back : DA K mg "goes_back" s_goes_back ["value", "most"]
  d_motzkin_paths : DA K mg "motzkin_paths" s_motzkin_paths ["n"]
  d_lukasiewicz_paths : DA K mg "lukasiewicz_paths" s_lukasiewicz_paths ["n"]
  d_is_motzkin_path : DA K mg "is_motzkin_path" s_is_motzkin_path ["value"]
  d_is_lukasiewicz_path : DA K mg "is_lukasiewicz_path" s_is_lukasiewicz_path ["value"]
  d__law_bent : DA K mg "_law_bent" s__law_bent ["state", "value", "deep"]
  d__law_inner : DA K mg "_law_inner" s__law_inner ["value"]
  d__law_plain : DA K mg "_law_plain" s__law_plain ["value"]
  d__law_told : DA K mg "_law_told" s__law_told ["which", "n"]
  d_law : DA K mg "law" s_law ["script"]
  x_Malformed : XA K mg "Malformed"
  x_Refused : RfA P K mg "Refused" "reason"
  n_Refused_Malformed : PySem.W.subIn K (.ref x_Refused.a) (.ref x_Malformed.a) = some false
  t_MOST_LISTED : Tok
  c_MOST_LISTED : mg "MOST_LISTED" = some (.int 9 t_MOST_LISTED)
  t_MOST_STEPS : Tok
  c_MOST_STEPS : mg "MOST_STEPS" = some (.int 12 t_MOST_STEPS)
  b_abs : mg "abs" = none
  b_all : mg "all" = none
  b_bool : mg "bool" = none
  b_int : mg "int" = none
  b_isinstance : mg "isinstance" = none
  b_len : mg "len" = none
  b_list : mg "list" = none
  b_min : mg "min" = none
  b_range : mg "range" = none
  b_sorted : mg "sorted" = none
  b_str : mg "str" = none
  b_tuple : mg "tuple" = none
def Facts.C {P : Program} {K : PySem.W.Frag} {mg : Str → Option Value} (E : Facts P K mg) : RC := ⟨K, fun i => match i with
  | _ => none, fun i => match i with
  | 1 => some E.x_Malformed.a
  | 2 => some E.x_Refused.a
  | _ => none⟩
variable {P : Program} {w : World} {K : PySem.W.Frag} {mg : Str → Option Value} {base : Heap} (E : Facts P K mg)
abbrev lb__law_state_1 : En → SR := (seqS
  (setS 1 ((op2 addD (oOfV ((vOfE (op2 mulD (nmO 1) (oOfV (kI 1000003)))))) (oOfV ((vOfE (op1 absD (nmO 3)))))))) (setS 2 ((op2 modD (oOfV ((vOfE (op1 intD (oOfV ((vOfE (op2 addD (oOfV ((vOfE (op2 mulD (nmO 2) (oOfV (kI 48271)))))) (nmO 3))))))))) (oOfV (kI 2147483647))))))
abbrev g__law_state_1 : En → SR := (setS 1 ((eOfV (kI 0))))
abbrev g__law_state_2 : En → SR := (setS 2 ((eOfV (kI 1))))
abbrev g__law_state_3 : En → SR := (forS (seqI' ((vOfE (opS (nmO 0) pNone (pSome (kI 63)))))) (nameG 3) lb__law_state_1)
abbrev g__law_state_4 : En → SR := (retS ((lstE (aCons ((nmV 1)) (aCons ((nmV 2)) aNil)))))
def g__law_state : En → SR := (seqS g__law_state_1 (seqS g__law_state_2 (seqS g__law_state_3 g__law_state_4)))
def F__law_state : Sl → List D → FR := fnF 4 false g__law_state
set_option maxRecDepth 100000 in
theorem ok__law_state : FnV P w K mg base E.C 1 E.d__law_state.f E.d__law_state.fd ["script"] false F__law_state :=
  fnV_of E.d__law_state.F sc__law_state false [] rfl (fun h => nomatch h) fun cdv A outer s H X σ₀ hr G => by
    exact (eb_cons
  (es_set (i := 1) G rfl (by first | exact .inl rfl | exact .inr rfl) (show (1 : Nat) ∉ ([] : List Nat) by decide) (EvV.toE ev_int)) (eb_cons
  (es_set (i := 2) G rfl (by first | exact .inl rfl | exact .inr rfl) (show (2 : Nat) ∉ ([] : List Nat) by decide) (EvV.toE ev_int)) (eb_cons
  (es_for G (passes_of rfl) (ei_seq G (EvE.toV (ev_slice G (ev_nameO (i := 0) rfl (by first | exact .inl rfl | exact .inr (.inl rfl) | exact .inr (.inr rfl))) ep_none (ep_some ev_int)))) (eg_name (i := 3) G rfl (by first | exact .inl rfl | exact .inr rfl) (show (3 : Nat) ∉ ([] : List Nat) by decide)) (eb_cons
  (es_set (i := 1) G rfl (by first | exact .inl rfl | exact .inr rfl) (show (1 : Nat) ∉ ([] : List Nat) by decide) (ev_add G (EvV.toO (EvE.toV (ev_mul G (ev_nameO (i := 1) rfl (by first | exact .inl rfl | exact .inr (.inl rfl) | exact .inr (.inr rfl))) (EvV.toO ev_int)))) (EvV.toO (EvE.toV (ev_abs (by rfl) E.b_abs (ev_nameO (i := 3) rfl (by first | exact .inl rfl | exact .inr (.inl rfl) | exact .inr (.inr rfl)))))))) (eb_one (es_set (i := 2) G rfl (by first | exact .inl rfl | exact .inr rfl) (show (2 : Nat) ∉ ([] : List Nat) by decide) (ev_mod (EvV.toO (EvE.toV (ev_int1 (by rfl) E.b_int (EvV.toO (EvE.toV (ev_add G (EvV.toO (EvE.toV (ev_mul G (ev_nameO (i := 2) rfl (by first | exact .inl rfl | exact .inr (.inl rfl) | exact .inr (.inr rfl))) (EvV.toO ev_int)))) (ev_nameO (i := 3) rfl (by first | exact .inl rfl | exact .inr (.inl rfl) | exact .inr (.inr rfl))))))))) (EvV.toO ev_int)))))) (eb_one (es_ret (ev_lst (ea_cons (ev_name (i := 1) rfl (by first | exact .inl rfl | exact .inr (.inl rfl) | exact .inr (.inr rfl))) (ea_cons (ev_name (i := 2) rfl (by first | exact .inl rfl | exact .inr (.inl rfl) | exact .inr (.inr rfl))) ea_nil))))))))
abbrev g__law_take_1 : En → SR := (iteS (tst (op2 (cmpD fun i j => decide (j < i)) (oOfV ((vOfE (op2 idxD (nmO 0) (oOfV (kI 0)))))) (oOfV (kI 0)))) (seqS
  (setS 2 ((op2 modD (oOfV ((vOfE (op1 intD (oOfV ((vOfE (op2 idxD (nmO 0) (oOfV (kI 0)))))))))) (nmO 1)))) (seqS
  (sItS 0 ((vOfE (op2 fdivD (oOfV ((vOfE (op2 idxD (nmO 0) (oOfV (kI 0)))))) (nmO 1)))) (kI 0)) (retM 2))) passS)
abbrev g__law_take_2 : En → SR := (sItS 0 ((vOfE (op2 modD (oOfV ((vOfE (op1 intD (oOfV ((vOfE (op2 addD (oOfV ((vOfE (op2 mulD (oOfV ((vOfE (op2 idxD (nmO 0) (oOfV (kI 1)))))) (oOfV (kI 48271)))))) (oOfV (kI 11)))))))))) (oOfV (kI 2147483647))))) (kI 1))
abbrev g__law_take_3 : En → SR := (retS ((op2 modD (oOfV ((vOfE (op1 intD (oOfV ((vOfE (op2 fdivD (oOfV ((vOfE (op2 idxD (nmO 0) (oOfV (kI 1)))))) (oOfV (kI 7)))))))))) (nmO 1))))
def g__law_take : En → SR := (seqS g__law_take_1 (seqS g__law_take_2 g__law_take_3))
def F__law_take : Sl → List D → FR := fnF 3 true g__law_take
set_option maxRecDepth 100000 in
theorem ok__law_take : FnV P w K mg base E.C 1 E.d__law_take.f E.d__law_take.fd ["state", "m"] true F__law_take :=
  fnV_of E.d__law_take.F sc__law_take true [0] rfl (fun _ => ⟨by decide, by decide⟩) fun cdv A outer s H X σ₀ hr G => by
    exact (eb_cons
  (es_if (et_cmp (cGt) (EvV.toO (EvE.toV (ev_idx G hr (ev_nameO (i := 0) rfl (by first | exact .inl rfl | exact .inr (.inl rfl) | exact .inr (.inr rfl))) (EvV.toO ev_int)))) (EvV.toO ev_int)) (eb_cons
  (es_set (i := 2) G rfl (by first | exact .inl rfl | exact .inr rfl) (show (2 : Nat) ∉ ([0] : List Nat) by decide) (ev_mod (EvV.toO (EvE.toV (ev_int1 (by rfl) E.b_int (EvV.toO (EvE.toV (ev_idx G hr (ev_nameO (i := 0) rfl (by first | exact .inl rfl | exact .inr (.inl rfl) | exact .inr (.inr rfl))) (EvV.toO ev_int))))))) (ev_nameO (i := 1) rfl (by first | exact .inl rfl | exact .inr (.inl rfl) | exact .inr (.inr rfl))))) (eb_cons
  (es_sub (i := 0) G hr rfl (by first | exact .inl rfl | exact .inr (.inl rfl) | exact .inr (.inr rfl)) (EvE.toV (ev_fdiv (EvV.toO (EvE.toV (ev_idx G hr (ev_nameO (i := 0) rfl (by first | exact .inl rfl | exact .inr (.inl rfl) | exact .inr (.inr rfl))) (EvV.toO ev_int)))) (ev_nameO (i := 1) rfl (by first | exact .inl rfl | exact .inr (.inl rfl) | exact .inr (.inr rfl))))) ev_int) (eb_one (es_retM (i := 2) rfl (by first | exact .inl rfl | exact .inr (.inl rfl) | exact .inr (.inr rfl)))))) eb_nil) (eb_cons
  (es_sub (i := 0) G hr rfl (by first | exact .inl rfl | exact .inr (.inl rfl) | exact .inr (.inr rfl)) (EvE.toV (ev_mod (EvV.toO (EvE.toV (ev_int1 (by rfl) E.b_int (EvV.toO (EvE.toV (ev_add G (EvV.toO (EvE.toV (ev_mul G (EvV.toO (EvE.toV (ev_idx G hr (ev_nameO (i := 0) rfl (by first | exact .inl rfl | exact .inr (.inl rfl) | exact .inr (.inr rfl))) (EvV.toO ev_int)))) (EvV.toO ev_int)))) (EvV.toO ev_int))))))) (EvV.toO ev_int))) ev_int) (eb_one (es_ret (ev_mod (EvV.toO (EvE.toV (ev_int1 (by rfl) E.b_int (EvV.toO (EvE.toV (ev_fdiv (EvV.toO (EvE.toV (ev_idx G hr (ev_nameO (i := 0) rfl (by first | exact .inl rfl | exact .inr (.inl rfl) | exact .inr (.inr rfl))) (EvV.toO ev_int)))) (EvV.toO ev_int))))))) (ev_nameO (i := 1) rfl (by first | exact .inl rfl | exact .inr (.inl rfl) | exact .inr (.inr rfl))))))))
def g_is_integer : En → SR := (retS ((eOfV ((andV ((vOfE (op1 (isiD "int") (nmO 0)))) ((notV ((vOfE (op1 (isiD "bool") (nmO 0)))))))))))
def F_is_integer : Sl → List D → FR := fnF 1 false g_is_integer
set_option maxRecDepth 100000 in
theorem ok_is_integer : FnV P w K mg base E.C 1 E.d_is_integer.f E.d_is_integer.fd ["value"] false F_is_integer :=
  fnV_of E.d_is_integer.F sc_is_integer false [] rfl (fun h => nomatch h) fun cdv A outer s H X σ₀ hr G => by
    exact (eb_one (es_ret (EvV.toE (ev_and (EvE.toV (ev_isi G (T := "int") (by decide) (by decide +kernel) (by rfl) E.b_isinstance (by rfl) E.b_int (ev_nameO (i := 0) rfl (by first | exact .inl rfl | exact .inr (.inl rfl) | exact .inr (.inr rfl))))) (ev_one (ev_not (EvE.toV (ev_isi G (T := "bool") (by decide) (by decide +kernel) (by rfl) E.b_isinstance (by rfl) E.b_bool (ev_nameO (i := 0) rfl (by first | exact .inl rfl | exact .inr (.inl rfl) | exact .inr (.inr rfl)))))))))))
abbrev lb_paths_to_1 : En → SR := (iteS (tst (op2 (cmpD fun i j => decide (j ≤ i)) (oOfV ((vOfE (op2 addD (nmO 6) (nmO 7))))) (oOfV (kI 0)))) (appS 4 ((tupE (aCons ((vOfE (op2 addD (nmO 5) (oOfV ((tupE (aCons ((nmV 7)) aNil))))))) (aCons ((vOfE (op2 addD (nmO 6) (nmO 7)))) aNil))))) passS)
abbrev lb_paths_to_2 : En → SR := (forS (rg2 (aCons ((vOfE (op1 negD (oOfV (kI 1))))) (aCons ((vOfE (op2 addD (oOfV ((vOfE (op2 min2D (nmO 1) (oOfV ((vOfE (op2 subD (nmO 3) (nmO 6))))))))) (oOfV (kI 1))))) aNil))) (nameG 7) lb_paths_to_1)
abbrev lb_paths_to_3 : En → SR := (seqS
  (setS 4 ((lstE aNil))) (seqS
  (forS (seqI' ((nmV 2))) (tupG 2 (consG (nameG 5) (consG (nameG 6) nilG))) lb_paths_to_2) (setS 2 ((op1 lisD (nmO 4))))))
abbrev cp_paths_to_1 : En → R (D × Nat) := (comp (seqI' ((nmV 2))) (tupG 2 (consG (nameG 5) (consG (nameG 8) nilG))) (yesT) ((eOfV ((nmV 5)))) 0 [5, 8])
abbrev g_paths_to_1 : En → SR := (setS 2 ((lstE (aCons ((tupE (aCons ((tupE aNil)) (aCons (kI 0) aNil)))) aNil))))
abbrev g_paths_to_2 : En → SR := (forS (rg3 (aCons ((vOfE (op2 subD (nmO 0) (oOfV (kI 1))))) (aCons ((vOfE (op1 negD (oOfV (kI 1))))) (aCons ((vOfE (op1 negD (oOfV (kI 1))))) aNil)))) (nameG 3) lb_paths_to_3)
abbrev g_paths_to_3 : En → SR := (retS (cp_paths_to_1))
def g_paths_to : En → SR := (seqS g_paths_to_1 (seqS g_paths_to_2 g_paths_to_3))
def F_paths_to : Sl → List D → FR := fnF 9 false g_paths_to
set_option maxRecDepth 100000 in
theorem ok_paths_to : FnV P w K mg base E.C 1 E.d_paths_to.f E.d_paths_to.fd ["n", "most"] false F_paths_to :=
  fnV_of E.d_paths_to.F sc_paths_to false [] rfl (fun h => nomatch h) fun cdv A outer s H X σ₀ hr G => by
    exact (eb_cons
  (es_set (i := 2) G rfl (by first | exact .inl rfl | exact .inr rfl) (show (2 : Nat) ∉ ([] : List Nat) by decide) (ev_lst (ea_cons (ev_tup (ea_cons (ev_tup ea_nil) (ea_cons ev_int ea_nil))) ea_nil))) (eb_cons
  (es_for G (passes_of rfl) (ei_rg3 (by rfl) E.b_range (ea_cons (EvE.toV (ev_sub (ev_nameO (i := 0) rfl (by first | exact .inl rfl | exact .inr (.inl rfl) | exact .inr (.inr rfl))) (EvV.toO ev_int))) (ea_cons (EvE.toV (ev_neg (EvV.toO ev_int))) (ea_cons (EvE.toV (ev_neg (EvV.toO ev_int))) ea_nil)))) (eg_name (i := 3) G rfl (by first | exact .inl rfl | exact .inr rfl) (show (3 : Nat) ∉ ([] : List Nat) by decide)) (eb_cons
  (es_set (i := 4) G rfl (by first | exact .inl rfl | exact .inr rfl) (show (4 : Nat) ∉ ([] : List Nat) by decide) (ev_lst ea_nil)) (eb_cons
  (es_for G (passes_of rfl) (ei_seq G (ev_name (i := 2) rfl (by first | exact .inl rfl | exact .inr (.inl rfl) | exact .inr (.inr rfl)))) (eg_tup G (egs_cons (eg_name (i := 5) G rfl (by first | exact .inl rfl | exact .inr rfl) (show (5 : Nat) ∉ ([] : List Nat) by decide)) (egs_cons (eg_name (i := 6) G rfl (by first | exact .inl rfl | exact .inr rfl) (show (6 : Nat) ∉ ([] : List Nat) by decide)) egs_nil))) (eb_one (es_for G (passes_of rfl) (ei_rg2 (by rfl) E.b_range (ea_cons (EvE.toV (ev_neg (EvV.toO ev_int))) (ea_cons (EvE.toV (ev_add G (EvV.toO (EvE.toV (ev_min2 G (by rfl) E.b_min (ev_nameO (i := 1) rfl (by first | exact .inl rfl | exact .inr (.inl rfl) | exact .inr (.inr rfl))) (EvV.toO (EvE.toV (ev_sub (ev_nameO (i := 3) rfl (by first | exact .inl rfl | exact .inr (.inl rfl) | exact .inr (.inr rfl))) (ev_nameO (i := 6) rfl (by first | exact .inl rfl | exact .inr (.inl rfl) | exact .inr (.inr rfl))))))))) (EvV.toO ev_int))) ea_nil))) (eg_name (i := 7) G rfl (by first | exact .inl rfl | exact .inr rfl) (show (7 : Nat) ∉ ([] : List Nat) by decide)) (eb_one (es_if (et_cmp (cGe) (EvV.toO (EvE.toV (ev_add G (ev_nameO (i := 6) rfl (by first | exact .inl rfl | exact .inr (.inl rfl) | exact .inr (.inr rfl))) (ev_nameO (i := 7) rfl (by first | exact .inl rfl | exact .inr (.inl rfl) | exact .inr (.inr rfl)))))) (EvV.toO ev_int)) (eb_one (es_app (i := 4) G rfl (by first | exact .inl rfl | exact .inr (.inl rfl) | exact .inr (.inr rfl)) (ev_tup (ea_cons (EvE.toV (ev_add G (ev_nameO (i := 5) rfl (by first | exact .inl rfl | exact .inr (.inl rfl) | exact .inr (.inr rfl))) (EvV.toO (ev_tup (ea_cons (ev_name (i := 7) rfl (by first | exact .inl rfl | exact .inr (.inl rfl) | exact .inr (.inr rfl))) ea_nil))))) (ea_cons (EvE.toV (ev_add G (ev_nameO (i := 6) rfl (by first | exact .inl rfl | exact .inr (.inl rfl) | exact .inr (.inr rfl))) (ev_nameO (i := 7) rfl (by first | exact .inl rfl | exact .inr (.inl rfl) | exact .inr (.inr rfl))))) ea_nil))))) eb_nil))))) (eb_one (es_set (i := 2) G rfl (by first | exact .inl rfl | exact .inr rfl) (show (2 : Nat) ∉ ([] : List Nat) by decide) (ev_list G (by rfl) E.b_list (ev_nameO (i := 4) rfl (by first | exact .inl rfl | exact .inr (.inl rfl) | exact .inr (.inr rfl))))))))) (eb_one (es_ret (ev_lc (own := [((PySem.Str.ofString "path"), 5), ((PySem.Str.ofString "_"), 8)]) (vs := [5, 8]) (ws := ([5] ++ ([8] ++ []))) 0 G (ei_seq G (ev_name (i := 2) rfl (by first | exact .inl rfl | exact .inr (.inl rfl) | exact .inr (.inr rfl)))) (blkOk_by (by kernel_rfl)) rfl (by decide) (fun _ _ _ _ _ => blkG G fun G => (eg_tup G (egs_cons (eg_name (i := 5) G rfl (by first | exact .inl rfl | exact .inr rfl) (show (5 : Nat) ∉ ([] : List Nat) by decide)) (egs_cons (eg_name (i := 8) G rfl (by first | exact .inl rfl | exact .inr rfl) (show (8 : Nat) ∉ ([] : List Nat) by decide)) egs_nil)))) (fun _ _ _ _ _ => blkT G fun G => ept_nil) (fun _ _ _ _ _ => blkE G fun G => (EvV.toE (ev_name (i := 5) rfl (by first | exact .inl rfl | exact .inr (.inl rfl) | exact .inr (.inr rfl))))))))))
def g__law_is_number : En → SR := (retS ((eOfV ((andV ((vOfE (op1 (isiD "int") (nmO 0)))) ((notV ((vOfE (op1 (isiD "bool") (nmO 0)))))))))))
def F__law_is_number : Sl → List D → FR := fnF 1 false g__law_is_number
set_option maxRecDepth 100000 in
theorem ok__law_is_number : FnV P w K mg base E.C 1 E.d__law_is_number.f E.d__law_is_number.fd ["value"] false F__law_is_number :=
  fnV_of E.d__law_is_number.F sc__law_is_number false [] rfl (fun h => nomatch h) fun cdv A outer s H X σ₀ hr G => by
    exact (eb_one (es_ret (EvV.toE (ev_and (EvE.toV (ev_isi G (T := "int") (by decide) (by decide +kernel) (by rfl) E.b_isinstance (by rfl) E.b_int (ev_nameO (i := 0) rfl (by first | exact .inl rfl | exact .inr (.inl rfl) | exact .inr (.inr rfl))))) (ev_one (ev_not (EvE.toV (ev_isi G (T := "bool") (by decide) (by decide +kernel) (by rfl) E.b_isinstance (by rfl) E.b_bool (ev_nameO (i := 0) rfl (by first | exact .inl rfl | exact .inr (.inl rfl) | exact .inr (.inr rfl)))))))))))
abbrev lb__law_paths_1 : En → SR := (iteS (andT (tst (op2 (cmpD fun i j => decide (j ≤ i)) (oOfV ((vOfE (op2 addD (nmO 7) (nmO 8))))) (oOfV (kI 0)))) (tst (op2 (cmpD fun i j => decide (i ≤ j)) (oOfV ((vOfE (op2 addD (nmO 7) (nmO 8))))) (nmO 0)))) (appS 5 ((tupE (aCons ((vOfE (op2 addD (nmO 6) (oOfV ((tupE (aCons ((nmV 8)) aNil))))))) (aCons ((vOfE (op2 addD (nmO 7) (nmO 8)))) aNil))))) passS)
abbrev lb__law_paths_2 : En → SR := (forS (rg2 (aCons ((nmV 2)) (aCons ((vOfE (op2 addD (nmO 1) (oOfV (kI 1))))) aNil))) (nameG 8) lb__law_paths_1)
abbrev lb__law_paths_3 : En → SR := (seqS
  (setS 5 ((lstE aNil))) (seqS
  (forS (seqI' ((nmV 3))) (tupG 2 (consG (nameG 6) (consG (nameG 7) nilG))) lb__law_paths_2) (setS 3 ((op1 lisD (nmO 5))))))
abbrev cp__law_paths_1 : En → R (D × Nat) := (comp (seqI' ((nmV 3))) (tupG 2 (consG (nameG 6) (consG (nameG 7) nilG))) ((tst (op2 eqD (nmO 7) (oOfV (kI 0))))) ((eOfV ((nmV 6)))) 0 [6, 7])
abbrev g__law_paths_1 : En → SR := (setS 3 ((lstE (aCons ((tupE (aCons ((tupE aNil)) (aCons (kI 0) aNil)))) aNil))))
abbrev g__law_paths_2 : En → SR := (forS (rg1 (aCons ((nmV 0)) aNil)) (nameG 4) lb__law_paths_3)
abbrev g__law_paths_3 : En → SR := (retS ((op1 sortD (oOfV ((vOfE cp__law_paths_1))))))
def g__law_paths : En → SR := (seqS g__law_paths_1 (seqS g__law_paths_2 g__law_paths_3))
def F__law_paths : Sl → List D → FR := fnF 9 false g__law_paths
set_option maxRecDepth 100000 in
theorem ok__law_paths : FnV P w K mg base E.C 1 E.d__law_paths.f E.d__law_paths.fd ["n", "most", "least"] false F__law_paths :=
  fnV_of E.d__law_paths.F sc__law_paths false [] rfl (fun h => nomatch h) fun cdv A outer s H X σ₀ hr G => by
    exact (eb_cons
  (es_set (i := 3) G rfl (by first | exact .inl rfl | exact .inr rfl) (show (3 : Nat) ∉ ([] : List Nat) by decide) (ev_lst (ea_cons (ev_tup (ea_cons (ev_tup ea_nil) (ea_cons ev_int ea_nil))) ea_nil))) (eb_cons
  (es_for G (passes_of rfl) (ei_rg1 (by rfl) E.b_range (ea_cons (ev_name (i := 0) rfl (by first | exact .inl rfl | exact .inr (.inl rfl) | exact .inr (.inr rfl))) ea_nil)) (eg_name (i := 4) G rfl (by first | exact .inl rfl | exact .inr rfl) (show (4 : Nat) ∉ ([] : List Nat) by decide)) (eb_cons
  (es_set (i := 5) G rfl (by first | exact .inl rfl | exact .inr rfl) (show (5 : Nat) ∉ ([] : List Nat) by decide) (ev_lst ea_nil)) (eb_cons
  (es_for G (passes_of rfl) (ei_seq G (ev_name (i := 3) rfl (by first | exact .inl rfl | exact .inr (.inl rfl) | exact .inr (.inr rfl)))) (eg_tup G (egs_cons (eg_name (i := 6) G rfl (by first | exact .inl rfl | exact .inr rfl) (show (6 : Nat) ∉ ([] : List Nat) by decide)) (egs_cons (eg_name (i := 7) G rfl (by first | exact .inl rfl | exact .inr rfl) (show (7 : Nat) ∉ ([] : List Nat) by decide)) egs_nil))) (eb_one (es_for G (passes_of rfl) (ei_rg2 (by rfl) E.b_range (ea_cons (ev_name (i := 2) rfl (by first | exact .inl rfl | exact .inr (.inl rfl) | exact .inr (.inr rfl))) (ea_cons (EvE.toV (ev_add G (ev_nameO (i := 1) rfl (by first | exact .inl rfl | exact .inr (.inl rfl) | exact .inr (.inr rfl))) (EvV.toO ev_int))) ea_nil))) (eg_name (i := 8) G rfl (by first | exact .inl rfl | exact .inr rfl) (show (8 : Nat) ∉ ([] : List Nat) by decide)) (eb_one (es_if (EvW.t (ew_and (et_cmp (cGe) (EvV.toO (EvE.toV (ev_add G (ev_nameO (i := 7) rfl (by first | exact .inl rfl | exact .inr (.inl rfl) | exact .inr (.inr rfl))) (ev_nameO (i := 8) rfl (by first | exact .inl rfl | exact .inr (.inl rfl) | exact .inr (.inr rfl)))))) (EvV.toO ev_int)) (ew_and1 (et_cmp (cLe) (EvV.toO (EvE.toV (ev_add G (ev_nameO (i := 7) rfl (by first | exact .inl rfl | exact .inr (.inl rfl) | exact .inr (.inr rfl))) (ev_nameO (i := 8) rfl (by first | exact .inl rfl | exact .inr (.inl rfl) | exact .inr (.inr rfl)))))) (ev_nameO (i := 0) rfl (by first | exact .inl rfl | exact .inr (.inl rfl) | exact .inr (.inr rfl))))))) (eb_one (es_app (i := 5) G rfl (by first | exact .inl rfl | exact .inr (.inl rfl) | exact .inr (.inr rfl)) (ev_tup (ea_cons (EvE.toV (ev_add G (ev_nameO (i := 6) rfl (by first | exact .inl rfl | exact .inr (.inl rfl) | exact .inr (.inr rfl))) (EvV.toO (ev_tup (ea_cons (ev_name (i := 8) rfl (by first | exact .inl rfl | exact .inr (.inl rfl) | exact .inr (.inr rfl))) ea_nil))))) (ea_cons (EvE.toV (ev_add G (ev_nameO (i := 7) rfl (by first | exact .inl rfl | exact .inr (.inl rfl) | exact .inr (.inr rfl))) (ev_nameO (i := 8) rfl (by first | exact .inl rfl | exact .inr (.inl rfl) | exact .inr (.inr rfl))))) ea_nil))))) eb_nil))))) (eb_one (es_set (i := 3) G rfl (by first | exact .inl rfl | exact .inr rfl) (show (3 : Nat) ∉ ([] : List Nat) by decide) (ev_list G (by rfl) E.b_list (ev_nameO (i := 5) rfl (by first | exact .inl rfl | exact .inr (.inl rfl) | exact .inr (.inr rfl))))))))) (eb_one (es_ret (ev_sorted G hr (by rfl) E.b_sorted (EvV.toO (EvE.toV (ev_lc (own := [((PySem.Str.ofString "path"), 6), ((PySem.Str.ofString "h"), 7)]) (vs := [6, 7]) (ws := ([6] ++ ([7] ++ []))) 0 G (ei_seq G (ev_name (i := 3) rfl (by first | exact .inl rfl | exact .inr (.inl rfl) | exact .inr (.inr rfl)))) (blkOk_by (by kernel_rfl)) rfl (by decide) (fun _ _ _ _ _ => blkG G fun G => (eg_tup G (egs_cons (eg_name (i := 6) G rfl (by first | exact .inl rfl | exact .inr rfl) (show (6 : Nat) ∉ ([] : List Nat) by decide)) (egs_cons (eg_name (i := 7) G rfl (by first | exact .inl rfl | exact .inr rfl) (show (7 : Nat) ∉ ([] : List Nat) by decide)) egs_nil)))) (fun _ _ _ _ _ => blkT G fun G => (ept_one (et_cmp (cEq G hr) (ev_nameO (i := 7) rfl (by first | exact .inl rfl | exact .inr (.inl rfl) | exact .inr (.inr rfl))) (EvV.toO ev_int)))) (fun _ _ _ _ _ => blkE G fun G => (EvV.toE (ev_name (i := 6) rfl (by first | exact .inl rfl | exact .inr (.inl rfl) | exact .inr (.inr rfl)))))))))))))
abbrev lb__law_chosen_1 : En → SR := (setS 2 ((op2 fdivD (oOfV ((vOfE (op2 mulD (nmO 2) (oOfV ((vOfE (op2 subD (nmO 0) (nmO 3))))))))) (oOfV ((vOfE (op2 addD (nmO 3) (oOfV (kI 1)))))))))
abbrev g__law_chosen_1 : En → SR := (setS 2 ((eOfV (kI 1))))
abbrev g__law_chosen_2 : En → SR := (forS (rg1 (aCons ((nmV 1)) aNil)) (nameG 3) lb__law_chosen_1)
abbrev g__law_chosen_3 : En → SR := (retM 2)
def g__law_chosen : En → SR := (seqS g__law_chosen_1 (seqS g__law_chosen_2 g__law_chosen_3))
def F__law_chosen : Sl → List D → FR := fnF 4 false g__law_chosen
set_option maxRecDepth 100000 in
theorem ok__law_chosen : FnV P w K mg base E.C 1 E.d__law_chosen.f E.d__law_chosen.fd ["n", "k"] false F__law_chosen :=
  fnV_of E.d__law_chosen.F sc__law_chosen false [] rfl (fun h => nomatch h) fun cdv A outer s H X σ₀ hr G => by
    exact (eb_cons
  (es_set (i := 2) G rfl (by first | exact .inl rfl | exact .inr rfl) (show (2 : Nat) ∉ ([] : List Nat) by decide) (EvV.toE ev_int)) (eb_cons
  (es_for G (passes_of rfl) (ei_rg1 (by rfl) E.b_range (ea_cons (ev_name (i := 1) rfl (by first | exact .inl rfl | exact .inr (.inl rfl) | exact .inr (.inr rfl))) ea_nil)) (eg_name (i := 3) G rfl (by first | exact .inl rfl | exact .inr rfl) (show (3 : Nat) ∉ ([] : List Nat) by decide)) (eb_one (es_set (i := 2) G rfl (by first | exact .inl rfl | exact .inr rfl) (show (2 : Nat) ∉ ([] : List Nat) by decide) (ev_fdiv (EvV.toO (EvE.toV (ev_mul G (ev_nameO (i := 2) rfl (by first | exact .inl rfl | exact .inr (.inl rfl) | exact .inr (.inr rfl))) (EvV.toO (EvE.toV (ev_sub (ev_nameO (i := 0) rfl (by first | exact .inl rfl | exact .inr (.inl rfl) | exact .inr (.inr rfl))) (ev_nameO (i := 3) rfl (by first | exact .inl rfl | exact .inr (.inl rfl) | exact .inr (.inr rfl))))))))) (EvV.toO (EvE.toV (ev_add G (ev_nameO (i := 3) rfl (by first | exact .inl rfl | exact .inr (.inl rfl) | exact .inr (.inr rfl))) (EvV.toO ev_int)))))))) (eb_one (es_retM (i := 2) rfl (by first | exact .inl rfl | exact .inr (.inl rfl) | exact .inr (.inr rfl))))))
def g__law_says : En → SR := (retS ((eOfV ((andV ((vOfE (op1 (isiD "bool") (nmO 0)))) ((vOfE (op2 eqD (nmO 0) (nmO 1)))))))))
def F__law_says : Sl → List D → FR := fnF 2 false g__law_says
set_option maxRecDepth 100000 in
theorem ok__law_says : FnV P w K mg base E.C 1 E.d__law_says.f E.d__law_says.fd ["value", "due"] false F__law_says :=
  fnV_of E.d__law_says.F sc__law_says false [] rfl (fun h => nomatch h) fun cdv A outer s H X σ₀ hr G => by
    exact (eb_one (es_ret (EvV.toE (ev_and (EvE.toV (ev_isi G (T := "bool") (by decide) (by decide +kernel) (by rfl) E.b_isinstance (by rfl) E.b_bool (ev_nameO (i := 0) rfl (by first | exact .inl rfl | exact .inr (.inl rfl) | exact .inr (.inr rfl))))) (ev_one (EvE.toV (ev_cmp (cEq G hr) (ev_nameO (i := 0) rfl (by first | exact .inl rfl | exact .inr (.inl rfl) | exact .inr (.inr rfl))) (ev_nameO (i := 1) rfl (by first | exact .inl rfl | exact .inr (.inl rfl) | exact .inr (.inr rfl))))))))))
abbrev cp__law_drawn_path_1 : En → R (D × Nat) := (comp (seqI' ((tupE (aCons ((vOfE (op1 negD (oOfV (kI 1))))) (aCons (kI 0) (aCons (kI 1) aNil)))))) (nameG 7) ((tst (opC (cmpD fun i j => decide (i ≤ j)) (cmpD fun i j => decide (i ≤ j)) (oOfV (kI 0)) (oOfV ((vOfE (op2 addD (nmO 3) (nmO 7))))) (oOfV ((vOfE (op2 subD (nmO 5) (oOfV (kI 1))))))))) ((eOfV ((nmV 7)))) 0 [7])
abbrev lb__law_drawn_path_1 : En → SR := (seqS
  (setS 5 ((op2 subD (nmO 1) (nmO 2)))) (seqS
  (setS 6 cp__law_drawn_path_1) (seqS
  (setS 7 ((op2 idxD (nmO 6) (oOfV ((vOfE (callI 2 (F__law_take) 0 (aCons ((vOfE (op1 lenD (nmO 6)))) aNil)))))))) (seqS
  (setS 4 ((op2 addD (nmO 4) (oOfV ((tupE (aCons ((nmV 7)) aNil))))))) (setS 3 ((op2 addD (nmO 3) (nmO 7))))))))
abbrev g__law_drawn_path_1 : En → SR := (asgS (tupG 2 (consG (nameG 3) (consG (nameG 4) nilG))) ((tupE (aCons (kI 0) (aCons ((tupE aNil)) aNil)))))
abbrev g__law_drawn_path_2 : En → SR := (forS (rg1 (aCons ((nmV 1)) aNil)) (nameG 2) lb__law_drawn_path_1)
abbrev g__law_drawn_path_3 : En → SR := (retM 4)
def g__law_drawn_path : En → SR := (seqS g__law_drawn_path_1 (seqS g__law_drawn_path_2 g__law_drawn_path_3))
def F__law_drawn_path : Sl → List D → FR := fnF 8 true g__law_drawn_path
set_option maxRecDepth 100000 in
theorem ok__law_drawn_path : FnV P w K mg base E.C 2 E.d__law_drawn_path.f E.d__law_drawn_path.fd ["state", "n"] true F__law_drawn_path :=
  fnV_of E.d__law_drawn_path.F sc__law_drawn_path true [0] rfl (fun _ => ⟨by decide, by decide⟩) fun cdv A outer s H X σ₀ hr G => by
    exact (eb_cons
  (es_asg (ev_tup (ea_cons ev_int (ea_cons (ev_tup ea_nil) ea_nil))) (eg_tup G (egs_cons (eg_name (i := 3) G rfl (by first | exact .inl rfl | exact .inr rfl) (show (3 : Nat) ∉ ([0] : List Nat) by decide)) (egs_cons (eg_name (i := 4) G rfl (by first | exact .inl rfl | exact .inr rfl) (show (4 : Nat) ∉ ([0] : List Nat) by decide)) egs_nil)))) (eb_cons
  (es_for G (passes_of rfl) (ei_rg1 (by rfl) E.b_range (ea_cons (ev_name (i := 1) rfl (by first | exact .inl rfl | exact .inr (.inl rfl) | exact .inr (.inr rfl))) ea_nil)) (eg_name (i := 2) G rfl (by first | exact .inl rfl | exact .inr rfl) (show (2 : Nat) ∉ ([0] : List Nat) by decide)) (eb_cons
  (es_set (i := 5) G rfl (by first | exact .inl rfl | exact .inr rfl) (show (5 : Nat) ∉ ([0] : List Nat) by decide) (ev_sub (ev_nameO (i := 1) rfl (by first | exact .inl rfl | exact .inr (.inl rfl) | exact .inr (.inr rfl))) (ev_nameO (i := 2) rfl (by first | exact .inl rfl | exact .inr (.inl rfl) | exact .inr (.inr rfl))))) (eb_cons
  (es_setLc (i := 6) (own := [((PySem.Str.ofString "s"), 7)]) (vs := [7]) (ws := [7]) 0 G rfl rfl (show (6 : Nat) ∉ ([0] : List Nat) by decide) (sw_true rfl rfl rfl rfl) (ei_seq G (ev_tup (ea_cons (EvE.toV (ev_neg (EvV.toO ev_int))) (ea_cons ev_int (ea_cons ev_int ea_nil))))) (blkOk_by (by kernel_rfl)) rfl (by decide) (fun _ _ _ _ _ => blkG G fun G => (eg_name (i := 7) G rfl (by first | exact .inl rfl | exact .inr rfl) (show (7 : Nat) ∉ ([] : List Nat) by decide))) (fun _ _ _ _ _ => blkT G fun G => (ept_one (et_chain (bLe) (cLe) (EvV.toO ev_int) (EvV.toO (EvE.toV (ev_add G (ev_nameO (i := 3) rfl (by first | exact .inl rfl | exact .inr (.inl rfl) | exact .inr (.inr rfl))) (ev_nameO (i := 7) rfl (by first | exact .inl rfl | exact .inr (.inl rfl) | exact .inr (.inr rfl)))))) (EvV.toO (EvE.toV (ev_sub (ev_nameO (i := 5) rfl (by first | exact .inl rfl | exact .inr (.inl rfl) | exact .inr (.inr rfl))) (EvV.toO ev_int))))))) (fun _ _ _ _ _ => blkE G fun G => (EvV.toE (ev_name (i := 7) rfl (by first | exact .inl rfl | exact .inr (.inl rfl) | exact .inr (.inr rfl)))))) (eb_cons
  (es_set (i := 7) G rfl (by first | exact .inl rfl | exact .inr rfl) (show (7 : Nat) ∉ ([0] : List Nat) by decide) (ev_idx G hr (ev_nameO (i := 6) rfl (by first | exact .inl rfl | exact .inr (.inl rfl) | exact .inr (.inr rfl))) (EvV.toO (EvE.toV (ev_callI G (ok__law_take E) (hr.mono (by decide)) (by rfl) E.d__law_take.m E.d__law_take.F.kp E.d__law_take.b (i := 0) rfl (by first | exact .inl rfl | exact .inr (.inl rfl) | exact .inr (.inr rfl)) (ea_cons (EvE.toV (ev_len G (by rfl) E.b_len (ev_nameO (i := 6) rfl (by first | exact .inl rfl | exact .inr (.inl rfl) | exact .inr (.inr rfl))))) ea_nil)))))) (eb_cons
  (es_set (i := 4) G rfl (by first | exact .inl rfl | exact .inr rfl) (show (4 : Nat) ∉ ([0] : List Nat) by decide) (ev_add G (ev_nameO (i := 4) rfl (by first | exact .inl rfl | exact .inr (.inl rfl) | exact .inr (.inr rfl))) (EvV.toO (ev_tup (ea_cons (ev_name (i := 7) rfl (by first | exact .inl rfl | exact .inr (.inl rfl) | exact .inr (.inr rfl))) ea_nil))))) (eb_one (es_set (i := 3) G rfl (by first | exact .inl rfl | exact .inr rfl) (show (3 : Nat) ∉ ([0] : List Nat) by decide) (ev_add G (ev_nameO (i := 3) rfl (by first | exact .inl rfl | exact .inr (.inl rfl) | exact .inr (.inr rfl))) (ev_nameO (i := 7) rfl (by first | exact .inl rfl | exact .inr (.inl rfl) | exact .inr (.inr rfl))))))))))) (eb_one (es_retM (i := 4) rfl (by first | exact .inl rfl | exact .inr (.inl rfl) | exact .inr (.inr rfl))))))
def g_check_count : En → SR := (iteS (orT (notT (tru (oOfV ((vOfE (callF 1 (F_is_integer) (aCons ((nmV 0)) aNil))))))) (notT (tst (opC (cmpD fun i j => decide (i ≤ j)) (cmpD fun i j => decide (i ≤ j)) (oOfV (kI 0)) (nmO 0) (oOfV (kI 12)))))) (raiseS 1) passS)
def F_check_count : Sl → List D → FR := fnF 1 false g_check_count
set_option maxRecDepth 100000 in
theorem ok_check_count : FnV P w K mg base E.C 2 E.d_check_count.f E.d_check_count.fd ["n"] false F_check_count :=
  fnV_of E.d_check_count.F sc_check_count false [] rfl (fun h => nomatch h) fun cdv A outer s H X σ₀ hr G => by
    exact (eb_one (es_if (EvW.t (ew_or (et_not (et_tru G (EvV.toO (EvE.toV (ev_call G (ok_is_integer E) (hr.mono (by decide)) (by rfl) E.d_is_integer.m E.d_is_integer.F.kp E.d_is_integer.b (ea_cons (ev_name (i := 0) rfl (by first | exact .inl rfl | exact .inr (.inl rfl) | exact .inr (.inr rfl))) ea_nil)))))) (ew_or1 (et_not (et_chain (bLe) (cLe) (EvV.toO ev_int) (ev_nameO (i := 0) rfl (by first | exact .inl rfl | exact .inr (.inl rfl) | exact .inr (.inr rfl))) (EvV.toO (ev_gint (by rfl) E.c_MOST_STEPS))))))) (eb_one (es_raise (c := 1) G (E.x_Malformed.excC rfl) (by rfl))) eb_nil))
abbrev cp__law_is_path_1 : En → R (D × Nat) := (comp (seqI' ((nmV 0))) (nameG 4) (yesT) ((eOfV ((andV ((vOfE (callF 1 (F__law_is_number) (aCons ((nmV 4)) aNil)))) ((vOfE (opC (cmpD fun i j => decide (i ≤ j)) (cmpD fun i j => decide (i ≤ j)) (nmO 1) (nmO 4) (nmO 2)))))))) 0 [4])
abbrev lb__law_is_path_1 : En → SR := (seqS
  (setS 3 ((op2 addD (nmO 3) (nmO 4)))) (iteS (tst (op2 (cmpD fun i j => decide (i < j)) (nmO 3) (oOfV (kI 0)))) (retS ((eOfV (kB false)))) passS))
abbrev g__law_is_path_1 : En → SR := (iteS (orT (notT (tru (oOfV ((vOfE (op1 (isiD "tuple") (nmO 0))))))) (orT (tst (op2 (cmpD fun i j => decide (j < i)) (oOfV ((vOfE (op1 lenD (nmO 0))))) (oOfV (kI 12)))) (notT (tru (oOfV ((vOfE (op1 allD (oOfV ((vOfE cp__law_is_path_1))))))))))) (retS ((eOfV (kB false)))) passS)
abbrev g__law_is_path_2 : En → SR := (setS 3 ((eOfV (kI 0))))
abbrev g__law_is_path_3 : En → SR := (forS (seqI' ((nmV 0))) (nameG 4) lb__law_is_path_1)
abbrev g__law_is_path_4 : En → SR := (retS ((op2 eqD (nmO 3) (oOfV (kI 0)))))
def g__law_is_path : En → SR := (seqS g__law_is_path_1 (seqS g__law_is_path_2 (seqS g__law_is_path_3 g__law_is_path_4)))
def F__law_is_path : Sl → List D → FR := fnF 5 false g__law_is_path
set_option maxRecDepth 100000 in
theorem ok__law_is_path : FnV P w K mg base E.C 2 E.d__law_is_path.f E.d__law_is_path.fd ["value", "least", "most"] false F__law_is_path :=
  fnV_of E.d__law_is_path.F sc__law_is_path false [] rfl (fun h => nomatch h) fun cdv A outer s H X σ₀ hr G => by
    exact (eb_cons
  (es_if (EvW.t (ew_or (et_not (et_tru G (EvV.toO (EvE.toV (ev_isi G (T := "tuple") (by decide) (by decide +kernel) (by rfl) E.b_isinstance (by rfl) E.b_tuple (ev_nameO (i := 0) rfl (by first | exact .inl rfl | exact .inr (.inl rfl) | exact .inr (.inr rfl)))))))) (ew_or (et_cmp (cGt) (EvV.toO (EvE.toV (ev_len G (by rfl) E.b_len (ev_nameO (i := 0) rfl (by first | exact .inl rfl | exact .inr (.inl rfl) | exact .inr (.inr rfl)))))) (EvV.toO ev_int)) (ew_or1 (et_not (et_tru G (EvV.toO (EvE.toV (ev_all G (by rfl) E.b_all (EvV.toO (EvE.toV (ev_lc (own := [((PySem.Str.ofString "s"), 4)]) (vs := [4]) (ws := [4]) 0 G (ei_seq G (ev_name (i := 0) rfl (by first | exact .inl rfl | exact .inr (.inl rfl) | exact .inr (.inr rfl)))) (blkOk_by (by kernel_rfl)) rfl (by decide) (fun _ _ _ _ _ => blkG G fun G => (eg_name (i := 4) G rfl (by first | exact .inl rfl | exact .inr rfl) (show (4 : Nat) ∉ ([] : List Nat) by decide))) (fun _ _ _ _ _ => blkT G fun G => ept_nil) (fun _ _ _ _ _ => blkE G fun G => (EvV.toE (ev_and (EvE.toV (ev_call G (ok__law_is_number E) (hr.mono (by decide)) (by rfl) E.d__law_is_number.m E.d__law_is_number.F.kp E.d__law_is_number.b (ea_cons (ev_name (i := 4) rfl (by first | exact .inl rfl | exact .inr (.inl rfl) | exact .inr (.inr rfl))) ea_nil))) (ev_one (EvE.toV (ev_chain (bLe) (cLe) (ev_nameO (i := 1) rfl (by first | exact .inl rfl | exact .inr (.inl rfl) | exact .inr (.inr rfl))) (ev_nameO (i := 4) rfl (by first | exact .inl rfl | exact .inr (.inl rfl) | exact .inr (.inr rfl))) (ev_nameO (i := 2) rfl (by first | exact .inl rfl | exact .inr (.inl rfl) | exact .inr (.inr rfl))))))))))))))))))))) (eb_one (es_ret (EvV.toE ev_bl))) eb_nil) (eb_cons
  (es_set (i := 3) G rfl (by first | exact .inl rfl | exact .inr rfl) (show (3 : Nat) ∉ ([] : List Nat) by decide) (EvV.toE ev_int)) (eb_cons
  (es_for G (passes_of rfl) (ei_seq G (ev_name (i := 0) rfl (by first | exact .inl rfl | exact .inr (.inl rfl) | exact .inr (.inr rfl)))) (eg_name (i := 4) G rfl (by first | exact .inl rfl | exact .inr rfl) (show (4 : Nat) ∉ ([] : List Nat) by decide)) (eb_cons
  (es_set (i := 3) G rfl (by first | exact .inl rfl | exact .inr rfl) (show (3 : Nat) ∉ ([] : List Nat) by decide) (ev_add G (ev_nameO (i := 3) rfl (by first | exact .inl rfl | exact .inr (.inl rfl) | exact .inr (.inr rfl))) (ev_nameO (i := 4) rfl (by first | exact .inl rfl | exact .inr (.inl rfl) | exact .inr (.inr rfl))))) (eb_one (es_if (et_cmp (cLt) (ev_nameO (i := 3) rfl (by first | exact .inl rfl | exact .inr (.inl rfl) | exact .inr (.inr rfl))) (EvV.toO ev_int)) (eb_one (es_ret (EvV.toE ev_bl))) eb_nil)))) (eb_one (es_ret (ev_cmp (cEq G hr) (ev_nameO (i := 3) rfl (by first | exact .inl rfl | exact .inr (.inl rfl) | exact .inr (.inr rfl))) (EvV.toO ev_int)))))))
abbrev cp_goes_back_1 : En → R (D × Nat) := (comp (seqI' ((nmV 0))) (nameG 3) (yesT) ((eOfV ((vOfE (callF 1 (F_is_integer) (aCons ((nmV 3)) aNil)))))) 0 [3])
abbrev lb_goes_back_1 : En → SR := (seqS
  (augS iaddD 2 ((nmV 3))) (iteS (orT (tst (op2 (cmpD fun i j => decide (i < j)) (nmO 2) (oOfV (kI 0)))) (orT (tst (op2 (cmpD fun i j => decide (i < j)) (nmO 3) (oOfV ((vOfE (op1 negD (oOfV (kI 1)))))))) (tst (op2 (cmpD fun i j => decide (j < i)) (nmO 3) (nmO 1))))) (retS ((eOfV (kB false)))) passS))
abbrev g_goes_back_1 : En → SR := (iteS (orT (notT (tru (oOfV ((vOfE (op1 (isiD "tuple") (nmO 0))))))) (orT (tst (op2 (cmpD fun i j => decide (j < i)) (oOfV ((vOfE (op1 lenD (nmO 0))))) (oOfV (kI 12)))) (notT (tru (oOfV ((vOfE (op1 allD (oOfV ((vOfE cp_goes_back_1))))))))))) (retS ((eOfV (kB false)))) passS)
abbrev g_goes_back_2 : En → SR := (setS 2 ((eOfV (kI 0))))
abbrev g_goes_back_3 : En → SR := (forS (seqI' ((nmV 0))) (nameG 3) lb_goes_back_1)
abbrev g_goes_back_4 : En → SR := (retS ((op2 eqD (nmO 2) (oOfV (kI 0)))))
def g_goes_back : En → SR := (seqS g_goes_back_1 (seqS g_goes_back_2 (seqS g_goes_back_3 g_goes_back_4)))
def F_goes_back : Sl → List D → FR := fnF 4 false g_goes_back
set_option maxRecDepth 100000 in
theorem ok_goes_back : FnV P w K mg base E.C 2 E.d_goes_back.f E.d_goes_back.fd ["value", "most"] false F_goes_back :=
  fnV_of E.d_goes_back.F sc_goes_back false [] rfl (fun h => nomatch h) fun cdv A outer s H X σ₀ hr G => by
    exact (eb_cons
  (es_if (EvW.t (ew_or (et_not (et_tru G (EvV.toO (EvE.toV (ev_isi G (T := "tuple") (by decide) (by decide +kernel) (by rfl) E.b_isinstance (by rfl) E.b_tuple (ev_nameO (i := 0) rfl (by first | exact .inl rfl | exact .inr (.inl rfl) | exact .inr (.inr rfl)))))))) (ew_or (et_cmp (cGt) (EvV.toO (EvE.toV (ev_len G (by rfl) E.b_len (ev_nameO (i := 0) rfl (by first | exact .inl rfl | exact .inr (.inl rfl) | exact .inr (.inr rfl)))))) (EvV.toO (ev_gint (by rfl) E.c_MOST_STEPS))) (ew_or1 (et_not (et_tru G (EvV.toO (EvE.toV (ev_all G (by rfl) E.b_all (EvV.toO (EvE.toV (ev_lc (own := [((PySem.Str.ofString "step"), 3)]) (vs := [3]) (ws := [3]) 0 G (ei_seq G (ev_name (i := 0) rfl (by first | exact .inl rfl | exact .inr (.inl rfl) | exact .inr (.inr rfl)))) (blkOk_by (by kernel_rfl)) rfl (by decide) (fun _ _ _ _ _ => blkG G fun G => (eg_name (i := 3) G rfl (by first | exact .inl rfl | exact .inr rfl) (show (3 : Nat) ∉ ([] : List Nat) by decide))) (fun _ _ _ _ _ => blkT G fun G => ept_nil) (fun _ _ _ _ _ => blkE G fun G => (EvV.toE (EvE.toV (ev_call G (ok_is_integer E) (hr.mono (by decide)) (by rfl) E.d_is_integer.m E.d_is_integer.F.kp E.d_is_integer.b (ea_cons (ev_name (i := 3) rfl (by first | exact .inl rfl | exact .inr (.inl rfl) | exact .inr (.inr rfl))) ea_nil))))))))))))))))) (eb_one (es_ret (EvV.toE ev_bl))) eb_nil) (eb_cons
  (es_set (i := 2) G rfl (by first | exact .inl rfl | exact .inr rfl) (show (2 : Nat) ∉ ([] : List Nat) by decide) (EvV.toE ev_int)) (eb_cons
  (es_for G (passes_of rfl) (ei_seq G (ev_name (i := 0) rfl (by first | exact .inl rfl | exact .inr (.inl rfl) | exact .inr (.inr rfl)))) (eg_name (i := 3) G rfl (by first | exact .inl rfl | exact .inr rfl) (show (3 : Nat) ∉ ([] : List Nat) by decide)) (eb_cons
  (es_iadd (i := 2) G rfl (by first | exact .inl rfl | exact .inr rfl) (show (2 : Nat) ∉ ([] : List Nat) by decide) (ev_name (i := 3) rfl (by first | exact .inl rfl | exact .inr (.inl rfl) | exact .inr (.inr rfl)))) (eb_one (es_if (EvW.t (ew_or (et_cmp (cLt) (ev_nameO (i := 2) rfl (by first | exact .inl rfl | exact .inr (.inl rfl) | exact .inr (.inr rfl))) (EvV.toO ev_int)) (ew_or (et_cmp (cLt) (ev_nameO (i := 3) rfl (by first | exact .inl rfl | exact .inr (.inl rfl) | exact .inr (.inr rfl))) (EvV.toO (EvE.toV (ev_neg (EvV.toO ev_int))))) (ew_or1 (et_cmp (cGt) (ev_nameO (i := 3) rfl (by first | exact .inl rfl | exact .inr (.inl rfl) | exact .inr (.inr rfl))) (ev_nameO (i := 1) rfl (by first | exact .inl rfl | exact .inr (.inl rfl) | exact .inr (.inr rfl)))))))) (eb_one (es_ret (EvV.toE ev_bl))) eb_nil)))) (eb_one (es_ret (ev_cmp (cEq G hr) (ev_nameO (i := 2) rfl (by first | exact .inl rfl | exact .inr (.inl rfl) | exact .inr (.inr rfl))) (EvV.toO ev_int)))))))
abbrev g_motzkin_paths_1 : En → SR := (exprS (callF 1 (F_check_count) (aCons ((nmV 0)) aNil)))
abbrev g_motzkin_paths_2 : En → SR := (iteS (tst (op2 (cmpD fun i j => decide (j < i)) (nmO 0) (oOfV (kI 9)))) (raiseR 2 (PySem.Str.ofString "reason") (PySem.Str.ofString "large")) passS)
abbrev g_motzkin_paths_3 : En → SR := (retS ((op1 tupD (oOfV ((vOfE (callF 2 (F_paths_to) (aCons ((nmV 0)) (aCons (kI 1) aNil)))))))))
def g_motzkin_paths : En → SR := (seqS g_motzkin_paths_1 (seqS g_motzkin_paths_2 g_motzkin_paths_3))
def F_motzkin_paths : Sl → List D → FR := fnF 1 false g_motzkin_paths
set_option maxRecDepth 100000 in
theorem ok_motzkin_paths : FnV P w K mg base E.C 3 E.d_motzkin_paths.f E.d_motzkin_paths.fd ["n"] false F_motzkin_paths :=
  fnV_of E.d_motzkin_paths.F sc_motzkin_paths false [] rfl (fun h => nomatch h) fun cdv A outer s H X σ₀ hr G => by
    exact (eb_cons
  (es_expr (ev_call G (ok_check_count E) (hr.mono (by decide)) (by rfl) E.d_check_count.m E.d_check_count.F.kp E.d_check_count.b (ea_cons (ev_name (i := 0) rfl (by first | exact .inl rfl | exact .inr (.inl rfl) | exact .inr (.inr rfl))) ea_nil))) (eb_cons
  (es_if (et_cmp (cGt) (ev_nameO (i := 0) rfl (by first | exact .inl rfl | exact .inr (.inl rfl) | exact .inr (.inr rfl))) (EvV.toO (ev_gint (by rfl) E.c_MOST_LISTED))) (eb_one (es_raiseR (c := 2) G E.x_Refused rfl (hr.mono (by decide)) (by rfl))) eb_nil) (eb_one (es_ret (ev_tuple G (by rfl) E.b_tuple (EvV.toO (EvE.toV (ev_call G (ok_paths_to E) (hr.mono (by decide)) (by rfl) E.d_paths_to.m E.d_paths_to.F.kp E.d_paths_to.b (ea_cons (ev_name (i := 0) rfl (by first | exact .inl rfl | exact .inr (.inl rfl) | exact .inr (.inr rfl))) (ea_cons ev_int ea_nil))))))))))
abbrev g_lukasiewicz_paths_1 : En → SR := (exprS (callF 1 (F_check_count) (aCons ((nmV 0)) aNil)))
abbrev g_lukasiewicz_paths_2 : En → SR := (iteS (tst (op2 (cmpD fun i j => decide (j < i)) (nmO 0) (oOfV (kI 9)))) (raiseR 2 (PySem.Str.ofString "reason") (PySem.Str.ofString "large")) passS)
abbrev g_lukasiewicz_paths_3 : En → SR := (retS ((op1 tupD (oOfV ((vOfE (callF 2 (F_paths_to) (aCons ((nmV 0)) (aCons (kI 12) aNil)))))))))
def g_lukasiewicz_paths : En → SR := (seqS g_lukasiewicz_paths_1 (seqS g_lukasiewicz_paths_2 g_lukasiewicz_paths_3))
def F_lukasiewicz_paths : Sl → List D → FR := fnF 1 false g_lukasiewicz_paths
set_option maxRecDepth 100000 in
theorem ok_lukasiewicz_paths : FnV P w K mg base E.C 3 E.d_lukasiewicz_paths.f E.d_lukasiewicz_paths.fd ["n"] false F_lukasiewicz_paths :=
  fnV_of E.d_lukasiewicz_paths.F sc_lukasiewicz_paths false [] rfl (fun h => nomatch h) fun cdv A outer s H X σ₀ hr G => by
    exact (eb_cons
  (es_expr (ev_call G (ok_check_count E) (hr.mono (by decide)) (by rfl) E.d_check_count.m E.d_check_count.F.kp E.d_check_count.b (ea_cons (ev_name (i := 0) rfl (by first | exact .inl rfl | exact .inr (.inl rfl) | exact .inr (.inr rfl))) ea_nil))) (eb_cons
  (es_if (et_cmp (cGt) (ev_nameO (i := 0) rfl (by first | exact .inl rfl | exact .inr (.inl rfl) | exact .inr (.inr rfl))) (EvV.toO (ev_gint (by rfl) E.c_MOST_LISTED))) (eb_one (es_raiseR (c := 2) G E.x_Refused rfl (hr.mono (by decide)) (by rfl))) eb_nil) (eb_one (es_ret (ev_tuple G (by rfl) E.b_tuple (EvV.toO (EvE.toV (ev_call G (ok_paths_to E) (hr.mono (by decide)) (by rfl) E.d_paths_to.m E.d_paths_to.F.kp E.d_paths_to.b (ea_cons (ev_name (i := 0) rfl (by first | exact .inl rfl | exact .inr (.inl rfl) | exact .inr (.inr rfl))) (ea_cons (ev_gint (by rfl) E.c_MOST_STEPS) ea_nil))))))))))
def g_is_motzkin_path : En → SR := (retS ((callF 2 (F_goes_back) (aCons ((nmV 0)) (aCons (kI 1) aNil)))))
def F_is_motzkin_path : Sl → List D → FR := fnF 1 false g_is_motzkin_path
set_option maxRecDepth 100000 in
theorem ok_is_motzkin_path : FnV P w K mg base E.C 3 E.d_is_motzkin_path.f E.d_is_motzkin_path.fd ["value"] false F_is_motzkin_path :=
  fnV_of E.d_is_motzkin_path.F sc_is_motzkin_path false [] rfl (fun h => nomatch h) fun cdv A outer s H X σ₀ hr G => by
    exact (eb_one (es_ret (ev_call G (ok_goes_back E) (hr.mono (by decide)) (by rfl) E.d_goes_back.m E.d_goes_back.F.kp E.d_goes_back.b (ea_cons (ev_name (i := 0) rfl (by first | exact .inl rfl | exact .inr (.inl rfl) | exact .inr (.inr rfl))) (ea_cons ev_int ea_nil)))))
def g_is_lukasiewicz_path : En → SR := (retS ((callF 2 (F_goes_back) (aCons ((nmV 0)) (aCons (kI 12) aNil)))))
def F_is_lukasiewicz_path : Sl → List D → FR := fnF 1 false g_is_lukasiewicz_path
set_option maxRecDepth 100000 in
theorem ok_is_lukasiewicz_path : FnV P w K mg base E.C 3 E.d_is_lukasiewicz_path.f E.d_is_lukasiewicz_path.fd ["value"] false F_is_lukasiewicz_path :=
  fnV_of E.d_is_lukasiewicz_path.F sc_is_lukasiewicz_path false [] rfl (fun h => nomatch h) fun cdv A outer s H X σ₀ hr G => by
    exact (eb_one (es_ret (ev_call G (ok_goes_back E) (hr.mono (by decide)) (by rfl) E.d_goes_back.m E.d_goes_back.F.kp E.d_goes_back.b (ea_cons (ev_name (i := 0) rfl (by first | exact .inl rfl | exact .inr (.inl rfl) | exact .inr (.inr rfl))) (ea_cons (ev_gint (by rfl) E.c_MOST_STEPS) ea_nil)))))
abbrev g__law_bent_1 (rec : Sl → List D → FR) : En → SR := (iteS (andT (tru (oOfV ((vOfE (op1 (isiD "tuple") (nmO 1)))))) (andT (tst (op2 (cmpD fun i j => decide (j < i)) (oOfV ((vOfE (op1 lenD (nmO 1))))) (oOfV (kI 0)))) (orT (tst (op2 eqD (nmO 2) (oOfV (kI 0)))) (tst (op2 (cmpD fun i j => decide (j < i)) (oOfV ((vOfE (callI 2 (F__law_take) 0 (aCons (kI 5) aNil))))) (oOfV (kI 0))))))) (seqS
  (setS 3 ((callI 2 (F__law_take) 0 (aCons ((vOfE (op1 lenD (nmO 1)))) aNil)))) (retS ((op2 addD (oOfV ((vOfE (op2 addD (oOfV ((vOfE (opS (nmO 1) pNone (pSome ((nmV 3))))))) (oOfV ((tupE (aCons ((vOfE (callI 3 (rec) 0 (aCons ((vOfE (op2 idxD (nmO 1) (nmO 3)))) (aCons ((vOfE (op2 addD (nmO 2) (oOfV (kI 1))))) aNil))))) aNil)))))))) (oOfV ((vOfE (opS (nmO 1) (pSome ((vOfE (op2 addD (nmO 3) (oOfV (kI 1)))))) pNone)))))))) passS)
abbrev g__law_bent_2 (rec : Sl → List D → FR) : En → SR := (iteS (tru (oOfV ((vOfE (callF 1 (F__law_is_number) (aCons ((nmV 1)) aNil)))))) (retS ((op2 idxD (oOfV ((vOfE (lstE (aCons ((vOfE (op2 addD (nmO 1) (oOfV (kI 1))))) (aCons ((vOfE (op2 subD (nmO 1) (oOfV (kI 1))))) (aCons ((vOfE (op1 negD (nmO 1)))) (aCons (kN) (aCons (kB true) (aCons ((vOfE (op1 strD (nmO 1)))) (aCons ((tupE (aCons ((nmV 1)) aNil))) aNil))))))))))) (oOfV ((vOfE (callI 2 (F__law_take) 0 (aCons (kI 7) aNil)))))))) passS)
abbrev g__law_bent_3 (rec : Sl → List D → FR) : En → SR := (iteS (tru (oOfV ((vOfE (op1 (isiD "tuple") (nmO 1)))))) (retS ((op2 idxD (oOfV ((vOfE (lstE (aCons ((vOfE (op2 addD (nmO 1) (oOfV ((tupE (aCons (kI 0) aNil))))))) (aCons ((vOfE (op1 lisD (nmO 1)))) (aCons (kN) (aCons ((vOfE (opS (nmO 1) pNone (pSome ((vOfE (op1 negD (oOfV (kI 1))))))))) (aCons ((vOfE (op2 addD (nmO 1) (nmO 1)))) (aCons ((vOfE (op2 addD (oOfV ((tupE (aCons ((tupE aNil)) aNil)))) (nmO 1)))) aNil)))))))))) (oOfV ((vOfE (callI 2 (F__law_take) 0 (aCons (kI 6) aNil)))))))) passS)
abbrev g__law_bent_4 (rec : Sl → List D → FR) : En → SR := (retS ((op2 idxD (oOfV ((vOfE (lstE (aCons (kN) (aCons (kS (PySem.Str.ofString "")) (aCons (kS (PySem.Str.ofString "a")) (aCons (kI 0) (aCons ((tupE (aCons (kS (PySem.Str.ofString "over")) aNil))) aNil))))))))) (oOfV ((vOfE (callI 2 (F__law_take) 0 (aCons (kI 5) aNil))))))))
def g__law_bent (rec : Sl → List D → FR) : En → SR := (seqS (g__law_bent_1 rec) (seqS (g__law_bent_2 rec) (seqS (g__law_bent_3 rec) (g__law_bent_4 rec))))
def F__law_bent : Nat → Sl → List D → FR
  | 0 => fun _ _ => .no
  | k + 1 => fnF 4 true (g__law_bent (F__law_bent k))
set_option maxRecDepth 100000 in
theorem ok__law_bent : ∀ kk : Nat, FnV P w K mg base E.C (2 + kk) E.d__law_bent.f E.d__law_bent.fd ["state", "value", "deep"] true (F__law_bent kk)
  | 0 => fnV_no
  | kk + 1 => fnV_of E.d__law_bent.F sc__law_bent true [0] rfl (fun _ => ⟨by decide, by decide⟩) fun cdv A outer s H X σ₀ hr G => by
    exact (eb_cons
  (es_if (EvW.t (ew_and (et_tru G (EvV.toO (EvE.toV (ev_isi G (T := "tuple") (by decide) (by decide +kernel) (by rfl) E.b_isinstance (by rfl) E.b_tuple (ev_nameO (i := 1) rfl (by first | exact .inl rfl | exact .inr (.inl rfl) | exact .inr (.inr rfl))))))) (ew_and (et_cmp (cGt) (EvV.toO (EvE.toV (ev_len G (by rfl) E.b_len (ev_nameO (i := 1) rfl (by first | exact .inl rfl | exact .inr (.inl rfl) | exact .inr (.inr rfl)))))) (EvV.toO ev_int)) (ew_and1 (EvW.t (ew_or (et_cmp (cEq G hr) (ev_nameO (i := 2) rfl (by first | exact .inl rfl | exact .inr (.inl rfl) | exact .inr (.inr rfl))) (EvV.toO ev_int)) (ew_or1 (et_cmp (cGt) (EvV.toO (EvE.toV (ev_callI G (ok__law_take E) (hr.mono (Nat.le_trans (m := 2) (by decide) (Nat.le_add_right 2 kk))) (by rfl) E.d__law_take.m E.d__law_take.F.kp E.d__law_take.b (i := 0) rfl (by first | exact .inl rfl | exact .inr (.inl rfl) | exact .inr (.inr rfl)) (ea_cons ev_int ea_nil)))) (EvV.toO ev_int))))))))) (eb_cons
  (es_set (i := 3) G rfl (by first | exact .inl rfl | exact .inr rfl) (show (3 : Nat) ∉ ([0] : List Nat) by decide) (ev_callI G (ok__law_take E) (hr.mono (Nat.le_trans (m := 2) (by decide) (Nat.le_add_right 2 kk))) (by rfl) E.d__law_take.m E.d__law_take.F.kp E.d__law_take.b (i := 0) rfl (by first | exact .inl rfl | exact .inr (.inl rfl) | exact .inr (.inr rfl)) (ea_cons (EvE.toV (ev_len G (by rfl) E.b_len (ev_nameO (i := 1) rfl (by first | exact .inl rfl | exact .inr (.inl rfl) | exact .inr (.inr rfl))))) ea_nil))) (eb_one (es_ret (ev_add G (EvV.toO (EvE.toV (ev_add G (EvV.toO (EvE.toV (ev_slice G (ev_nameO (i := 1) rfl (by first | exact .inl rfl | exact .inr (.inl rfl) | exact .inr (.inr rfl))) ep_none (ep_some (ev_name (i := 3) rfl (by first | exact .inl rfl | exact .inr (.inl rfl) | exact .inr (.inr rfl))))))) (EvV.toO (ev_tup (ea_cons (EvE.toV (ev_callI G (ok__law_bent kk) hr (by rfl) E.d__law_bent.m E.d__law_bent.F.kp E.d__law_bent.b (i := 0) rfl (by first | exact .inl rfl | exact .inr (.inl rfl) | exact .inr (.inr rfl)) (ea_cons (EvE.toV (ev_idx G hr (ev_nameO (i := 1) rfl (by first | exact .inl rfl | exact .inr (.inl rfl) | exact .inr (.inr rfl))) (ev_nameO (i := 3) rfl (by first | exact .inl rfl | exact .inr (.inl rfl) | exact .inr (.inr rfl))))) (ea_cons (EvE.toV (ev_add G (ev_nameO (i := 2) rfl (by first | exact .inl rfl | exact .inr (.inl rfl) | exact .inr (.inr rfl))) (EvV.toO ev_int))) ea_nil)))) ea_nil)))))) (EvV.toO (EvE.toV (ev_slice G (ev_nameO (i := 1) rfl (by first | exact .inl rfl | exact .inr (.inl rfl) | exact .inr (.inr rfl))) (ep_some (EvE.toV (ev_add G (ev_nameO (i := 3) rfl (by first | exact .inl rfl | exact .inr (.inl rfl) | exact .inr (.inr rfl))) (EvV.toO ev_int)))) ep_none))))))) eb_nil) (eb_cons
  (es_if (et_tru G (EvV.toO (EvE.toV (ev_call G (ok__law_is_number E) (hr.mono (Nat.le_trans (m := 2) (by decide) (Nat.le_add_right 2 kk))) (by rfl) E.d__law_is_number.m E.d__law_is_number.F.kp E.d__law_is_number.b (ea_cons (ev_name (i := 1) rfl (by first | exact .inl rfl | exact .inr (.inl rfl) | exact .inr (.inr rfl))) ea_nil))))) (eb_one (es_ret (ev_idx G hr (EvV.toO (EvE.toV (ev_lst (ea_cons (EvE.toV (ev_add G (ev_nameO (i := 1) rfl (by first | exact .inl rfl | exact .inr (.inl rfl) | exact .inr (.inr rfl))) (EvV.toO ev_int))) (ea_cons (EvE.toV (ev_sub (ev_nameO (i := 1) rfl (by first | exact .inl rfl | exact .inr (.inl rfl) | exact .inr (.inr rfl))) (EvV.toO ev_int))) (ea_cons (EvE.toV (ev_neg (ev_nameO (i := 1) rfl (by first | exact .inl rfl | exact .inr (.inl rfl) | exact .inr (.inr rfl))))) (ea_cons ev_non (ea_cons ev_bl (ea_cons (EvE.toV (ev_str1 (by rfl) E.b_str (ev_nameO (i := 1) rfl (by first | exact .inl rfl | exact .inr (.inl rfl) | exact .inr (.inr rfl))))) (ea_cons (ev_tup (ea_cons (ev_name (i := 1) rfl (by first | exact .inl rfl | exact .inr (.inl rfl) | exact .inr (.inr rfl))) ea_nil)) ea_nil)))))))))) (EvV.toO (EvE.toV (ev_callI G (ok__law_take E) (hr.mono (Nat.le_trans (m := 2) (by decide) (Nat.le_add_right 2 kk))) (by rfl) E.d__law_take.m E.d__law_take.F.kp E.d__law_take.b (i := 0) rfl (by first | exact .inl rfl | exact .inr (.inl rfl) | exact .inr (.inr rfl)) (ea_cons ev_int ea_nil))))))) eb_nil) (eb_cons
  (es_if (et_tru G (EvV.toO (EvE.toV (ev_isi G (T := "tuple") (by decide) (by decide +kernel) (by rfl) E.b_isinstance (by rfl) E.b_tuple (ev_nameO (i := 1) rfl (by first | exact .inl rfl | exact .inr (.inl rfl) | exact .inr (.inr rfl))))))) (eb_one (es_ret (ev_idx G hr (EvV.toO (EvE.toV (ev_lst (ea_cons (EvE.toV (ev_add G (ev_nameO (i := 1) rfl (by first | exact .inl rfl | exact .inr (.inl rfl) | exact .inr (.inr rfl))) (EvV.toO (ev_tup (ea_cons ev_int ea_nil))))) (ea_cons (EvE.toV (ev_list G (by rfl) E.b_list (ev_nameO (i := 1) rfl (by first | exact .inl rfl | exact .inr (.inl rfl) | exact .inr (.inr rfl))))) (ea_cons ev_non (ea_cons (EvE.toV (ev_slice G (ev_nameO (i := 1) rfl (by first | exact .inl rfl | exact .inr (.inl rfl) | exact .inr (.inr rfl))) ep_none (ep_some (EvE.toV (ev_neg (EvV.toO ev_int)))))) (ea_cons (EvE.toV (ev_add G (ev_nameO (i := 1) rfl (by first | exact .inl rfl | exact .inr (.inl rfl) | exact .inr (.inr rfl))) (ev_nameO (i := 1) rfl (by first | exact .inl rfl | exact .inr (.inl rfl) | exact .inr (.inr rfl))))) (ea_cons (EvE.toV (ev_add G (EvV.toO (ev_tup (ea_cons (ev_tup ea_nil) ea_nil))) (ev_nameO (i := 1) rfl (by first | exact .inl rfl | exact .inr (.inl rfl) | exact .inr (.inr rfl))))) ea_nil))))))))) (EvV.toO (EvE.toV (ev_callI G (ok__law_take E) (hr.mono (Nat.le_trans (m := 2) (by decide) (Nat.le_add_right 2 kk))) (by rfl) E.d__law_take.m E.d__law_take.F.kp E.d__law_take.b (i := 0) rfl (by first | exact .inl rfl | exact .inr (.inl rfl) | exact .inr (.inr rfl)) (ea_cons ev_int ea_nil))))))) eb_nil) (eb_one (es_ret (ev_idx G hr (EvV.toO (EvE.toV (ev_lst (ea_cons ev_non (ea_cons ev_str (ea_cons ev_str (ea_cons ev_int (ea_cons (ev_tup (ea_cons ev_str ea_nil)) ea_nil)))))))) (EvV.toO (EvE.toV (ev_callI G (ok__law_take E) (hr.mono (Nat.le_trans (m := 2) (by decide) (Nat.le_add_right 2 kk))) (by rfl) E.d__law_take.m E.d__law_take.F.kp E.d__law_take.b (i := 0) rfl (by first | exact .inl rfl | exact .inr (.inl rfl) | exact .inr (.inr rfl)) (ea_cons ev_int ea_nil))))))))))
abbrev cp__law_inner_1 (rec : Sl → List D → FR) : En → R (D × Nat) := (comp (seqI' ((nmV 0))) (nameG 1) (yesT) ((eOfV ((vOfE (callF 1 (rec) (aCons ((nmV 1)) aNil)))))) 0 [1])
abbrev g__law_inner_1 (rec : Sl → List D → FR) : En → SR := (iteS (tru (oOfV ((vOfE (op1 (isiD "tuple") (nmO 0)))))) (retS ((op1 tupD (oOfV ((vOfE (cp__law_inner_1 rec))))))) passS)
abbrev g__law_inner_2 (rec : Sl → List D → FR) : En → SR := (iteS (orT (tst (op2 isD (nmO 0) (oOfV (kN)))) (orT (tru (oOfV ((vOfE (op1 (isiD "str") (nmO 0)))))) (andT (tru (oOfV ((vOfE (op1 (isiD "int") (nmO 0)))))) (notT (tru (oOfV ((vOfE (op1 (isiD "bool") (nmO 0)))))))))) (retM 0) passS)
abbrev g__law_inner_3 (rec : Sl → List D → FR) : En → SR := (retS ((eOfV (kS (PySem.Str.ofString "odd")))))
def g__law_inner (rec : Sl → List D → FR) : En → SR := (seqS (g__law_inner_1 rec) (seqS (g__law_inner_2 rec) (g__law_inner_3 rec)))
def F__law_inner : Nat → Sl → List D → FR
  | 0 => fun _ _ => .no
  | k + 1 => fnF 2 false (g__law_inner (F__law_inner k))
set_option maxRecDepth 100000 in
theorem ok__law_inner : ∀ kk : Nat, FnV P w K mg base E.C (1 + kk) E.d__law_inner.f E.d__law_inner.fd ["value"] false (F__law_inner kk)
  | 0 => fnV_no
  | kk + 1 => fnV_of E.d__law_inner.F sc__law_inner false [] rfl (fun h => nomatch h) fun cdv A outer s H X σ₀ hr G => by
    exact (eb_cons
  (es_if (et_tru G (EvV.toO (EvE.toV (ev_isi G (T := "tuple") (by decide) (by decide +kernel) (by rfl) E.b_isinstance (by rfl) E.b_tuple (ev_nameO (i := 0) rfl (by first | exact .inl rfl | exact .inr (.inl rfl) | exact .inr (.inr rfl))))))) (eb_one (es_ret (ev_tuple G (by rfl) E.b_tuple (EvV.toO (EvE.toV (ev_lc (own := [((PySem.Str.ofString "item"), 1)]) (vs := [1]) (ws := [1]) 0 G (ei_seq G (ev_name (i := 0) rfl (by first | exact .inl rfl | exact .inr (.inl rfl) | exact .inr (.inr rfl)))) (blkOk_by (by kernel_rfl)) rfl (by decide) (fun _ _ _ _ _ => blkG G fun G => (eg_name (i := 1) G rfl (by first | exact .inl rfl | exact .inr rfl) (show (1 : Nat) ∉ ([] : List Nat) by decide))) (fun _ _ _ _ _ => blkT G fun G => ept_nil) (fun _ _ _ _ _ => blkE G fun G => (EvV.toE (EvE.toV (ev_call G (ok__law_inner kk) hr (by rfl) E.d__law_inner.m E.d__law_inner.F.kp E.d__law_inner.b (ea_cons (ev_name (i := 1) rfl (by first | exact .inl rfl | exact .inr (.inl rfl) | exact .inr (.inr rfl))) ea_nil))))))))))) eb_nil) (eb_cons
  (es_if (EvW.t (ew_or (et_cmp (cIs) (ev_nameO (i := 0) rfl (by first | exact .inl rfl | exact .inr (.inl rfl) | exact .inr (.inr rfl))) (EvV.toO ev_non)) (ew_or (et_tru G (EvV.toO (EvE.toV (ev_isi G (T := "str") (by decide) (by decide +kernel) (by rfl) E.b_isinstance (by rfl) E.b_str (ev_nameO (i := 0) rfl (by first | exact .inl rfl | exact .inr (.inl rfl) | exact .inr (.inr rfl))))))) (ew_or1 (EvW.t (ew_and (et_tru G (EvV.toO (EvE.toV (ev_isi G (T := "int") (by decide) (by decide +kernel) (by rfl) E.b_isinstance (by rfl) E.b_int (ev_nameO (i := 0) rfl (by first | exact .inl rfl | exact .inr (.inl rfl) | exact .inr (.inr rfl))))))) (ew_and1 (et_not (et_tru G (EvV.toO (EvE.toV (ev_isi G (T := "bool") (by decide) (by decide +kernel) (by rfl) E.b_isinstance (by rfl) E.b_bool (ev_nameO (i := 0) rfl (by first | exact .inl rfl | exact .inr (.inl rfl) | exact .inr (.inr rfl))))))))))))))) (eb_one (es_retM (i := 0) rfl (by first | exact .inl rfl | exact .inr (.inl rfl) | exact .inr (.inr rfl)))) eb_nil) (eb_one (es_ret (EvV.toE ev_str)))))
def g__law_plain : En → SR := (retS ((iteE ((tru (oOfV ((vOfE (op1 (isiD "str") (nmO 0))))))) ((eOfV (kS (PySem.Str.ofString "odd")))) ((callF 1 (F__law_inner 6) (aCons ((nmV 0)) aNil))))))
def F__law_plain : Sl → List D → FR := fnF 1 false g__law_plain
set_option maxRecDepth 100000 in
theorem ok__law_plain : FnV P w K mg base E.C 8 E.d__law_plain.f E.d__law_plain.fd ["value"] false F__law_plain :=
  fnV_of E.d__law_plain.F sc__law_plain false [] rfl (fun h => nomatch h) fun cdv A outer s H X σ₀ hr G => by
    exact (eb_one (es_ret (ev_ite (et_tru G (EvV.toO (EvE.toV (ev_isi G (T := "str") (by decide) (by decide +kernel) (by rfl) E.b_isinstance (by rfl) E.b_str (ev_nameO (i := 0) rfl (by first | exact .inl rfl | exact .inr (.inl rfl) | exact .inr (.inr rfl))))))) (EvV.toE ev_str) (ev_call G (ok__law_inner E 6) (hr.mono (by decide)) (by rfl) E.d__law_inner.m E.d__law_inner.F.kp E.d__law_inner.b (ea_cons (ev_name (i := 0) rfl (by first | exact .inl rfl | exact .inr (.inl rfl) | exact .inr (.inr rfl))) ea_nil)))))
def g__law_told : En → SR := (tryS2 [0, 1] 1 (retS ((eOfV ((tupE (aCons (kS (PySem.Str.ofString "raised")) (aCons (kS (PySem.Str.ofString "malformed")) aNil))))))) 2 (PySem.Str.ofString "reason") (PySem.Str.ofString "raised") (retS ((callF 1 (F__law_plain) (aCons ((vOfE (iteE ((tst (op2 eqD (nmO 0) (oOfV (kI 0))))) ((callF 1 (F_motzkin_paths) (aCons ((nmV 1)) aNil))) ((callF 1 (F_lukasiewicz_paths) (aCons ((nmV 1)) aNil)))))) aNil)))))
def F__law_told : Sl → List D → FR := fnF 3 false g__law_told
set_option maxRecDepth 100000 in
theorem ok__law_told : FnV P w K mg base E.C 9 E.d__law_told.f E.d__law_told.fd ["which", "n"] false F__law_told :=
  fnV_of E.d__law_told.F sc__law_told false [0, 1] rfl (fun h => nomatch h) fun cdv A outer s H X σ₀ hr G => by
    exact (eb_one (es_try2 (c1 := 1) (c2 := 2) (i := 2) G E.x_Refused rfl rfl (List.cons_ne_nil _ _) (fun _ _ _ tk po => by have G := G.tryG tk; exact (eb_one (es_ret (ev_call G (ok__law_plain E) (hr.mono (by decide)) (by rfl) E.d__law_plain.m E.d__law_plain.F.kp E.d__law_plain.b (ea_cons (EvE.toV (ev_ite (et_cmp (cEq G hr) (ev_nameO (i := 0) rfl (by first | exact .inl rfl | exact .inr (.inl rfl) | exact .inr (.inr rfl))) (EvV.toO ev_int)) (ev_call G (ok_motzkin_paths E) (hr.mono (by decide)) (by rfl) E.d_motzkin_paths.m E.d_motzkin_paths.F.kp E.d_motzkin_paths.b (ea_cons (ev_name (i := 1) rfl (by first | exact .inl rfl | exact .inr (.inl rfl) | exact .inr (.inr rfl))) ea_nil)) (ev_call G (ok_lukasiewicz_paths E) (hr.mono (by decide)) (by rfl) E.d_lukasiewicz_paths.m E.d_lukasiewicz_paths.F.kp E.d_lukasiewicz_paths.b (ea_cons (ev_name (i := 1) rfl (by first | exact .inl rfl | exact .inr (.inl rfl) | exact .inr (.inr rfl))) ea_nil)))) ea_nil))))) (by rfl) E.x_Malformed.m rfl E.x_Malformed.e (fun _ _ _ => (eb_one (es_ret (EvV.toE (ev_tup (ea_cons ev_str (ea_cons ev_str ea_nil))))))) (by rfl) rfl E.x_Refused.e (E.x_Malformed.no E.n_Refused_Malformed) rfl rfl))
abbrev cp_law_1 : En → R (D × Nat) := (comp (rg2 (aCons (kI 1) (aCons ((vOfE (op1 lenD (nmO 10)))) aNil))) (nameG 14) (yesT) ((eOfV ((vOfE (op2 ltTD (oOfV ((vOfE (op2 idxD (nmO 10) (oOfV ((vOfE (op2 subD (nmO 14) (oOfV (kI 1)))))))))) (oOfV ((vOfE (op2 idxD (nmO 10) (nmO 14)))))))))) 0 [14])
abbrev cp_law_2 : En → R (D × Nat) := (comp (rg2 (aCons (kI 1) (aCons ((vOfE (op1 lenD (nmO 11)))) aNil))) (nameG 14) (yesT) ((eOfV ((vOfE (op2 ltTD (oOfV ((vOfE (op2 idxD (nmO 11) (oOfV ((vOfE (op2 subD (nmO 14) (oOfV (kI 1)))))))))) (oOfV ((vOfE (op2 idxD (nmO 11) (nmO 14)))))))))) 0 [14])
abbrev lb_law_1 : En → SR := (iteS (orT (notT (tru (oOfV ((vOfE (callF 3 (F__law_is_path) (aCons ((vOfE (op2 idxD (nmO 10) (oOfV ((vOfE (callI 2 (F__law_take) 1 (aCons ((vOfE (op1 lenD (nmO 10)))) aNil)))))))) (aCons ((vOfE (op1 negD (oOfV (kI 1))))) (aCons (kI 1) aNil))))))))) (notT (tru (oOfV ((vOfE (callF 3 (F__law_is_path) (aCons ((vOfE (op2 idxD (nmO 11) (oOfV ((vOfE (callI 2 (F__law_take) 1 (aCons ((vOfE (op1 lenD (nmO 11)))) aNil)))))))) (aCons ((vOfE (op1 negD (oOfV (kI 1))))) (aCons (kI 12) aNil)))))))))) (retS ((eOfV (kB false)))) passS)
abbrev cp_law_3 : En → R (D × Nat) := (comp (rg1 (aCons (kI 4) aNil)) (nameG 5) (yesT) ((eOfV ((vOfE (callI 3 (F__law_bent 4) 1 (aCons ((nmV 6)) (aCons (kI 0) aNil))))))) 0 [5])
abbrev cp_law_4 : En → R (D × Nat) := (comp (rg1 (aCons (kI 4) aNil)) (nameG 5) (yesT) ((eOfV ((vOfE (callI 3 (F__law_bent 4) 1 (aCons ((nmV 7)) (aCons (kI 0) aNil))))))) 0 [5])
abbrev lb_law_2 : En → SR := (iteS (orT (notT (tru (oOfV ((vOfE (callF 2 (F__law_says) (aCons ((vOfE (callF 1 (F_is_motzkin_path) (aCons ((nmV 9)) aNil)))) (aCons ((vOfE (callF 3 (F__law_is_path) (aCons ((nmV 9)) (aCons ((vOfE (op1 negD (oOfV (kI 1))))) (aCons (kI 1) aNil)))))) aNil)))))))) (notT (tru (oOfV ((vOfE (callF 2 (F__law_says) (aCons ((vOfE (callF 1 (F_is_lukasiewicz_path) (aCons ((nmV 9)) aNil)))) (aCons ((vOfE (callF 3 (F__law_is_path) (aCons ((nmV 9)) (aCons ((vOfE (op1 negD (oOfV (kI 1))))) (aCons (kI 12) aNil)))))) aNil))))))))) (retS ((eOfV (kB false)))) passS)
abbrev cp_law_5 : En → R (D × Nat) := (comp (seqI' ((tupE (aCons (kI 0) (aCons (kI 1) aNil))))) (nameG 12) (yesT) ((eOfV ((vOfE (callF 2 (F__law_told) (aCons ((nmV 12)) (aCons (kI 10) aNil))))))) 0 [12])
abbrev cp_law_6 : En → R (D × Nat) := (comp (seqI' ((tupE (aCons (kI 0) (aCons (kI 1) aNil))))) (nameG 12) (yesT) ((eOfV ((vOfE (callF 2 (F__law_told) (aCons ((nmV 12)) (aCons ((nmV 13)) aNil))))))) 0 [12])
abbrev cp_law_7 : En → R (D × Nat) := (comp (seqI' ((vOfE (lstE (aCons ((vOfE (op1 negD (oOfV (kI 1))))) (aCons (kI 13) (aCons (kN) (aCons (kB true) (aCons (kS (PySem.Str.ofString "2")) aNil))))))))) (nameG 13) (yesT) ((eOfV ((vOfE cp_law_6)))) 0 [13])
abbrev g_law_1 : En → SR := (setS 1 ((callF 1 (F__law_state) (aCons ((nmV 0)) aNil))))
abbrev g_law_2 : En → SR := (setS 2 ((callI 2 (F__law_take) 1 (aCons (kI 8) aNil))))
abbrev g_law_3 : En → SR := (iteS (orT (tst (op2 neD (oOfV ((vOfE (callF 2 (F__law_told) (aCons (kI 0) (aCons ((nmV 2)) aNil)))))) (oOfV ((vOfE (op1 tupD (oOfV ((vOfE (callF 3 (F__law_paths) (aCons ((nmV 2)) (aCons (kI 1) (aCons ((vOfE (op1 negD (oOfV (kI 1))))) aNil))))))))))))) (tst (op2 neD (oOfV ((vOfE (callF 2 (F__law_told) (aCons (kI 1) (aCons ((nmV 2)) aNil)))))) (oOfV ((vOfE (op1 tupD (oOfV ((vOfE (callF 3 (F__law_paths) (aCons ((nmV 2)) (aCons ((nmV 2)) (aCons ((vOfE (op1 negD (oOfV (kI 1))))) aNil)))))))))))))) (retS ((eOfV (kB false)))) passS)
abbrev g_law_4 : En → SR := (setS 3 ((op2 addD (oOfV (kI 8)) (oOfV ((vOfE (callI 2 (F__law_take) 1 (aCons (kI 2) aNil))))))))
abbrev g_law_5 : En → SR := (setS 4 ((lstE (aCons (kI 1) (aCons (kI 1) (aCons (kI 2) (aCons (kI 4) (aCons (kI 9) (aCons (kI 21) (aCons (kI 51) (aCons (kI 127) (aCons (kI 323) (aCons (kI 835) aNil)))))))))))))
abbrev g_law_6 : En → SR := (asgS (tupG 2 (consG (nameG 10) (consG (nameG 11) nilG))) ((tupE (aCons ((vOfE (callF 2 (F__law_told) (aCons (kI 0) (aCons ((nmV 3)) aNil))))) (aCons ((vOfE (callF 2 (F__law_told) (aCons (kI 1) (aCons ((nmV 3)) aNil))))) aNil)))))
abbrev g_law_7 : En → SR := (iteS (orT (tst (op2 neD (oOfV ((vOfE (op1 lenD (nmO 10))))) (oOfV ((vOfE (op2 idxD (nmO 4) (nmO 3))))))) (tst (op2 neD (oOfV ((vOfE (op1 lenD (nmO 11))))) (oOfV ((vOfE (op2 fdivD (oOfV ((vOfE (callF 2 (F__law_chosen) (aCons ((vOfE (op2 mulD (oOfV (kI 2)) (nmO 3)))) (aCons ((nmV 3)) aNil)))))) (oOfV ((vOfE (op2 addD (nmO 3) (oOfV (kI 1))))))))))))) (retS ((eOfV (kB false)))) passS)
abbrev g_law_8 : En → SR := (iteS (orT (notT (tru (oOfV ((vOfE (op1 allD (oOfV ((vOfE cp_law_1))))))))) (notT (tru (oOfV ((vOfE (op1 allD (oOfV ((vOfE cp_law_2)))))))))) (retS ((eOfV (kB false)))) passS)
abbrev g_law_9 : En → SR := (forS (rg1 (aCons (kI 30) aNil)) (nameG 5) lb_law_1)
abbrev g_law_10 : En → SR := (setS 6 ((callI 2 (F__law_drawn_path) 1 (aCons ((vOfE (callI 2 (F__law_take) 1 (aCons (kI 13) aNil)))) aNil))))
abbrev g_law_11 : En → SR := (setS 7 ((op2 idxD (nmO 11) (oOfV ((vOfE (callI 2 (F__law_take) 1 (aCons ((vOfE (op1 lenD (nmO 11)))) aNil))))))))
abbrev g_law_12 : En → SR := (setS 8 ((lstE (aCons ((nmV 6)) (aCons ((vOfE (op1 revD (nmO 6)))) (aCons ((vOfE (op2 addD (nmO 6) (oOfV ((tupE (aCons (kI 0) aNil))))))) (aCons ((vOfE (op2 addD (nmO 6) (oOfV ((tupE (aCons (kI 1) (aCons ((vOfE (op1 negD (oOfV (kI 1))))) aNil)))))))) (aCons ((vOfE (op2 addD (nmO 6) (oOfV ((tupE (aCons ((vOfE (op1 negD (oOfV (kI 1))))) (aCons (kI 1) aNil)))))))) (aCons ((vOfE (op1 lisD (nmO 6)))) (aCons ((nmV 7)) (aCons ((vOfE (op1 revD (nmO 7)))) (aCons ((vOfE (op2 addD (nmO 7) (oOfV ((tupE (aCons (kI 11) aNil))))))) (aCons ((vOfE (op2 repD (oOfV ((tupE (aCons (kI 0) aNil)))) (oOfV (kI 12))))) (aCons ((vOfE (op2 repD (oOfV ((tupE (aCons (kI 0) aNil)))) (oOfV (kI 13))))) aNil))))))))))))))
abbrev g_law_13 : En → SR := (setS 8 ((op2 addD (nmO 8) (oOfV ((vOfE (lstE (aCons ((vOfE (op2 addD (oOfV ((tupE (aCons (kI 11) aNil)))) (oOfV ((vOfE (op2 repD (oOfV ((tupE (aCons ((vOfE (op1 negD (oOfV (kI 1))))) aNil)))) (oOfV (kI 11))))))))) (aCons ((tupE (aCons (kI 2) (aCons ((vOfE (op1 negD (oOfV (kI 1))))) (aCons ((vOfE (op1 negD (oOfV (kI 1))))) aNil))))) (aCons ((tupE (aCons (kI 2) (aCons ((vOfE (op1 negD (oOfV (kI 2))))) aNil)))) (aCons ((tupE (aCons (kB true) (aCons ((vOfE (op1 negD (oOfV (kI 1))))) aNil)))) (aCons ((tupE (aCons (kS (PySem.Str.ofString "1")) (aCons ((vOfE (op1 negD (oOfV (kI 1))))) aNil)))) (aCons (kN) (aCons (kI 5) (aCons ((tupE aNil)) (aCons ((tupE (aCons (kN) aNil))) aNil))))))))))))))))
abbrev g_law_14 : En → SR := (setS 8 ((op2 addD (oOfV ((vOfE (op2 addD (nmO 8) (oOfV ((vOfE cp_law_3))))))) (oOfV ((vOfE cp_law_4))))))
abbrev g_law_15 : En → SR := (forS (seqI' ((nmV 8))) (nameG 9) lb_law_2)
abbrev g_law_16 : En → SR := (iteS (tst (op2 neD (oOfV ((vOfE cp_law_5))) (oOfV ((vOfE (op2 mulD (oOfV ((vOfE (lstE (aCons ((tupE (aCons (kS (PySem.Str.ofString "raised")) (aCons (kS (PySem.Str.ofString "large")) aNil)))) aNil))))) (oOfV (kI 2)))))))) (retS ((eOfV (kB false)))) passS)
abbrev g_law_17 : En → SR := (retS ((op2 eqD (oOfV ((vOfE cp_law_7))) (oOfV ((vOfE (op2 mulD (oOfV ((vOfE (lstE (aCons ((vOfE (op2 mulD (oOfV ((vOfE (lstE (aCons ((tupE (aCons (kS (PySem.Str.ofString "raised")) (aCons (kS (PySem.Str.ofString "malformed")) aNil)))) aNil))))) (oOfV (kI 2))))) aNil))))) (oOfV (kI 5)))))))))
def g_law : En → SR := (seqS g_law_1 (seqS g_law_2 (seqS g_law_3 (seqS g_law_4 (seqS g_law_5 (seqS g_law_6 (seqS g_law_7 (seqS g_law_8 (seqS g_law_9 (seqS g_law_10 (seqS g_law_11 (seqS g_law_12 (seqS g_law_13 (seqS g_law_14 (seqS g_law_15 (seqS g_law_16 g_law_17))))))))))))))))
def F_law : Sl → List D → FR := fnF 15 false g_law
set_option maxRecDepth 100000 in
theorem ok_law : FnV P w K mg base E.C 10 E.d_law.f E.d_law.fd ["script"] false F_law :=
  fnV_of E.d_law.F sc_law false [] rfl (fun h => nomatch h) fun cdv A outer s H X σ₀ hr G => by
    exact (eb_cons
  (es_set (i := 1) G rfl (by first | exact .inl rfl | exact .inr rfl) (show (1 : Nat) ∉ ([] : List Nat) by decide) (ev_call G (ok__law_state E) (hr.mono (by decide)) (by rfl) E.d__law_state.m E.d__law_state.F.kp E.d__law_state.b (ea_cons (ev_name (i := 0) rfl (by first | exact .inl rfl | exact .inr (.inl rfl) | exact .inr (.inr rfl))) ea_nil))) (eb_cons
  (es_set (i := 2) G rfl (by first | exact .inl rfl | exact .inr rfl) (show (2 : Nat) ∉ ([] : List Nat) by decide) (ev_callI G (ok__law_take E) (hr.mono (by decide)) (by rfl) E.d__law_take.m E.d__law_take.F.kp E.d__law_take.b (i := 1) rfl (by first | exact .inl rfl | exact .inr (.inl rfl) | exact .inr (.inr rfl)) (ea_cons ev_int ea_nil))) (eb_cons
  (es_if (EvW.t (ew_or (et_cmp (cNe G hr) (EvV.toO (EvE.toV (ev_call G (ok__law_told E) (hr.mono (by decide)) (by rfl) E.d__law_told.m E.d__law_told.F.kp E.d__law_told.b (ea_cons ev_int (ea_cons (ev_name (i := 2) rfl (by first | exact .inl rfl | exact .inr (.inl rfl) | exact .inr (.inr rfl))) ea_nil))))) (EvV.toO (EvE.toV (ev_tuple G (by rfl) E.b_tuple (EvV.toO (EvE.toV (ev_call G (ok__law_paths E) (hr.mono (by decide)) (by rfl) E.d__law_paths.m E.d__law_paths.F.kp E.d__law_paths.b (ea_cons (ev_name (i := 2) rfl (by first | exact .inl rfl | exact .inr (.inl rfl) | exact .inr (.inr rfl))) (ea_cons ev_int (ea_cons (EvE.toV (ev_neg (EvV.toO ev_int))) ea_nil)))))))))) (ew_or1 (et_cmp (cNe G hr) (EvV.toO (EvE.toV (ev_call G (ok__law_told E) (hr.mono (by decide)) (by rfl) E.d__law_told.m E.d__law_told.F.kp E.d__law_told.b (ea_cons ev_int (ea_cons (ev_name (i := 2) rfl (by first | exact .inl rfl | exact .inr (.inl rfl) | exact .inr (.inr rfl))) ea_nil))))) (EvV.toO (EvE.toV (ev_tuple G (by rfl) E.b_tuple (EvV.toO (EvE.toV (ev_call G (ok__law_paths E) (hr.mono (by decide)) (by rfl) E.d__law_paths.m E.d__law_paths.F.kp E.d__law_paths.b (ea_cons (ev_name (i := 2) rfl (by first | exact .inl rfl | exact .inr (.inl rfl) | exact .inr (.inr rfl))) (ea_cons (ev_name (i := 2) rfl (by first | exact .inl rfl | exact .inr (.inl rfl) | exact .inr (.inr rfl))) (ea_cons (EvE.toV (ev_neg (EvV.toO ev_int))) ea_nil))))))))))))) (eb_one (es_ret (EvV.toE ev_bl))) eb_nil) (eb_cons
  (es_set (i := 3) G rfl (by first | exact .inl rfl | exact .inr rfl) (show (3 : Nat) ∉ ([] : List Nat) by decide) (ev_add G (EvV.toO ev_int) (EvV.toO (EvE.toV (ev_callI G (ok__law_take E) (hr.mono (by decide)) (by rfl) E.d__law_take.m E.d__law_take.F.kp E.d__law_take.b (i := 1) rfl (by first | exact .inl rfl | exact .inr (.inl rfl) | exact .inr (.inr rfl)) (ea_cons ev_int ea_nil)))))) (eb_cons
  (es_set (i := 4) G rfl (by first | exact .inl rfl | exact .inr rfl) (show (4 : Nat) ∉ ([] : List Nat) by decide) (ev_lst (ea_cons ev_int (ea_cons ev_int (ea_cons ev_int (ea_cons ev_int (ea_cons ev_int (ea_cons ev_int (ea_cons ev_int (ea_cons ev_int (ea_cons ev_int (ea_cons ev_int ea_nil)))))))))))) (eb_cons
  (es_asg (ev_tup (ea_cons (EvE.toV (ev_call G (ok__law_told E) (hr.mono (by decide)) (by rfl) E.d__law_told.m E.d__law_told.F.kp E.d__law_told.b (ea_cons ev_int (ea_cons (ev_name (i := 3) rfl (by first | exact .inl rfl | exact .inr (.inl rfl) | exact .inr (.inr rfl))) ea_nil)))) (ea_cons (EvE.toV (ev_call G (ok__law_told E) (hr.mono (by decide)) (by rfl) E.d__law_told.m E.d__law_told.F.kp E.d__law_told.b (ea_cons ev_int (ea_cons (ev_name (i := 3) rfl (by first | exact .inl rfl | exact .inr (.inl rfl) | exact .inr (.inr rfl))) ea_nil)))) ea_nil))) (eg_tup G (egs_cons (eg_name (i := 10) G rfl (by first | exact .inl rfl | exact .inr rfl) (show (10 : Nat) ∉ ([] : List Nat) by decide)) (egs_cons (eg_name (i := 11) G rfl (by first | exact .inl rfl | exact .inr rfl) (show (11 : Nat) ∉ ([] : List Nat) by decide)) egs_nil)))) (eb_cons
  (es_if (EvW.t (ew_or (et_cmp (cNe G hr) (EvV.toO (EvE.toV (ev_len G (by rfl) E.b_len (ev_nameO (i := 10) rfl (by first | exact .inl rfl | exact .inr (.inl rfl) | exact .inr (.inr rfl)))))) (EvV.toO (EvE.toV (ev_idx G hr (ev_nameO (i := 4) rfl (by first | exact .inl rfl | exact .inr (.inl rfl) | exact .inr (.inr rfl))) (ev_nameO (i := 3) rfl (by first | exact .inl rfl | exact .inr (.inl rfl) | exact .inr (.inr rfl))))))) (ew_or1 (et_cmp (cNe G hr) (EvV.toO (EvE.toV (ev_len G (by rfl) E.b_len (ev_nameO (i := 11) rfl (by first | exact .inl rfl | exact .inr (.inl rfl) | exact .inr (.inr rfl)))))) (EvV.toO (EvE.toV (ev_fdiv (EvV.toO (EvE.toV (ev_call G (ok__law_chosen E) (hr.mono (by decide)) (by rfl) E.d__law_chosen.m E.d__law_chosen.F.kp E.d__law_chosen.b (ea_cons (EvE.toV (ev_mul G (EvV.toO ev_int) (ev_nameO (i := 3) rfl (by first | exact .inl rfl | exact .inr (.inl rfl) | exact .inr (.inr rfl))))) (ea_cons (ev_name (i := 3) rfl (by first | exact .inl rfl | exact .inr (.inl rfl) | exact .inr (.inr rfl))) ea_nil))))) (EvV.toO (EvE.toV (ev_add G (ev_nameO (i := 3) rfl (by first | exact .inl rfl | exact .inr (.inl rfl) | exact .inr (.inr rfl))) (EvV.toO ev_int))))))))))) (eb_one (es_ret (EvV.toE ev_bl))) eb_nil) (eb_cons
  (es_if (EvW.t (ew_or (et_not (et_tru G (EvV.toO (EvE.toV (ev_all G (by rfl) E.b_all (EvV.toO (EvE.toV (ev_lc (own := [((PySem.Str.ofString "k"), 14)]) (vs := [14]) (ws := [14]) 0 G (ei_rg2 (by rfl) E.b_range (ea_cons ev_int (ea_cons (EvE.toV (ev_len G (by rfl) E.b_len (ev_nameO (i := 10) rfl (by first | exact .inl rfl | exact .inr (.inl rfl) | exact .inr (.inr rfl))))) ea_nil))) (blkOk_by (by kernel_rfl)) rfl (by decide) (fun _ _ _ _ _ => blkG G fun G => (eg_name (i := 14) G rfl (by first | exact .inl rfl | exact .inr rfl) (show (14 : Nat) ∉ ([] : List Nat) by decide))) (fun _ _ _ _ _ => blkT G fun G => ept_nil) (fun _ _ _ _ _ => blkE G fun G => (EvV.toE (EvE.toV (ev_cmp (cLtT G hr) (EvV.toO (EvE.toV (ev_idx G hr (ev_nameO (i := 10) rfl (by first | exact .inl rfl | exact .inr (.inl rfl) | exact .inr (.inr rfl))) (EvV.toO (EvE.toV (ev_sub (ev_nameO (i := 14) rfl (by first | exact .inl rfl | exact .inr (.inl rfl) | exact .inr (.inr rfl))) (EvV.toO ev_int))))))) (EvV.toO (EvE.toV (ev_idx G hr (ev_nameO (i := 10) rfl (by first | exact .inl rfl | exact .inr (.inl rfl) | exact .inr (.inr rfl))) (ev_nameO (i := 14) rfl (by first | exact .inl rfl | exact .inr (.inl rfl) | exact .inr (.inr rfl)))))))))))))))))) (ew_or1 (et_not (et_tru G (EvV.toO (EvE.toV (ev_all G (by rfl) E.b_all (EvV.toO (EvE.toV (ev_lc (own := [((PySem.Str.ofString "k"), 14)]) (vs := [14]) (ws := [14]) 0 G (ei_rg2 (by rfl) E.b_range (ea_cons ev_int (ea_cons (EvE.toV (ev_len G (by rfl) E.b_len (ev_nameO (i := 11) rfl (by first | exact .inl rfl | exact .inr (.inl rfl) | exact .inr (.inr rfl))))) ea_nil))) (blkOk_by (by kernel_rfl)) rfl (by decide) (fun _ _ _ _ _ => blkG G fun G => (eg_name (i := 14) G rfl (by first | exact .inl rfl | exact .inr rfl) (show (14 : Nat) ∉ ([] : List Nat) by decide))) (fun _ _ _ _ _ => blkT G fun G => ept_nil) (fun _ _ _ _ _ => blkE G fun G => (EvV.toE (EvE.toV (ev_cmp (cLtT G hr) (EvV.toO (EvE.toV (ev_idx G hr (ev_nameO (i := 11) rfl (by first | exact .inl rfl | exact .inr (.inl rfl) | exact .inr (.inr rfl))) (EvV.toO (EvE.toV (ev_sub (ev_nameO (i := 14) rfl (by first | exact .inl rfl | exact .inr (.inl rfl) | exact .inr (.inr rfl))) (EvV.toO ev_int))))))) (EvV.toO (EvE.toV (ev_idx G hr (ev_nameO (i := 11) rfl (by first | exact .inl rfl | exact .inr (.inl rfl) | exact .inr (.inr rfl))) (ev_nameO (i := 14) rfl (by first | exact .inl rfl | exact .inr (.inl rfl) | exact .inr (.inr rfl))))))))))))))))))))) (eb_one (es_ret (EvV.toE ev_bl))) eb_nil) (eb_cons
  (es_for G (passes_of rfl) (ei_rg1 (by rfl) E.b_range (ea_cons ev_int ea_nil)) (eg_name (i := 5) G rfl (by first | exact .inl rfl | exact .inr rfl) (show (5 : Nat) ∉ ([] : List Nat) by decide)) (eb_one (es_if (EvW.t (ew_or (et_not (et_tru G (EvV.toO (EvE.toV (ev_call G (ok__law_is_path E) (hr.mono (by decide)) (by rfl) E.d__law_is_path.m E.d__law_is_path.F.kp E.d__law_is_path.b (ea_cons (EvE.toV (ev_idx G hr (ev_nameO (i := 10) rfl (by first | exact .inl rfl | exact .inr (.inl rfl) | exact .inr (.inr rfl))) (EvV.toO (EvE.toV (ev_callI G (ok__law_take E) (hr.mono (by decide)) (by rfl) E.d__law_take.m E.d__law_take.F.kp E.d__law_take.b (i := 1) rfl (by first | exact .inl rfl | exact .inr (.inl rfl) | exact .inr (.inr rfl)) (ea_cons (EvE.toV (ev_len G (by rfl) E.b_len (ev_nameO (i := 10) rfl (by first | exact .inl rfl | exact .inr (.inl rfl) | exact .inr (.inr rfl))))) ea_nil)))))) (ea_cons (EvE.toV (ev_neg (EvV.toO ev_int))) (ea_cons ev_int ea_nil)))))))) (ew_or1 (et_not (et_tru G (EvV.toO (EvE.toV (ev_call G (ok__law_is_path E) (hr.mono (by decide)) (by rfl) E.d__law_is_path.m E.d__law_is_path.F.kp E.d__law_is_path.b (ea_cons (EvE.toV (ev_idx G hr (ev_nameO (i := 11) rfl (by first | exact .inl rfl | exact .inr (.inl rfl) | exact .inr (.inr rfl))) (EvV.toO (EvE.toV (ev_callI G (ok__law_take E) (hr.mono (by decide)) (by rfl) E.d__law_take.m E.d__law_take.F.kp E.d__law_take.b (i := 1) rfl (by first | exact .inl rfl | exact .inr (.inl rfl) | exact .inr (.inr rfl)) (ea_cons (EvE.toV (ev_len G (by rfl) E.b_len (ev_nameO (i := 11) rfl (by first | exact .inl rfl | exact .inr (.inl rfl) | exact .inr (.inr rfl))))) ea_nil)))))) (ea_cons (EvE.toV (ev_neg (EvV.toO ev_int))) (ea_cons ev_int ea_nil))))))))))) (eb_one (es_ret (EvV.toE ev_bl))) eb_nil))) (eb_cons
  (es_set (i := 6) G rfl (by first | exact .inl rfl | exact .inr rfl) (show (6 : Nat) ∉ ([] : List Nat) by decide) (ev_callI G (ok__law_drawn_path E) (hr.mono (by decide)) (by rfl) E.d__law_drawn_path.m E.d__law_drawn_path.F.kp E.d__law_drawn_path.b (i := 1) rfl (by first | exact .inl rfl | exact .inr (.inl rfl) | exact .inr (.inr rfl)) (ea_cons (EvE.toV (ev_callI G (ok__law_take E) (hr.mono (by decide)) (by rfl) E.d__law_take.m E.d__law_take.F.kp E.d__law_take.b (i := 1) rfl (by first | exact .inl rfl | exact .inr (.inl rfl) | exact .inr (.inr rfl)) (ea_cons ev_int ea_nil))) ea_nil))) (eb_cons
  (es_set (i := 7) G rfl (by first | exact .inl rfl | exact .inr rfl) (show (7 : Nat) ∉ ([] : List Nat) by decide) (ev_idx G hr (ev_nameO (i := 11) rfl (by first | exact .inl rfl | exact .inr (.inl rfl) | exact .inr (.inr rfl))) (EvV.toO (EvE.toV (ev_callI G (ok__law_take E) (hr.mono (by decide)) (by rfl) E.d__law_take.m E.d__law_take.F.kp E.d__law_take.b (i := 1) rfl (by first | exact .inl rfl | exact .inr (.inl rfl) | exact .inr (.inr rfl)) (ea_cons (EvE.toV (ev_len G (by rfl) E.b_len (ev_nameO (i := 11) rfl (by first | exact .inl rfl | exact .inr (.inl rfl) | exact .inr (.inr rfl))))) ea_nil)))))) (eb_cons
  (es_set (i := 8) G rfl (by first | exact .inl rfl | exact .inr rfl) (show (8 : Nat) ∉ ([] : List Nat) by decide) (ev_lst (ea_cons (ev_name (i := 6) rfl (by first | exact .inl rfl | exact .inr (.inl rfl) | exact .inr (.inr rfl))) (ea_cons (EvE.toV (ev_rev (k := 0) G (ev_nameO (i := 6) rfl (by first | exact .inl rfl | exact .inr (.inl rfl) | exact .inr (.inr rfl))))) (ea_cons (EvE.toV (ev_add G (ev_nameO (i := 6) rfl (by first | exact .inl rfl | exact .inr (.inl rfl) | exact .inr (.inr rfl))) (EvV.toO (ev_tup (ea_cons ev_int ea_nil))))) (ea_cons (EvE.toV (ev_add G (ev_nameO (i := 6) rfl (by first | exact .inl rfl | exact .inr (.inl rfl) | exact .inr (.inr rfl))) (EvV.toO (ev_tup (ea_cons ev_int (ea_cons (EvE.toV (ev_neg (EvV.toO ev_int))) ea_nil)))))) (ea_cons (EvE.toV (ev_add G (ev_nameO (i := 6) rfl (by first | exact .inl rfl | exact .inr (.inl rfl) | exact .inr (.inr rfl))) (EvV.toO (ev_tup (ea_cons (EvE.toV (ev_neg (EvV.toO ev_int))) (ea_cons ev_int ea_nil)))))) (ea_cons (EvE.toV (ev_list G (by rfl) E.b_list (ev_nameO (i := 6) rfl (by first | exact .inl rfl | exact .inr (.inl rfl) | exact .inr (.inr rfl))))) (ea_cons (ev_name (i := 7) rfl (by first | exact .inl rfl | exact .inr (.inl rfl) | exact .inr (.inr rfl))) (ea_cons (EvE.toV (ev_rev (k := 0) G (ev_nameO (i := 7) rfl (by first | exact .inl rfl | exact .inr (.inl rfl) | exact .inr (.inr rfl))))) (ea_cons (EvE.toV (ev_add G (ev_nameO (i := 7) rfl (by first | exact .inl rfl | exact .inr (.inl rfl) | exact .inr (.inr rfl))) (EvV.toO (ev_tup (ea_cons ev_int ea_nil))))) (ea_cons (EvE.toV (ev_rep G (EvV.toO (ev_tup (ea_cons ev_int ea_nil))) (EvV.toO ev_int))) (ea_cons (EvE.toV (ev_rep G (EvV.toO (ev_tup (ea_cons ev_int ea_nil))) (EvV.toO ev_int))) ea_nil))))))))))))) (eb_cons
  (es_set (i := 8) G rfl (by first | exact .inl rfl | exact .inr rfl) (show (8 : Nat) ∉ ([] : List Nat) by decide) (ev_add G (ev_nameO (i := 8) rfl (by first | exact .inl rfl | exact .inr (.inl rfl) | exact .inr (.inr rfl))) (EvV.toO (EvE.toV (ev_lst (ea_cons (EvE.toV (ev_add G (EvV.toO (ev_tup (ea_cons ev_int ea_nil))) (EvV.toO (EvE.toV (ev_rep G (EvV.toO (ev_tup (ea_cons (EvE.toV (ev_neg (EvV.toO ev_int))) ea_nil))) (EvV.toO ev_int)))))) (ea_cons (ev_tup (ea_cons ev_int (ea_cons (EvE.toV (ev_neg (EvV.toO ev_int))) (ea_cons (EvE.toV (ev_neg (EvV.toO ev_int))) ea_nil)))) (ea_cons (ev_tup (ea_cons ev_int (ea_cons (EvE.toV (ev_neg (EvV.toO ev_int))) ea_nil))) (ea_cons (ev_tup (ea_cons ev_bl (ea_cons (EvE.toV (ev_neg (EvV.toO ev_int))) ea_nil))) (ea_cons (ev_tup (ea_cons ev_str (ea_cons (EvE.toV (ev_neg (EvV.toO ev_int))) ea_nil))) (ea_cons ev_non (ea_cons ev_int (ea_cons (ev_tup ea_nil) (ea_cons (ev_tup (ea_cons ev_non ea_nil)) ea_nil)))))))))))))) (eb_cons
  (es_set (i := 8) G rfl (by first | exact .inl rfl | exact .inr rfl) (show (8 : Nat) ∉ ([] : List Nat) by decide) (ev_add G (EvV.toO (EvE.toV (ev_add G (ev_nameO (i := 8) rfl (by first | exact .inl rfl | exact .inr (.inl rfl) | exact .inr (.inr rfl))) (EvV.toO (EvE.toV (ev_lc (own := [((PySem.Str.ofString "turn"), 5)]) (vs := [5]) (ws := [5]) 0 G (ei_rg1 (by rfl) E.b_range (ea_cons ev_int ea_nil)) (blkOk_by (by kernel_rfl)) rfl (by decide) (fun _ _ _ _ _ => blkG G fun G => (eg_name (i := 5) G rfl (by first | exact .inl rfl | exact .inr rfl) (show (5 : Nat) ∉ ([] : List Nat) by decide))) (fun _ _ _ _ _ => blkT G fun G => ept_nil) (fun _ _ _ _ _ => blkE G fun G => (EvV.toE (EvE.toV (ev_callI G (ok__law_bent E 4) (hr.mono (by decide)) (by rfl) E.d__law_bent.m E.d__law_bent.F.kp E.d__law_bent.b (i := 1) rfl (by first | exact .inl rfl | exact .inr (.inl rfl) | exact .inr (.inr rfl)) (ea_cons (ev_name (i := 6) rfl (by first | exact .inl rfl | exact .inr (.inl rfl) | exact .inr (.inr rfl))) (ea_cons ev_int ea_nil)))))))))))) (EvV.toO (EvE.toV (ev_lc (own := [((PySem.Str.ofString "turn"), 5)]) (vs := [5]) (ws := [5]) 0 G (ei_rg1 (by rfl) E.b_range (ea_cons ev_int ea_nil)) (blkOk_by (by kernel_rfl)) rfl (by decide) (fun _ _ _ _ _ => blkG G fun G => (eg_name (i := 5) G rfl (by first | exact .inl rfl | exact .inr rfl) (show (5 : Nat) ∉ ([] : List Nat) by decide))) (fun _ _ _ _ _ => blkT G fun G => ept_nil) (fun _ _ _ _ _ => blkE G fun G => (EvV.toE (EvE.toV (ev_callI G (ok__law_bent E 4) (hr.mono (by decide)) (by rfl) E.d__law_bent.m E.d__law_bent.F.kp E.d__law_bent.b (i := 1) rfl (by first | exact .inl rfl | exact .inr (.inl rfl) | exact .inr (.inr rfl)) (ea_cons (ev_name (i := 7) rfl (by first | exact .inl rfl | exact .inr (.inl rfl) | exact .inr (.inr rfl))) (ea_cons ev_int ea_nil))))))))))) (eb_cons
  (es_for G (passes_of rfl) (ei_seq G (ev_name (i := 8) rfl (by first | exact .inl rfl | exact .inr (.inl rfl) | exact .inr (.inr rfl)))) (eg_name (i := 9) G rfl (by first | exact .inl rfl | exact .inr rfl) (show (9 : Nat) ∉ ([] : List Nat) by decide)) (eb_one (es_if (EvW.t (ew_or (et_not (et_tru G (EvV.toO (EvE.toV (ev_call G (ok__law_says E) (hr.mono (by decide)) (by rfl) E.d__law_says.m E.d__law_says.F.kp E.d__law_says.b (ea_cons (EvE.toV (ev_call G (ok_is_motzkin_path E) (hr.mono (by decide)) (by rfl) E.d_is_motzkin_path.m E.d_is_motzkin_path.F.kp E.d_is_motzkin_path.b (ea_cons (ev_name (i := 9) rfl (by first | exact .inl rfl | exact .inr (.inl rfl) | exact .inr (.inr rfl))) ea_nil))) (ea_cons (EvE.toV (ev_call G (ok__law_is_path E) (hr.mono (by decide)) (by rfl) E.d__law_is_path.m E.d__law_is_path.F.kp E.d__law_is_path.b (ea_cons (ev_name (i := 9) rfl (by first | exact .inl rfl | exact .inr (.inl rfl) | exact .inr (.inr rfl))) (ea_cons (EvE.toV (ev_neg (EvV.toO ev_int))) (ea_cons ev_int ea_nil))))) ea_nil))))))) (ew_or1 (et_not (et_tru G (EvV.toO (EvE.toV (ev_call G (ok__law_says E) (hr.mono (by decide)) (by rfl) E.d__law_says.m E.d__law_says.F.kp E.d__law_says.b (ea_cons (EvE.toV (ev_call G (ok_is_lukasiewicz_path E) (hr.mono (by decide)) (by rfl) E.d_is_lukasiewicz_path.m E.d_is_lukasiewicz_path.F.kp E.d_is_lukasiewicz_path.b (ea_cons (ev_name (i := 9) rfl (by first | exact .inl rfl | exact .inr (.inl rfl) | exact .inr (.inr rfl))) ea_nil))) (ea_cons (EvE.toV (ev_call G (ok__law_is_path E) (hr.mono (by decide)) (by rfl) E.d__law_is_path.m E.d__law_is_path.F.kp E.d__law_is_path.b (ea_cons (ev_name (i := 9) rfl (by first | exact .inl rfl | exact .inr (.inl rfl) | exact .inr (.inr rfl))) (ea_cons (EvE.toV (ev_neg (EvV.toO ev_int))) (ea_cons ev_int ea_nil))))) ea_nil)))))))))) (eb_one (es_ret (EvV.toE ev_bl))) eb_nil))) (eb_cons
  (es_if (et_cmp (cNe G hr) (EvV.toO (EvE.toV (ev_lc (own := [((PySem.Str.ofString "which"), 12)]) (vs := [12]) (ws := [12]) 0 G (ei_seq G (ev_tup (ea_cons ev_int (ea_cons ev_int ea_nil)))) (blkOk_by (by kernel_rfl)) rfl (by decide) (fun _ _ _ _ _ => blkG G fun G => (eg_name (i := 12) G rfl (by first | exact .inl rfl | exact .inr rfl) (show (12 : Nat) ∉ ([] : List Nat) by decide))) (fun _ _ _ _ _ => blkT G fun G => ept_nil) (fun _ _ _ _ _ => blkE G fun G => (EvV.toE (EvE.toV (ev_call G (ok__law_told E) (hr.mono (by decide)) (by rfl) E.d__law_told.m E.d__law_told.F.kp E.d__law_told.b (ea_cons (ev_name (i := 12) rfl (by first | exact .inl rfl | exact .inr (.inl rfl) | exact .inr (.inr rfl))) (ea_cons ev_int ea_nil))))))))) (EvV.toO (EvE.toV (ev_mul G (EvV.toO (EvE.toV (ev_lst (ea_cons (ev_tup (ea_cons ev_str (ea_cons ev_str ea_nil))) ea_nil)))) (EvV.toO ev_int))))) (eb_one (es_ret (EvV.toE ev_bl))) eb_nil) (eb_one (es_ret (ev_cmp (cEq G hr) (EvV.toO (EvE.toV (ev_lc (own := [((PySem.Str.ofString "bad"), 13)]) (vs := [13]) (ws := [13]) 0 G (ei_seq G (EvE.toV (ev_lst (ea_cons (EvE.toV (ev_neg (EvV.toO ev_int))) (ea_cons ev_int (ea_cons ev_non (ea_cons ev_bl (ea_cons ev_str ea_nil)))))))) (blkOk_by (by kernel_rfl)) rfl (by decide) (fun _ _ _ _ _ => blkG G fun G => (eg_name (i := 13) G rfl (by first | exact .inl rfl | exact .inr rfl) (show (13 : Nat) ∉ ([] : List Nat) by decide))) (fun _ _ _ _ _ => blkT G fun G => ept_nil) (fun _ _ _ _ _ => blkE G fun G => (EvV.toE (EvE.toV (ev_lc (own := [((PySem.Str.ofString "which"), 12)]) (vs := [12]) (ws := [12]) 0 G (ei_seq G (ev_tup (ea_cons ev_int (ea_cons ev_int ea_nil)))) (blkOk_by (by kernel_rfl)) rfl (by decide) (fun _ _ _ _ _ => blkG G fun G => (eg_name (i := 12) G rfl (by first | exact .inl rfl | exact .inr rfl) (show (12 : Nat) ∉ ([] : List Nat) by decide))) (fun _ _ _ _ _ => blkT G fun G => ept_nil) (fun _ _ _ _ _ => blkE G fun G => (EvV.toE (EvE.toV (ev_call G (ok__law_told E) (hr.mono (by decide)) (by rfl) E.d__law_told.m E.d__law_told.F.kp E.d__law_told.b (ea_cons (ev_name (i := 12) rfl (by first | exact .inl rfl | exact .inr (.inl rfl) | exact .inr (.inr rfl))) (ea_cons (ev_name (i := 13) rfl (by first | exact .inl rfl | exact .inr (.inl rfl) | exact .inr (.inr rfl))) ea_nil))))))))))))) (EvV.toO (EvE.toV (ev_mul G (EvV.toO (EvE.toV (ev_lst (ea_cons (EvE.toV (ev_mul G (EvV.toO (EvE.toV (ev_lst (ea_cons (ev_tup (ea_cons ev_str (ea_cons ev_str ea_nil))) ea_nil)))) (EvV.toO ev_int))) ea_nil)))) (EvV.toO ev_int)))))))))))))))))))))))
end L34
end

section
set_option Elab.async false
set_option linter.all false
set_option maxRecDepth 100000
/-! k34: paths as lists, plain -/
namespace Pa
open Pv PySem
theorem mem_rgL {i j s : Int} : s ∈ rgL i j ↔ i ≤ s ∧ s < j := by
  unfold rgL
  rw [List.mem_map]
  constructor
  · rintro ⟨k, hk, rfl⟩
    have := List.mem_range.mp hk
    omega
  · rintro ⟨h1, h2⟩
    exact ⟨(s - i).toNat, List.mem_range.mpr (by omega), by omega⟩
theorem asc_rgL (i j : Int) : (rgL i j).Pairwise (· < ·) := by
  unfold rgL
  rw [List.pairwise_map]
  exact List.pairwise_lt_range.imp fun h => by omega
abbrev Pt := List Int × Int
def stp (q : Pt) (s : Int) : Pt := (q.1 ++ [s], q.2 + s)
theorem stp_2 (q : Pt) (s : Int) : (stp q s).2 = q.2 + s := rfl
def exP (most left : Int) (q : Pt) : List Pt := ((rgL (-1) (min most (left - q.2) + 1)).filter fun s => decide (0 ≤ q.2 + s)).map (stp q)
def exL (most n : Int) (q : Pt) : List Pt := ((rgL (-1) (most + 1)).filter fun s => decide (0 ≤ q.2 + s) && decide (q.2 + s ≤ n)).map (stp q)
def prg (n : Nat) (most : Int) : Nat → List Pt
  | 0 => [([], 0)]
  | t + 1 => (prg n most t).flatMap (exP most ((n : Int) - 1 - t))
def lw (n : Nat) (most : Int) : Nat → List Pt
  | 0 => [([], 0)]
  | t + 1 => (lw n most t).flatMap (exL most n)
theorem flat_filter {α β : Type} (p : α → Bool) (f : α → List β) : ∀ L : List α, (L.filter p).flatMap f = L.flatMap fun q => if p q = true then f q else []
  | [] => rfl
  | a :: L => by
    rw [List.filter_cons, List.flatMap_cons]
    split
    · rw [List.flatMap_cons, flat_filter p f L]
    · rw [flat_filter p f L]; rfl
theorem filter_flat {α β : Type} (p : β → Bool) (f : α → List β) : ∀ L : List α, (L.flatMap f).filter p = L.flatMap fun q => (f q).filter p
  | [] => rfl
  | a :: L => by rw [List.flatMap_cons, List.filter_append, filter_flat p f L, List.flatMap_cons]
theorem flat_congr {α β : Type} {f g : α → List β} : ∀ {L : List α}, (∀ a ∈ L, f a = g a) → L.flatMap f = L.flatMap g
  | [], _ => rfl
  | a :: L, h => by rw [List.flatMap_cons, List.flatMap_cons, h a List.mem_cons_self, flat_congr fun b hb => h b (List.mem_cons_of_mem _ hb)]
theorem mem_exL {most n : Int} {q r : Pt} : r ∈ exL most n q ↔ ∃ s, -1 ≤ s ∧ s ≤ most ∧ 0 ≤ q.2 + s ∧ q.2 + s ≤ n ∧ r = stp q s := by
  unfold exL
  rw [List.mem_map]
  constructor
  · rintro ⟨s, hs, rfl⟩
    obtain ⟨h1, h2⟩ := List.mem_filter.mp hs
    have := mem_rgL.mp h1
    simp only [Bool.and_eq_true, decide_eq_true_eq] at h2
    exact ⟨s, this.1, by omega, h2.1, h2.2, rfl⟩
  · rintro ⟨s, h1, h2, h3, h4, rfl⟩
    exact ⟨s, List.mem_filter.mpr ⟨mem_rgL.mpr ⟨h1, by omega⟩, by simp [h3, h4]⟩, rfl⟩
/-- the run of a row of steps -/
def run (most : Int) : Int → List Int → Option Int
  | h, [] => some h
  | h, s :: r => if h + s < 0 ∨ s < -1 ∨ most < s then none else run most (h + s) r
theorem run_snoc (most : Int) : ∀ (p : List Int) (h s : Int), run most h (p ++ [s]) = (run most h p).bind fun g => if g + s < 0 ∨ s < -1 ∨ most < s then none else some (g + s)
  | [], h, s => by
    show (if h + s < 0 ∨ s < -1 ∨ most < s then none else some (h + s)) = _
    rfl
  | a :: p, h, s => by
    rw [List.cons_append]
    unfold run
    split
    · rfl
    · exact run_snoc most p (h + a) s
theorem run_mono {m1 m2 : Int} (hm : m1 ≤ m2) : ∀ (p : List Int) (h g : Int), run m1 h p = some g → run m2 h p = some g
  | [], h, g, e => e
  | a :: p, h, g, e => by
    unfold run at e ⊢
    split at e
    · cases e
    · rename_i hn
      rw [if_neg (by omega)]
      exact run_mono hm p _ _ e
theorem lw_inv (n : Nat) (most : Int) : ∀ (t : Nat) (q : Pt), q ∈ lw n most t → q.1.length = t ∧ 0 ≤ q.2 ∧ run most 0 q.1 = some q.2
  | 0, q, h => by
    have : q = ([], 0) := by simpa [lw] using h
    subst this
    exact ⟨rfl, by simp, rfl⟩
  | t + 1, q, h => by
    obtain ⟨r, hr, hq⟩ := List.mem_flatMap.mp h
    obtain ⟨h1, h2, h3⟩ := lw_inv n most t r hr
    obtain ⟨s, a1, a2, a3, a4, rfl⟩ := mem_exL.mp hq
    refine ⟨by simp [stp, h1], a3, ?_⟩
    show run most 0 (r.1 ++ [s]) = _
    rw [run_snoc, h3, Option.bind_some, if_neg (by omega)]
    rfl
theorem ext_eq {most mp n left : Int} {q : Pt} (hm : most = mp ∨ (most = n ∧ n ≤ mp)) (hl : left + 1 ≤ n) (h0 : 0 ≤ q.2) : (exL most n q).filter (fun r => decide (r.2 ≤ left)) = if decide (q.2 ≤ left + 1) = true then exP mp left q else [] := by
  unfold exL exP
  rw [List.filter_map]
  by_cases h : q.2 ≤ left + 1
  · rw [if_pos (decide_eq_true h)]
    congr 1
    rw [List.filter_filter]
    refine asc_unique ((asc_rgL _ _).filter _) ((asc_rgL _ _).filter _) fun s => ?_
    simp only [List.mem_filter, mem_rgL, Bool.and_eq_true, decide_eq_true_eq, Function.comp_apply]
    simp only [stp_2]
    rcases Int.le_total mp (left - q.2) with hh | hh
    · rw [Int.min_eq_left hh]
      omega
    · rw [Int.min_eq_right hh]
      omega
  · rw [if_neg (by simpa using h), List.filter_filter]
    rw [List.filter_eq_nil_iff.mpr]
    · rfl
    · intro s hs
      have := mem_rgL.mp hs
      simp only [Bool.and_eq_true, decide_eq_true_eq, Function.comp_apply]
      simp only [stp_2]
      rintro ⟨h1, h2⟩
      omega
theorem prg_lw {n : Nat} {most mp : Int} (hm : most = mp ∨ (most = n ∧ (n : Int) ≤ mp)) : ∀ t, t ≤ n → prg n mp t = (lw n most t).filter fun q => decide (q.2 ≤ (n : Int) - t)
  | 0, _ => by
    show [([], 0)] = List.filter _ [([], 0)]
    rw [List.filter_cons, if_pos (by simp)]
    rfl
  | t + 1, ht => by
    show (prg n mp t).flatMap _ = ((lw n most t).flatMap (exL most n)).filter _
    rw [prg_lw hm t (by omega), flat_filter, filter_flat]
    refine flat_congr fun q hq => ?_
    obtain ⟨_, h0, _⟩ := lw_inv n most t q hq
    have := ext_eq (left := (n : Int) - 1 - t) (q := q) (mp := mp) (n := n) hm (by omega) h0
    rw [show (n : Int) - 1 - t + 1 = (n : Int) - t by omega] at this
    rw [show (n : Int) - ((t + 1 : Nat) : Int) = (n : Int) - 1 - t by omega, this]
/-- both lists are one -/
theorem prg_end {n : Nat} {most mp : Int} (hm : most = mp ∨ (most = n ∧ (n : Int) ≤ mp)) : prg n mp n = (lw n most n).filter fun q => decide (q.2 = 0) := by
  rw [prg_lw hm n (Nat.le_refl _)]
  refine List.filter_congr fun q hq => ?_
  obtain ⟨_, h0, _⟩ := lw_inv n most n q hq
  rw [decide_eq_decide]
  omega
/-! the order -/
theorem lex_snoc : ∀ {p q : List Int} {a b : Int}, p.length = q.length → HT.lexLt p q = true → HT.lexLt (p ++ [a]) (q ++ [b]) = true
  | [], [], _, _, _, h => by cases h
  | x :: p, y :: q, a, b, hl, h => by
    rw [List.cons_append, List.cons_append, HT.lexLt_cons]
    rw [HT.lexLt_cons] at h
    split
    · rename_i e
      rw [if_pos e] at h
      exact lex_snoc (by simpa using hl) h
    · rename_i e
      rw [if_neg e] at h
      exact h
theorem lex_same : ∀ {p : List Int} {a b : Int}, a < b → HT.lexLt (p ++ [a]) (p ++ [b]) = true
  | [], a, b, h => by
    show HT.lexLt [a] [b] = true
    rw [HT.lexLt_cons, if_neg (by omega)]
    exact decide_eq_true h
  | x :: p, a, b, h => by
    rw [List.cons_append, List.cons_append, HT.lexLt_cons, if_pos rfl]
    exact lex_same h
theorem lw_asc (n : Nat) (most : Int) : ∀ t, (lw n most t).Pairwise fun q r => HT.lexLt q.1 r.1 = true
  | 0 => by simp [lw]
  | t + 1 => by
    show ((lw n most t).flatMap (exL most n)).Pairwise _
    rw [List.pairwise_flatMap]
    refine ⟨fun q hq => ?_, ?_⟩
    · unfold exL
      rw [List.pairwise_map]
      exact ((asc_rgL _ _).filter _).imp fun h => lex_same h
    · refine (List.Pairwise.and_mem.mp (lw_asc n most t)).imp fun ⟨ha, hb, h⟩ x hx y hy => ?_
      obtain ⟨s, _, _, _, _, rfl⟩ := mem_exL.mp hx
      obtain ⟨s', _, _, _, _, rfl⟩ := mem_exL.mp hy
      exact lex_snoc ((lw_inv n most t _ ha).1.trans (lw_inv n most t _ hb).1.symm) h
/-! lengths by heights -/
def exH (most n : Int) (h : Int) : List Int := ((rgL (-1) (most + 1)).map fun s => h + s).filter fun g => decide (0 ≤ g) && decide (g ≤ n)
def hts (n : Nat) (most : Int) : Nat → List Int
  | 0 => [0]
  | t + 1 => (hts n most t).flatMap (exH most n)
theorem lw_hts (n : Nat) (most : Int) : ∀ t, (lw n most t).map Prod.snd = hts n most t
  | 0 => rfl
  | t + 1 => by
    show ((lw n most t).flatMap (exL most n)).map _ = (hts n most t).flatMap _
    rw [← lw_hts n most t, List.map_flatMap, List.flatMap_map]
    refine flat_congr fun q _ => ?_
    unfold exL exH
    rw [List.map_map, List.filter_map]
    rfl
def exQ (most left : Int) (h : Int) : List Int := ((rgL (-1) (min most (left - h) + 1)).map fun s => h + s).filter fun g => decide (0 ≤ g)
def htP (n : Nat) (most : Int) : Nat → List Int
  | 0 => [0]
  | t + 1 => (htP n most t).flatMap (exQ most ((n : Int) - 1 - t))
theorem prg_hts (n : Nat) (most : Int) : ∀ t, (prg n most t).map Prod.snd = htP n most t
  | 0 => rfl
  | t + 1 => by
    show ((prg n most t).flatMap _).map _ = (htP n most t).flatMap _
    rw [← prg_hts n most t, List.map_flatMap, List.flatMap_map]
    refine flat_congr fun q _ => ?_
    unfold exP exQ
    rw [List.map_map, List.filter_map]
    rfl
theorem prg_len (n : Nat) (most : Int) (t : Nat) : (prg n most t).length = (htP n most t).length := by rw [← prg_hts, List.length_map]
theorem lw_len (n : Nat) (most : Int) (t : Nat) : (lw n most t).length = (hts n most t).length := by rw [← lw_hts, List.length_map]
end Pa
end

section
open Pv PySem PM Pa
set_option Elab.async false
set_option linter.all false
set_option maxRecDepth 100000
namespace L34
theorem law_isn : F__law_is_number = F_is_integer := rfl
def nI (xs : List Int) : List D := xs.map D.int
theorem nI_app (xs ys : List Int) : nI (xs ++ ys) = nI xs ++ nI ys := by simp [nI]
def tD (xs : List Int) : D := .tup (nI xs)
def pD (q : Pt) : D := .tup [tD q.1, .int q.2]
theorem lim_lt {n : Nat} (h : n ≤ 15000000) : n < lim := Nat.lt_of_le_of_lt h (by decide)
theorem rgD_int {i j : Int} (h1 : i.natAbs ≤ 1000) (h2 : j.natAbs ≤ 1000) : rgD i j = some ((rgL i j).map D.int) := by
  unfold rgD
  rw [if_pos]
  · unfold rgL
    rw [List.map_map]
    rfl
  · unfold rgB
    rw [Bool.and_eq_true]
    exact ⟨Nat.ble_eq_true_of_le (by omega), Nat.ble_eq_true_of_le (by omega)⟩
theorem rg2_int {f : En → R (List D)} {env env1 : En} {i j : Int} (h : f env = .ok [.int i, .int j] env1) (h1 : i.natAbs ≤ 1000) (h2 : j.natAbs ≤ 1000) : rg2 f env = .ok ((rgL i j).map D.int) env1 := by
  unfold rg2
  rw [h, R.bind_ok]
  show R.of (rgD i j) env1 = _
  rw [rgD_int h1 h2, R.of_some]
/-! the law's list -/
abbrev le1 (n most : Int) (fd t lo p h s : Sl) : En := [some (.int n, 0), some (.int most, 0), some (.int (-1), 0), fd, t, lo, p, h, s]
def okL (n h s : Int) : Bool := decide (0 ≤ h + s) && decide (h + s ≤ n)
theorem pD_stp (q : Pt) (s : Int) : pD (stp q s) = .tup [.tup (nI q.1 ++ [.int s]), .int (q.2 + s)] := by
  unfold pD tD stp
  rw [nI_app]
  rfl
theorem lp_step (n most : Int) (fd t : Sl) (A : List D) (q : Pt) (s : Int) (hA : A.length ≤ 15000000) (hq : q.1.length ≤ 100) : lb__law_paths_1 (le1 n most fd t (some (.lst A, 1)) (some (tD q.1, 0)) (some (.int q.2, 0)) (some (.int s, 0))) = .nx (le1 n most fd t (some (.lst (if okL n q.2 s = true then A ++ [pD (stp q s)] else A), 1)) (some (tD q.1, 0)) (some (.int q.2, 0)) (some (.int s, 0))) := by
  have hl := lim_lt hA
  have l1 : (nI q.1).length + 1 ≤ lim := le_lim (by simp [nI]; omega)
  unfold tD
  by_cases h : 0 ≤ q.2 + s ∧ q.2 + s ≤ n
  · have e : okL n q.2 s = true := by simp [okL, h.1, h.2]
    rw [if_pos e, pD_stp]
    generalize nI q.1 = P at *
    have hc : (andT (tst (op2 (cmpD fun i j => decide (j ≤ i)) (oOfV ((vOfE (op2 addD (nmO 7) (nmO 8))))) (oOfV (kI 0)))) (tst (op2 (cmpD fun i j => decide (i ≤ j)) (oOfV ((vOfE (op2 addD (nmO 7) (nmO 8))))) (nmO 0)))) (le1 n most fd t (some (.lst A, 1)) (some (.tup P, 0)) (some (.int q.2, 0)) (some (.int s, 0))) = .ok true (le1 n most fd t (some (.lst A, 1)) (some (.tup P, 0)) (some (.int q.2, 0)) (some (.int s, 0))) := by
      simp [-List.map_map, fnF, en0, seqS, passS, noS, exprS, retS, retN, retM, putE, setS, iteS, vOfE, eOfV, oOfV, kI, kB, kS, kN, nmV, nmO, op1, op2, opC, tst, tru, truD, notT, andT, orT, blV, vbl, andV, orV, notV, iteE, aNil, aCons, lNil, lCons, tupE, lstE, dicE, Opd.get, callF, frR, callI, callL, own1, addD, subD, negD, cmpD, lenD, intD, tupD, lisD, absD, isiD, tyD, min2D, max2D, Pv.R.of, raiseS, asgS, nameG, nilG, consG, tupG, isD, nisD, isNB, opS, pNone, pSome, seqI', itsD, sItS, putD, wipeE, backE, h.1, h.2]
    refine (iteS_t hc).trans ?_
    unfold appS
    rw [if_pos (by rfl)]
    simp [-List.map_map, fnF, en0, seqS, passS, noS, exprS, retS, retN, retM, putE, setS, iteS, vOfE, eOfV, oOfV, kI, kB, kS, kN, nmV, nmO, op1, op2, opC, tst, tru, truD, notT, andT, orT, blV, vbl, andV, orV, notV, iteE, aNil, aCons, lNil, lCons, tupE, lstE, dicE, Opd.get, callF, frR, callI, callL, own1, addD, subD, negD, cmpD, lenD, intD, tupD, lisD, absD, isiD, tyD, min2D, max2D, Pv.R.of, raiseS, asgS, nameG, nilG, consG, tupG, isD, nisD, isNB, opS, pNone, pSome, seqI', itsD, sItS, putD, wipeE, backE, l1, hl]
  · have e : okL n q.2 s = false := by
      unfold okL
      by_cases h1 : 0 ≤ q.2 + s
      · simp [h1]; omega
      · simp [h1]
    rw [e, if_neg (by simp)]
    generalize nI q.1 = P
    by_cases h1 : 0 ≤ q.2 + s
    · have h2 : ¬ q.2 + s ≤ n := fun z => h ⟨h1, z⟩
      simp [-List.map_map, fnF, en0, seqS, passS, noS, exprS, retS, retN, retM, putE, setS, iteS, vOfE, eOfV, oOfV, kI, kB, kS, kN, nmV, nmO, op1, op2, opC, tst, tru, truD, notT, andT, orT, blV, vbl, andV, orV, notV, iteE, aNil, aCons, lNil, lCons, tupE, lstE, dicE, Opd.get, callF, frR, callI, callL, own1, addD, subD, negD, cmpD, lenD, intD, tupD, lisD, absD, isiD, tyD, min2D, max2D, Pv.R.of, raiseS, asgS, nameG, nilG, consG, tupG, isD, nisD, isNB, opS, pNone, pSome, seqI', itsD, sItS, putD, wipeE, backE, h1, h2]
    · simp [-List.map_map, fnF, en0, seqS, passS, noS, exprS, retS, retN, retM, putE, setS, iteS, vOfE, eOfV, oOfV, kI, kB, kS, kN, nmV, nmO, op1, op2, opC, tst, tru, truD, notT, andT, orT, blV, vbl, andV, orV, notV, iteE, aNil, aCons, lNil, lCons, tupE, lstE, dicE, Opd.get, callF, frR, callI, callL, own1, addD, subD, negD, cmpD, lenD, intD, tupD, lisD, absD, isiD, tyD, min2D, max2D, Pv.R.of, raiseS, asgS, nameG, nilG, consG, tupG, isD, nisD, isNB, opS, pNone, pSome, seqI', itsD, sItS, putD, wipeE, backE, h1]
theorem take_filter {α β : Type} (p : α → Bool) (f : α → β) {l : List α} {i : Nat} (hi : i < l.length) : ((l.take (i + 1)).filter p).map f = if p l[i] = true then ((l.take i).filter p).map f ++ [f l[i]] else ((l.take i).filter p).map f := by
  rw [List.take_succ_eq_append_getElem hi, List.filter_append, List.map_append]
  by_cases h : p l[i] = true
  · simp [h]
  · simp [h]
theorem lp_inner (n most : Int) (fd t : Sl) (A : List D) (q : Pt) (s : Sl) (hA : A.length ≤ 10000000) (hq : q.1.length ≤ 100) (hm : 0 ≤ most ∧ most ≤ 100) : ∃ s', lb__law_paths_2 (le1 n most fd t (some (.lst A, 1)) (some (tD q.1, 0)) (some (.int q.2, 0)) s) = .nx (le1 n most fd t (some (.lst (A ++ (exL most n q).map pD), 1)) (some (tD q.1, 0)) (some (.int q.2, 0)) s') := by
  have hf : lb__law_paths_2 (le1 n most fd t (some (.lst A, 1)) (some (tD q.1, 0)) (some (.int q.2, 0)) s) = _ := forS_ok (rg2_int (i := -1) (j := most + 1) (env1 := le1 n most fd t (some (.lst A, 1)) (some (tD q.1, 0)) (some (.int q.2, 0)) s) (by generalize tD q.1 = P; simp [-List.map_map, fnF, en0, seqS, passS, noS, exprS, retS, retN, retM, putE, setS, iteS, vOfE, eOfV, oOfV, kI, kB, kS, kN, nmV, nmO, op1, op2, opC, tst, tru, truD, notT, andT, orT, blV, vbl, andV, orV, notV, iteE, aNil, aCons, lNil, lCons, tupE, lstE, dicE, Opd.get, callF, frR, callI, callL, own1, addD, subD, negD, cmpD, lenD, intD, tupD, lisD, absD, isiD, tyD, min2D, max2D, Pv.R.of, raiseS, asgS, nameG, nilG, consG, tupG, isD, nisD, isNB, opS, pNone, pSome, seqI', itsD, sItS, putD, wipeE, backE]) (by omega) (by omega))
  rw [hf]
  have hlen : (rgL (-1) (most + 1)).length ≤ 102 := by unfold rgL; simp; omega
  obtain ⟨e, he, s', rfl⟩ := loopS_ex (g := nameG 8) (body := lb__law_paths_1) D.int (rgL (-1) (most + 1)) (fun i env => ∃ s', env = le1 n most fd t (some (.lst (A ++ ((((rgL (-1) (most + 1)).take i).filter (okL n q.2)).map (stp q)).map pD), 1)) (some (tD q.1, 0)) (some (.int q.2, 0)) s') (le1 n most fd t (some (.lst A, 1)) (some (tD q.1, 0)) (some (.int q.2, 0)) s) ⟨s, by simp⟩ fun i hi env hP => by
    obtain ⟨s', rfl⟩ := hP
    have hAl : (A ++ ((((rgL (-1) (most + 1)).take i).filter (okL n q.2)).map (stp q)).map pD).length ≤ 15000000 := by
      have h1 := List.length_filter_le (okL n q.2) ((rgL (-1) (most + 1)).take i)
      have h2 : ((rgL (-1) (most + 1)).take i).length ≤ i := by rw [List.length_take]; omega
      simp only [List.length_append, List.length_map]
      omega
    have hs := lp_step n most fd t _ q (rgL (-1) (most + 1))[i] hAl hq
    refine ⟨_, _, ?_, hs, some (.int (rgL (-1) (most + 1))[i], 0), ?_⟩
    · generalize tD q.1 = P
      generalize (rgL (-1) (most + 1))[i] = v
      simp [-List.map_map, fnF, en0, seqS, passS, noS, exprS, retS, retN, retM, putE, setS, iteS, vOfE, eOfV, oOfV, kI, kB, kS, kN, nmV, nmO, op1, op2, opC, tst, tru, truD, notT, andT, orT, blV, vbl, andV, orV, notV, iteE, aNil, aCons, lNil, lCons, tupE, lstE, dicE, Opd.get, callF, frR, callI, callL, own1, addD, subD, negD, cmpD, lenD, intD, tupD, lisD, absD, isiD, tyD, min2D, max2D, Pv.R.of, raiseS, asgS, nameG, nilG, consG, tupG, isD, nisD, isNB, opS, pNone, pSome, seqI', itsD, sItS, putD, wipeE, backE]
    · rw [take_filter (okL n q.2) (stp q) hi]
      by_cases h : okL n q.2 (rgL (-1) (most + 1))[i] = true
      · rw [if_pos h, if_pos h, List.map_append, ← List.append_assoc]
        rfl
      · rw [if_neg h, if_neg h]
  rw [List.take_length] at he
  exact ⟨s', he⟩
theorem exL_len {most n : Int} {q : Pt} (hm : 0 ≤ most ∧ most ≤ 7) : (exL most n q).length ≤ 9 := by
  unfold exL
  have h := List.length_filter_le (fun s => decide (0 ≤ q.2 + s) && decide (q.2 + s ≤ n)) (rgL (-1) (most + 1))
  rw [List.length_map]
  have : (rgL (-1) (most + 1)).length ≤ 9 := by unfold rgL; simp; omega
  omega
theorem flat_len {α β : Type} {f : α → List β} {b : Nat} : ∀ {L : List α}, (∀ a ∈ L, (f a).length ≤ b) → (L.flatMap f).length ≤ L.length * b
  | [], _ => by simp
  | a :: L, h => by
    rw [List.flatMap_cons, List.length_append, List.length_cons, Nat.add_one_mul]
    have h1 := h a List.mem_cons_self
    have h2 := flat_len (f := f) fun c hc => h c (List.mem_cons_of_mem _ hc)
    omega
theorem lw_le {n : Nat} {most : Int} (hm : 0 ≤ most ∧ most ≤ 7) : ∀ t, (lw n most t).length ≤ 9 ^ t
  | 0 => by simp [lw]
  | t + 1 => by
    have h1 := flat_len (f := exL most n) (L := lw n most t) (b := 9) fun q _ => exL_len hm
    have h2 := lw_le (n := n) hm t
    rw [Nat.pow_succ]
    show ((lw n most t).flatMap (exL most n)).length ≤ _
    have := Nat.mul_le_mul_right 9 h2
    omega
theorem pow9 {t : Nat} (h : t ≤ 6) : 9 ^ t ≤ 531441 := by
  have : t = 0 ∨ t = 1 ∨ t = 2 ∨ t = 3 ∨ t = 4 ∨ t = 5 ∨ t = 6 := by omega
  rcases this with rfl | rfl | rfl | rfl | rfl | rfl | rfl <;> decide
theorem lp_turn {n : Nat} {most : Int} (hm : 0 ≤ most ∧ most ≤ 7) (t : Nat) (ht : t ≤ 6) (tt lo p h s : Sl) : ∃ lo' p' h' s', lb__law_paths_3 (le1 n most (some (.lst ((lw n most t).map pD), 1)) tt lo p h s) = .nx (le1 n most (some (.lst ((lw n most (t + 1)).map pD), 1)) tt lo' p' h' s') := by
  have hL := Nat.le_trans (lw_le (n := n) hm t) (pow9 ht)
  have a1 : setS 5 (lstE aNil) (le1 n most (some (.lst ((lw n most t).map pD), 1)) tt lo p h s) = .nx (le1 n most (some (.lst ((lw n most t).map pD), 1)) tt (some (.lst [], 1)) p h s) := by
    generalize (lw n most t).map pD = A
    simp [-List.map_map, fnF, en0, seqS, passS, noS, exprS, retS, retN, retM, putE, setS, iteS, vOfE, eOfV, oOfV, kI, kB, kS, kN, nmV, nmO, op1, op2, opC, tst, tru, truD, notT, andT, orT, blV, vbl, andV, orV, notV, iteE, aNil, aCons, lNil, lCons, tupE, lstE, dicE, Opd.get, callF, frR, callI, callL, own1, addD, subD, negD, cmpD, lenD, intD, tupD, lisD, absD, isiD, tyD, min2D, max2D, Pv.R.of, raiseS, asgS, nameG, nilG, consG, tupG, isD, nisD, isNB, opS, pNone, pSome, seqI', itsD, sItS, putD, wipeE, backE]
  obtain ⟨e, he, p', h', s', rfl⟩ := loopS_ex (g := tupG 2 (consG (nameG 6) (consG (nameG 7) nilG))) (body := lb__law_paths_2) pD (lw n most t) (fun i env => ∃ p' h' s', env = le1 n most (some (.lst ((lw n most t).map pD), 0)) tt (some (.lst ((((lw n most t).take i).flatMap (exL most n)).map pD), 1)) p' h' s') (le1 n most (some (.lst ((lw n most t).map pD), 0)) tt (some (.lst [], 1)) p h s) ⟨p, h, s, rfl⟩ fun i hi env hP => by
    obtain ⟨p', h', s', rfl⟩ := hP
    have hm' := lw_inv n most t _ (List.getElem_mem hi)
    have hAl : ((((lw n most t).take i).flatMap (exL most n)).map pD).length ≤ 10000000 := by
      rw [List.length_map]
      have h1 := flat_len (f := exL most n) (L := (lw n most t).take i) (b := 9) fun q _ => exL_len hm
      have h2 : ((lw n most t).take i).length ≤ i := by rw [List.length_take]; omega
      omega
    obtain ⟨s2, hs⟩ := lp_inner n most (some (.lst ((lw n most t).map pD), 0)) tt _ (lw n most t)[i] s' hAl (by omega) ⟨hm.1, by omega⟩
    refine ⟨_, _, ?_, hs, some (tD (lw n most t)[i].1, 0), some (.int (lw n most t)[i].2, 0), s2, ?_⟩
    · unfold pD
      generalize (((lw n most t).take i).flatMap (exL most n)).map (fun q => D.tup [tD q.1, .int q.2]) = B
      generalize (lw n most t).map (fun q => D.tup [tD q.1, .int q.2]) = A
      generalize tD (lw n most t)[i].1 = P
      generalize (lw n most t)[i].2 = H
      simp [-List.map_map, fnF, en0, seqS, passS, noS, exprS, retS, retN, retM, putE, setS, iteS, vOfE, eOfV, oOfV, kI, kB, kS, kN, nmV, nmO, op1, op2, opC, tst, tru, truD, notT, andT, orT, blV, vbl, andV, orV, notV, iteE, aNil, aCons, lNil, lCons, tupE, lstE, dicE, Opd.get, callF, frR, callI, callL, own1, addD, subD, negD, cmpD, lenD, intD, tupD, lisD, absD, isiD, tyD, min2D, max2D, Pv.R.of, raiseS, asgS, nameG, nilG, consG, tupG, isD, nisD, isNB, opS, pNone, pSome, seqI', itsD, sItS, putD, wipeE, backE]
    · rw [List.take_succ_eq_append_getElem hi, List.flatMap_append, List.map_append]
      simp
  rw [List.take_length] at he
  have a2 : (forS (seqI' ((nmV 3))) (tupG 2 (consG (nameG 6) (consG (nameG 7) nilG))) lb__law_paths_2) (le1 n most (some (.lst ((lw n most t).map pD), 1)) tt (some (.lst [], 1)) p h s) = .nx (le1 n most (some (.lst ((lw n most t).map pD), 0)) tt (some (.lst ((lw n most (t + 1)).map pD), 1)) p' h' s') := by
    refine (forS_ok (ds := (lw n most t).map pD) (env1 := le1 n most (some (.lst ((lw n most t).map pD), 0)) tt (some (.lst [], 1)) p h s) ?_).trans he
    generalize (lw n most t).map pD = A
    simp [-List.map_map, fnF, en0, seqS, passS, noS, exprS, retS, retN, retM, putE, setS, iteS, vOfE, eOfV, oOfV, kI, kB, kS, kN, nmV, nmO, op1, op2, opC, tst, tru, truD, notT, andT, orT, blV, vbl, andV, orV, notV, iteE, aNil, aCons, lNil, lCons, tupE, lstE, dicE, Opd.get, callF, frR, callI, callL, own1, addD, subD, negD, cmpD, lenD, intD, tupD, lisD, absD, isiD, tyD, min2D, max2D, Pv.R.of, raiseS, asgS, nameG, nilG, consG, tupG, isD, nisD, isNB, opS, pNone, pSome, seqI', itsD, sItS, putD, wipeE, backE]
  have a3 : (setS 3 ((op1 lisD (nmO 5)))) (le1 n most (some (.lst ((lw n most t).map pD), 0)) tt (some (.lst ((lw n most (t + 1)).map pD), 1)) p' h' s') = .nx (le1 n most (some (.lst ((lw n most (t + 1)).map pD), 1)) tt (some (.lst ((lw n most (t + 1)).map pD), 1)) p' h' s') := by
    generalize (lw n most (t + 1)).map pD = B
    generalize (lw n most t).map pD = A
    simp [-List.map_map, fnF, en0, seqS, passS, noS, exprS, retS, retN, retM, putE, setS, iteS, vOfE, eOfV, oOfV, kI, kB, kS, kN, nmV, nmO, op1, op2, opC, tst, tru, truD, notT, andT, orT, blV, vbl, andV, orV, notV, iteE, aNil, aCons, lNil, lCons, tupE, lstE, dicE, Opd.get, callF, frR, callI, callL, own1, addD, subD, negD, cmpD, lenD, intD, tupD, lisD, absD, isiD, tyD, min2D, max2D, Pv.R.of, raiseS, asgS, nameG, nilG, consG, tupG, isD, nisD, isNB, opS, pNone, pSome, seqI', itsD, sItS, putD, wipeE, backE]
  exact ⟨_, _, _, _, (seqS_nx a1).trans ((seqS_nx a2).trans a3)⟩
end L34
end

section
open Pv PySem PM Pa
set_option Elab.async false
set_option linter.all false
set_option maxRecDepth 100000
namespace L34
theorem ints_nI (xs : List Int) : D.ints (nI xs) = some xs := by
  induction xs with
  | nil => rfl
  | cons x xs ih =>
    unfold nI at ih ⊢
    rw [List.map_cons]
    simp [D.ints, ih]
theorem lex_le : ∀ {p q : List Int}, HT.lexLt p q = true → lexLe p q = true
  | [], _, _ => rfl
  | _ :: _, [], h => by cases h
  | x :: p, y :: q, h => by
    rw [HT.lexLt_cons] at h
    unfold lexLe
    split
    · rename_i e
      rw [if_pos e] at h
      exact lex_le h
    · rename_i e
      rw [if_neg e] at h
      exact h
theorem leK_tD (p q : List Int) : leK (tD p) (tD q) = lexLe p q := by
  unfold leK tD
  simp only [ints_nI]
/-- the paths back to 0 -/
def ends (n : Nat) (most : Int) : List (List Int) := ((lw n most n).filter fun q => decide (q.2 = 0)).map Prod.fst
theorem ends_asc (n : Nat) (most : Int) : (ends n most).Pairwise fun p q => HT.lexLt p q = true := by
  unfold ends
  rw [List.pairwise_map]
  exact (lw_asc n most n).filter _
theorem ends_mem {n : Nat} {most : Int} {p : List Int} (h : p ∈ ends n most) : p.length = n ∧ Pa.run most 0 p = some 0 := by
  obtain ⟨q, hq, rfl⟩ := List.mem_map.mp h
  obtain ⟨h1, h2⟩ := List.mem_filter.mp hq
  obtain ⟨a, b, c⟩ := lw_inv n most n q h1
  rw [of_decide_eq_true h2] at c
  exact ⟨a, c⟩
theorem sort_ends (n : Nat) (most : Int) : sortD (.lst ((ends n most).map tD)) = some (.lst ((ends n most).map tD), 1) := by
  have ho : sortOkB ((ends n most).map tD) = true := by
    unfold sortOkB
    cases n with
    | zero => rfl
    | succ n =>
      have : ((ends (n + 1) most).map tD).all intTup = true := by
        rw [List.all_eq_true]
        intro d hd
        obtain ⟨p, hp, rfl⟩ := List.mem_map.mp hd
        have hl := (ends_mem hp).1
        cases p with
        | nil => cases hl
        | cons x p =>
          show (D.ints (nI (x :: p))).isSome = true
          rw [ints_nI]
          rfl
      rw [this]
      rfl
  have hs : srt ((ends n most).map tD) = (ends n most).map tD := by
    unfold srt
    rw [msr_eq leK _ _ (Nat.le_succ _)]
    refine List.mergeSort_of_pairwise ?_
    rw [List.pairwise_map]
    exact (ends_asc n most).imp fun h => by rw [leK_tD]; exact lex_le h
  show sortL _ = _
  unfold sortL
  rw [if_pos ho, hs]
theorem lawpaths_ok {n : Nat} {most : Int} (hn : n ≤ 7) (hm : 0 ≤ most ∧ most ≤ 7) : F__law_paths none [.int n, .int most, .int (-1)] = .ok (.lst ((ends n most).map tD), 1) none := by
  have a1 : g__law_paths_1 (en0 9 none [.int n, .int most, .int (-1)]) = .nx (le1 n most (some (.lst ((lw n most 0).map pD), 1)) none none none none none) := by
    simp [-List.map_map, fnF, en0, seqS, passS, noS, exprS, retS, retN, retM, putE, setS, iteS, vOfE, eOfV, oOfV, kI, kB, kS, kN, nmV, nmO, op1, op2, opC, tst, tru, truD, notT, andT, orT, blV, vbl, andV, orV, notV, iteE, aNil, aCons, lNil, lCons, tupE, lstE, dicE, Opd.get, callF, frR, callI, callL, own1, addD, subD, negD, cmpD, lenD, intD, tupD, lisD, absD, isiD, tyD, min2D, max2D, Pv.R.of, raiseS, asgS, nameG, nilG, consG, tupG, isD, nisD, isNB, opS, pNone, pSome, seqI', itsD, sItS, putD, wipeE, backE]
    rfl
  obtain ⟨e, he, tt, lo, p, h, s, rfl⟩ := loopS_ex (g := nameG 4) (body := lb__law_paths_3) (fun k : Nat => D.int k) (List.range n) (fun i env => ∃ tt lo p h s, env = le1 n most (some (.lst ((lw n most i).map pD), 1)) tt lo p h s) (le1 n most (some (.lst ((lw n most 0).map pD), 1)) none none none none none) ⟨none, none, none, none, none, rfl⟩ fun i hi env hP => by
    obtain ⟨tt, lo, p, h, s, rfl⟩ := hP
    simp only [List.length_range] at hi
    obtain ⟨lo', p', h', s', hs⟩ := lp_turn (n := n) hm i (by omega) (some (.int i, 0)) lo p h s
    refine ⟨_, _, ?_, hs, _, _, _, _, _, rfl⟩
    generalize (lw n most i).map pD = A
    simp [-List.map_map, fnF, en0, seqS, passS, noS, exprS, retS, retN, retM, putE, setS, iteS, vOfE, eOfV, oOfV, kI, kB, kS, kN, nmV, nmO, op1, op2, opC, tst, tru, truD, notT, andT, orT, blV, vbl, andV, orV, notV, iteE, aNil, aCons, lNil, lCons, tupE, lstE, dicE, Opd.get, callF, frR, callI, callL, own1, addD, subD, negD, cmpD, lenD, intD, tupD, lisD, absD, isiD, tyD, min2D, max2D, Pv.R.of, raiseS, asgS, nameG, nilG, consG, tupG, isD, nisD, isNB, opS, pNone, pSome, seqI', itsD, sItS, putD, wipeE, backE, List.getElem_range]
  rw [List.length_range] at he
  have a2 : g__law_paths_2 (le1 n most (some (.lst ((lw n most 0).map pD), 1)) none none none none none) = .nx (le1 n most (some (.lst ((lw n most n).map pD), 1)) tt lo p h s) := (forS_ok (rg1_ok (n := n) (env1 := le1 n most (some (.lst ((lw n most 0).map pD), 1)) none none none none none) (by
    generalize (lw n most 0).map pD = A
    simp [-List.map_map, fnF, en0, seqS, passS, noS, exprS, retS, retN, retM, putE, setS, iteS, vOfE, eOfV, oOfV, kI, kB, kS, kN, nmV, nmO, op1, op2, opC, tst, tru, truD, notT, andT, orT, blV, vbl, andV, orV, notV, iteE, aNil, aCons, lNil, lCons, tupE, lstE, dicE, Opd.get, callF, frR, callI, callL, own1, addD, subD, negD, cmpD, lenD, intD, tupD, lisD, absD, isiD, tyD, min2D, max2D, Pv.R.of, raiseS, asgS, nameG, nilG, consG, tupG, isD, nisD, isNB, opS, pNone, pSome, seqI', itsD, sItS, putD, wipeE, backE]) (by omega))).trans he
  have hL : (lw n most n).length ≤ lim := by
    have h1 := lw_le (n := n) hm n
    have h2 : 9 ^ n ≤ 9 ^ 7 := Nat.pow_le_pow_right (by omega) hn
    exact Nat.le_trans h1 (Nat.le_trans h2 (by decide))
  obtain ⟨e2, c1⟩ : ∃ e2, cp__law_paths_1 (le1 n most (some (.lst ((lw n most n).map pD), 1)) tt lo p h s) = .ok (.lst ((ends n most).map tD), 1) e2 := by
    have ee : (ends n most).map tD = ((lw n most n).filter fun q => decide (q.2 = 0)).map fun q => tD q.1 := by
      unfold ends
      rw [List.map_map]
      rfl
    rw [ee]
    refine ⟨_, comp_filterT pD (fun q => tD q.1) (fun q => decide (q.2 = 0)) (le1 n most (some (.lst ((lw n most n).map pD), 0)) tt lo none none s) (env1 := le1 n most (some (.lst ((lw n most n).map pD), 0)) tt lo p h s) ?_ rfl rfl hL fun q hq => ?_⟩
    · generalize (lw n most n).map pD = A
      simp [-List.map_map, fnF, en0, seqS, passS, noS, exprS, retS, retN, retM, putE, setS, iteS, vOfE, eOfV, oOfV, kI, kB, kS, kN, nmV, nmO, op1, op2, opC, tst, tru, truD, notT, andT, orT, blV, vbl, andV, orV, notV, iteE, aNil, aCons, lNil, lCons, tupE, lstE, dicE, Opd.get, callF, frR, callI, callL, own1, addD, subD, negD, cmpD, lenD, intD, tupD, lisD, absD, isiD, tyD, min2D, max2D, Pv.R.of, raiseS, asgS, nameG, nilG, consG, tupG, isD, nisD, isNB, opS, pNone, pSome, seqI', itsD, sItS, putD, wipeE, backE]
    · refine ⟨le1 n most (some (.lst ((lw n most n).map pD), 0)) tt lo (some (tD q.1, 0)) (some (.int q.2, 0)) s, le1 n most (some (.lst ((lw n most n).map pD), 0)) tt lo (some (tD q.1, 0)) (some (.int q.2, 0)) s, ?_, ?_, fun _ => rfl, fun _ => ⟨le1 n most (some (.lst ((lw n most n).map pD), 0)) tt lo (some (tD q.1, 0)) (some (.int q.2, 0)) s, ?_, rfl⟩⟩
      · show (tupG 2 (consG (nameG 6) (consG (nameG 7) nilG))) (D.tup [tD q.1, .int q.2]) _ = _
        generalize (lw n most n).map pD = A
        generalize tD q.1 = P
        simp [-List.map_map, fnF, en0, seqS, passS, noS, exprS, retS, retN, retM, putE, setS, iteS, vOfE, eOfV, oOfV, kI, kB, kS, kN, nmV, nmO, op1, op2, opC, tst, tru, truD, notT, andT, orT, blV, vbl, andV, orV, notV, iteE, aNil, aCons, lNil, lCons, tupE, lstE, dicE, Opd.get, callF, frR, callI, callL, own1, addD, subD, negD, cmpD, lenD, intD, tupD, lisD, absD, isiD, tyD, min2D, max2D, Pv.R.of, raiseS, asgS, nameG, nilG, consG, tupG, isD, nisD, isNB, opS, pNone, pSome, seqI', itsD, sItS, putD, wipeE, backE]
      · generalize (lw n most n).map pD = A
        generalize tD q.1 = P
        by_cases z : q.2 = 0
        · simp [-List.map_map, fnF, en0, seqS, passS, noS, exprS, retS, retN, retM, putE, setS, iteS, vOfE, eOfV, oOfV, kI, kB, kS, kN, nmV, nmO, op1, op2, opC, tst, tru, truD, notT, andT, orT, blV, vbl, andV, orV, notV, iteE, aNil, aCons, lNil, lCons, tupE, lstE, dicE, Opd.get, callF, frR, callI, callL, own1, addD, subD, negD, cmpD, lenD, intD, tupD, lisD, absD, isiD, tyD, min2D, max2D, Pv.R.of, raiseS, asgS, nameG, nilG, consG, tupG, isD, nisD, isNB, opS, pNone, pSome, seqI', itsD, sItS, putD, wipeE, backE, z, eqD]
        · simp [-List.map_map, fnF, en0, seqS, passS, noS, exprS, retS, retN, retM, putE, setS, iteS, vOfE, eOfV, oOfV, kI, kB, kS, kN, nmV, nmO, op1, op2, opC, tst, tru, truD, notT, andT, orT, blV, vbl, andV, orV, notV, iteE, aNil, aCons, lNil, lCons, tupE, lstE, dicE, Opd.get, callF, frR, callI, callL, own1, addD, subD, negD, cmpD, lenD, intD, tupD, lisD, absD, isiD, tyD, min2D, max2D, Pv.R.of, raiseS, asgS, nameG, nilG, consG, tupG, isD, nisD, isNB, opS, pNone, pSome, seqI', itsD, sItS, putD, wipeE, backE, z, eqD]
      · generalize (lw n most n).map pD = A
        generalize tD q.1 = P
        simp [-List.map_map, fnF, en0, seqS, passS, noS, exprS, retS, retN, retM, putE, setS, iteS, vOfE, eOfV, oOfV, kI, kB, kS, kN, nmV, nmO, op1, op2, opC, tst, tru, truD, notT, andT, orT, blV, vbl, andV, orV, notV, iteE, aNil, aCons, lNil, lCons, tupE, lstE, dicE, Opd.get, callF, frR, callI, callL, own1, addD, subD, negD, cmpD, lenD, intD, tupD, lisD, absD, isiD, tyD, min2D, max2D, Pv.R.of, raiseS, asgS, nameG, nilG, consG, tupG, isD, nisD, isNB, opS, pNone, pSome, seqI', itsD, sItS, putD, wipeE, backE]
  have hs := sort_ends n most
  have a3 : g__law_paths_3 (le1 n most (some (.lst ((lw n most n).map pD), 1)) tt lo p h s) = .ret (.lst ((ends n most).map tD), 1) e2 := by
    generalize (ends n most).map tD = B at *
    generalize (lw n most n).map pD = A at *
    simp [-List.map_map, fnF, en0, seqS, passS, noS, exprS, retS, retN, retM, putE, setS, iteS, vOfE, eOfV, oOfV, kI, kB, kS, kN, nmV, nmO, op1, op2, opC, tst, tru, truD, notT, andT, orT, blV, vbl, andV, orV, notV, iteE, aNil, aCons, lNil, lCons, tupE, lstE, dicE, Opd.get, callF, frR, callI, callL, own1, addD, subD, negD, cmpD, lenD, intD, tupD, lisD, absD, isiD, tyD, min2D, max2D, Pv.R.of, raiseS, asgS, nameG, nilG, consG, tupG, isD, nisD, isNB, opS, pNone, pSome, seqI', itsD, sItS, putD, wipeE, backE, c1, hs]
  exact fnF_ret ((seqS_nx a1).trans ((seqS_nx a2).trans a3))
end L34
end

section
open Pv PySem PM Pa
set_option Elab.async false
set_option linter.all false
set_option maxRecDepth 100000
namespace L34
/-! the program's list -/
abbrev pe (n most : Int) (fd lf lo p h s : Sl) : En := [some (.int n, 0), some (.int most, 0), fd, lf, lo, p, h, s, none]
theorem pt_step (n most : Int) (fd lf : Sl) (A : List D) (q : Pt) (s : Int) (hA : A.length ≤ 15000000) (hq : q.1.length ≤ 100) : lb_paths_to_1 (pe n most fd lf (some (.lst A, 1)) (some (tD q.1, 0)) (some (.int q.2, 0)) (some (.int s, 0))) = .nx (pe n most fd lf (some (.lst (if decide (0 ≤ q.2 + s) = true then A ++ [pD (stp q s)] else A), 1)) (some (tD q.1, 0)) (some (.int q.2, 0)) (some (.int s, 0))) := by
  have hl := lim_lt hA
  have l1 : (nI q.1).length + 1 ≤ lim := le_lim (by simp [nI]; omega)
  unfold tD
  by_cases h : 0 ≤ q.2 + s
  · rw [if_pos (decide_eq_true h), pD_stp]
    generalize nI q.1 = P at *
    have hc : (tst (op2 (cmpD fun i j => decide (j ≤ i)) (oOfV ((vOfE (op2 addD (nmO 6) (nmO 7))))) (oOfV (kI 0)))) (pe n most fd lf (some (.lst A, 1)) (some (.tup P, 0)) (some (.int q.2, 0)) (some (.int s, 0))) = .ok true (pe n most fd lf (some (.lst A, 1)) (some (.tup P, 0)) (some (.int q.2, 0)) (some (.int s, 0))) := by
      simp [-List.map_map, fnF, en0, seqS, passS, noS, exprS, retS, retN, retM, putE, setS, iteS, vOfE, eOfV, oOfV, kI, kB, kS, kN, nmV, nmO, op1, op2, opC, tst, tru, truD, notT, andT, orT, blV, vbl, andV, orV, notV, iteE, aNil, aCons, lNil, lCons, tupE, lstE, dicE, Opd.get, callF, frR, callI, callL, own1, addD, subD, negD, cmpD, lenD, intD, tupD, lisD, absD, isiD, tyD, min2D, max2D, Pv.R.of, raiseS, asgS, nameG, nilG, consG, tupG, isD, nisD, isNB, opS, pNone, pSome, seqI', itsD, sItS, putD, wipeE, backE, h]
    refine (iteS_t hc).trans ?_
    unfold appS
    rw [if_pos (by rfl)]
    simp [-List.map_map, fnF, en0, seqS, passS, noS, exprS, retS, retN, retM, putE, setS, iteS, vOfE, eOfV, oOfV, kI, kB, kS, kN, nmV, nmO, op1, op2, opC, tst, tru, truD, notT, andT, orT, blV, vbl, andV, orV, notV, iteE, aNil, aCons, lNil, lCons, tupE, lstE, dicE, Opd.get, callF, frR, callI, callL, own1, addD, subD, negD, cmpD, lenD, intD, tupD, lisD, absD, isiD, tyD, min2D, max2D, Pv.R.of, raiseS, asgS, nameG, nilG, consG, tupG, isD, nisD, isNB, opS, pNone, pSome, seqI', itsD, sItS, putD, wipeE, backE, l1, hl]
  · rw [if_neg (by simpa using h)]
    generalize nI q.1 = P
    simp [-List.map_map, fnF, en0, seqS, passS, noS, exprS, retS, retN, retM, putE, setS, iteS, vOfE, eOfV, oOfV, kI, kB, kS, kN, nmV, nmO, op1, op2, opC, tst, tru, truD, notT, andT, orT, blV, vbl, andV, orV, notV, iteE, aNil, aCons, lNil, lCons, tupE, lstE, dicE, Opd.get, callF, frR, callI, callL, own1, addD, subD, negD, cmpD, lenD, intD, tupD, lisD, absD, isiD, tyD, min2D, max2D, Pv.R.of, raiseS, asgS, nameG, nilG, consG, tupG, isD, nisD, isNB, opS, pNone, pSome, seqI', itsD, sItS, putD, wipeE, backE, h]
theorem pt_inner (n most left : Int) (fd : Sl) (A : List D) (q : Pt) (s : Sl) (hA : A.length ≤ 10000000) (hq : q.1.length ≤ 100) (hm : 0 ≤ most ∧ most ≤ 100) (hlf : -1 ≤ left - q.2 ∧ left - q.2 ≤ 100) : ∃ s', lb_paths_to_2 (pe n most fd (some (.int left, 0)) (some (.lst A, 1)) (some (tD q.1, 0)) (some (.int q.2, 0)) s) = .nx (pe n most fd (some (.int left, 0)) (some (.lst (A ++ (exP most left q).map pD), 1)) (some (tD q.1, 0)) (some (.int q.2, 0)) s') := by
  have hmin : min most (left - q.2) + 1 = min most (left - q.2) + 1 := rfl
  have hb : -1 ≤ min most (left - q.2) ∧ min most (left - q.2) ≤ 100 := by omega
  have hf : lb_paths_to_2 (pe n most fd (some (.int left, 0)) (some (.lst A, 1)) (some (tD q.1, 0)) (some (.int q.2, 0)) s) = _ := forS_ok (rg2_int (i := -1) (j := min most (left - q.2) + 1) (env1 := pe n most fd (some (.int left, 0)) (some (.lst A, 1)) (some (tD q.1, 0)) (some (.int q.2, 0)) s) (by generalize tD q.1 = P; simp [-List.map_map, fnF, en0, seqS, passS, noS, exprS, retS, retN, retM, putE, setS, iteS, vOfE, eOfV, oOfV, kI, kB, kS, kN, nmV, nmO, op1, op2, opC, tst, tru, truD, notT, andT, orT, blV, vbl, andV, orV, notV, iteE, aNil, aCons, lNil, lCons, tupE, lstE, dicE, Opd.get, callF, frR, callI, callL, own1, addD, subD, negD, cmpD, lenD, intD, tupD, lisD, absD, isiD, tyD, min2D, max2D, Pv.R.of, raiseS, asgS, nameG, nilG, consG, tupG, isD, nisD, isNB, opS, pNone, pSome, seqI', itsD, sItS, putD, wipeE, backE]) (by omega) (by omega))
  rw [hf]
  have hlen : (rgL (-1) (min most (left - q.2) + 1)).length ≤ 102 := by
    unfold rgL
    rw [List.length_map, List.length_range]
    omega
  unfold exP
  generalize rgL (-1) (min most (left - q.2) + 1) = G at *
  obtain ⟨e, he, s', rfl⟩ := loopS_ex (g := nameG 7) (body := lb_paths_to_1) D.int G (fun i env => ∃ s', env = pe n most fd (some (.int left, 0)) (some (.lst (A ++ (((G.take i).filter fun s => decide (0 ≤ q.2 + s)).map (stp q)).map pD), 1)) (some (tD q.1, 0)) (some (.int q.2, 0)) s') (pe n most fd (some (.int left, 0)) (some (.lst A, 1)) (some (tD q.1, 0)) (some (.int q.2, 0)) s) ⟨s, by simp⟩ fun i hi env hP => by
    obtain ⟨s', rfl⟩ := hP
    have hAl : (A ++ (((G.take i).filter fun s => decide (0 ≤ q.2 + s)).map (stp q)).map pD).length ≤ 15000000 := by
      have h1 := List.length_filter_le (fun s => decide (0 ≤ q.2 + s)) (G.take i)
      have h2 : (G.take i).length ≤ i := by rw [List.length_take]; omega
      simp only [List.length_append, List.length_map]
      omega
    have hs := pt_step n most fd (some (.int left, 0)) _ q G[i] hAl hq
    refine ⟨_, _, ?_, hs, some (.int G[i], 0), ?_⟩
    · generalize tD q.1 = P
      generalize G[i] = v
      simp [-List.map_map, fnF, en0, seqS, passS, noS, exprS, retS, retN, retM, putE, setS, iteS, vOfE, eOfV, oOfV, kI, kB, kS, kN, nmV, nmO, op1, op2, opC, tst, tru, truD, notT, andT, orT, blV, vbl, andV, orV, notV, iteE, aNil, aCons, lNil, lCons, tupE, lstE, dicE, Opd.get, callF, frR, callI, callL, own1, addD, subD, negD, cmpD, lenD, intD, tupD, lisD, absD, isiD, tyD, min2D, max2D, Pv.R.of, raiseS, asgS, nameG, nilG, consG, tupG, isD, nisD, isNB, opS, pNone, pSome, seqI', itsD, sItS, putD, wipeE, backE]
    · rw [take_filter (fun s => decide (0 ≤ q.2 + s)) (stp q) hi]
      by_cases h : decide (0 ≤ q.2 + G[i]) = true
      · rw [if_pos h, if_pos h, List.map_append, ← List.append_assoc]
        rfl
      · rw [if_neg h, if_neg h]
  rw [List.take_length] at he
  exact ⟨s', he⟩
theorem exP_len {most left : Int} {q : Pt} (hm : 0 ≤ most ∧ most ≤ 12) : (exP most left q).length ≤ 14 := by
  unfold exP
  have h := List.length_filter_le (fun s => decide (0 ≤ q.2 + s)) (rgL (-1) (min most (left - q.2) + 1))
  rw [List.length_map]
  have : (rgL (-1) (min most (left - q.2) + 1)).length ≤ 14 := by
    unfold rgL
    rw [List.length_map, List.length_range]
    omega
  omega
/-- how many there are at each turn -/
theorem few1 : ∀ n, n < 10 → ∀ t, t < n + 1 → (htP n 1 t).length ≤ 5000 := by decide +kernel
theorem few12 : ∀ n, n < 10 → ∀ t, t < n + 1 → (htP n 12 t).length ≤ 5000 := by decide +kernel
theorem prg_le {n : Nat} {most : Int} (hn : n ≤ 9) (hm : most = 1 ∨ most = 12) {t : Nat} (ht : t ≤ n) : (prg n most t).length ≤ 5000 := by
  rw [prg_len]
  rcases hm with rfl | rfl
  · exact few1 n (by omega) t (by omega)
  · exact few12 n (by omega) t (by omega)
theorem prg_inv {n : Nat} {most : Int} : ∀ {t : Nat} {q : Pt}, t ≤ n → q ∈ prg n most t → q.1.length = t ∧ 0 ≤ q.2 ∧ q.2 ≤ (n : Int) - t ∧ Pa.run most 0 q.1 = some q.2
  | 0, q, _, h => by
    have : q = ([], 0) := by simpa [prg] using h
    subst this
    exact ⟨rfl, by simp, by simp, rfl⟩
  | t + 1, q, ht, h => by
    obtain ⟨r, hr, hq⟩ := List.mem_flatMap.mp h
    obtain ⟨h1, h2, h3, h4⟩ := prg_inv (t := t) (by omega) hr
    unfold exP at hq
    obtain ⟨s, hs, rfl⟩ := List.mem_map.mp hq
    obtain ⟨a1, a2⟩ := List.mem_filter.mp hs
    have a3 := mem_rgL.mp a1
    have a4 := of_decide_eq_true a2
    refine ⟨by simp [stp, h1], a4, ?_, ?_⟩
    · show r.2 + s ≤ _
      omega
    · show Pa.run most 0 (r.1 ++ [s]) = some (r.2 + s)
      rw [run_snoc, h4, Option.bind_some, if_neg (by omega)]
theorem pt_turn {n : Nat} {most : Int} (hn : n ≤ 9) (hm : most = 1 ∨ most = 12) (t : Nat) (ht : t < n) (lo p h s : Sl) : ∃ lo' p' h' s', lb_paths_to_3 (pe n most (some (.lst ((prg n most t).map pD), 1)) (some (.int ((n : Int) - 1 - t), 0)) lo p h s) = .nx (pe n most (some (.lst ((prg n most (t + 1)).map pD), 1)) (some (.int ((n : Int) - 1 - t), 0)) lo' p' h' s') := by
  have hL := prg_le hn hm (t := t) (by omega)
  have hm2 : 0 ≤ most ∧ most ≤ 12 := by omega
  have a1 : setS 4 (lstE aNil) (pe n most (some (.lst ((prg n most t).map pD), 1)) (some (.int ((n : Int) - 1 - t), 0)) lo p h s) = .nx (pe n most (some (.lst ((prg n most t).map pD), 1)) (some (.int ((n : Int) - 1 - t), 0)) (some (.lst [], 1)) p h s) := by
    generalize (prg n most t).map pD = A
    simp [-List.map_map, fnF, en0, seqS, passS, noS, exprS, retS, retN, retM, putE, setS, iteS, vOfE, eOfV, oOfV, kI, kB, kS, kN, nmV, nmO, op1, op2, opC, tst, tru, truD, notT, andT, orT, blV, vbl, andV, orV, notV, iteE, aNil, aCons, lNil, lCons, tupE, lstE, dicE, Opd.get, callF, frR, callI, callL, own1, addD, subD, negD, cmpD, lenD, intD, tupD, lisD, absD, isiD, tyD, min2D, max2D, Pv.R.of, raiseS, asgS, nameG, nilG, consG, tupG, isD, nisD, isNB, opS, pNone, pSome, seqI', itsD, sItS, putD, wipeE, backE]
  obtain ⟨e, he, p', h', s', rfl⟩ := loopS_ex (g := tupG 2 (consG (nameG 5) (consG (nameG 6) nilG))) (body := lb_paths_to_2) pD (prg n most t) (fun i env => ∃ p' h' s', env = pe n most (some (.lst ((prg n most t).map pD), 0)) (some (.int ((n : Int) - 1 - t), 0)) (some (.lst ((((prg n most t).take i).flatMap (exP most ((n : Int) - 1 - t))).map pD), 1)) p' h' s') (pe n most (some (.lst ((prg n most t).map pD), 0)) (some (.int ((n : Int) - 1 - t), 0)) (some (.lst [], 1)) p h s) ⟨p, h, s, rfl⟩ fun i hi env hP => by
    obtain ⟨p', h', s', rfl⟩ := hP
    have hi2 := prg_inv (t := t) (by omega) (List.getElem_mem hi)
    have hAl : ((((prg n most t).take i).flatMap (exP most ((n : Int) - 1 - t))).map pD).length ≤ 10000000 := by
      rw [List.length_map]
      have h1 := flat_len (f := exP most ((n : Int) - 1 - t)) (L := (prg n most t).take i) (b := 14) fun q _ => exP_len hm2
      have h2 : ((prg n most t).take i).length ≤ i := by rw [List.length_take]; omega
      omega
    obtain ⟨s2, hs⟩ := pt_inner n most ((n : Int) - 1 - t) (some (.lst ((prg n most t).map pD), 0)) _ (prg n most t)[i] s' hAl (by omega) ⟨hm2.1, by omega⟩ (by omega)
    refine ⟨_, _, ?_, hs, some (tD (prg n most t)[i].1, 0), some (.int (prg n most t)[i].2, 0), s2, ?_⟩
    · unfold pD
      generalize (((prg n most t).take i).flatMap (exP most ((n : Int) - 1 - t))).map (fun q => D.tup [tD q.1, .int q.2]) = B
      generalize (prg n most t).map (fun q => D.tup [tD q.1, .int q.2]) = A
      generalize tD (prg n most t)[i].1 = P
      generalize (prg n most t)[i].2 = H
      simp [-List.map_map, fnF, en0, seqS, passS, noS, exprS, retS, retN, retM, putE, setS, iteS, vOfE, eOfV, oOfV, kI, kB, kS, kN, nmV, nmO, op1, op2, opC, tst, tru, truD, notT, andT, orT, blV, vbl, andV, orV, notV, iteE, aNil, aCons, lNil, lCons, tupE, lstE, dicE, Opd.get, callF, frR, callI, callL, own1, addD, subD, negD, cmpD, lenD, intD, tupD, lisD, absD, isiD, tyD, min2D, max2D, Pv.R.of, raiseS, asgS, nameG, nilG, consG, tupG, isD, nisD, isNB, opS, pNone, pSome, seqI', itsD, sItS, putD, wipeE, backE]
    · rw [List.take_succ_eq_append_getElem hi, List.flatMap_append, List.map_append]
      simp
  rw [List.take_length] at he
  have a2 : (forS (seqI' ((nmV 2))) (tupG 2 (consG (nameG 5) (consG (nameG 6) nilG))) lb_paths_to_2) (pe n most (some (.lst ((prg n most t).map pD), 1)) (some (.int ((n : Int) - 1 - t), 0)) (some (.lst [], 1)) p h s) = .nx (pe n most (some (.lst ((prg n most t).map pD), 0)) (some (.int ((n : Int) - 1 - t), 0)) (some (.lst ((prg n most (t + 1)).map pD), 1)) p' h' s') := by
    refine (forS_ok (ds := (prg n most t).map pD) (env1 := pe n most (some (.lst ((prg n most t).map pD), 0)) (some (.int ((n : Int) - 1 - t), 0)) (some (.lst [], 1)) p h s) ?_).trans he
    generalize (prg n most t).map pD = A
    simp [-List.map_map, fnF, en0, seqS, passS, noS, exprS, retS, retN, retM, putE, setS, iteS, vOfE, eOfV, oOfV, kI, kB, kS, kN, nmV, nmO, op1, op2, opC, tst, tru, truD, notT, andT, orT, blV, vbl, andV, orV, notV, iteE, aNil, aCons, lNil, lCons, tupE, lstE, dicE, Opd.get, callF, frR, callI, callL, own1, addD, subD, negD, cmpD, lenD, intD, tupD, lisD, absD, isiD, tyD, min2D, max2D, Pv.R.of, raiseS, asgS, nameG, nilG, consG, tupG, isD, nisD, isNB, opS, pNone, pSome, seqI', itsD, sItS, putD, wipeE, backE]
  have a3 : (setS 2 ((op1 lisD (nmO 4)))) (pe n most (some (.lst ((prg n most t).map pD), 0)) (some (.int ((n : Int) - 1 - t), 0)) (some (.lst ((prg n most (t + 1)).map pD), 1)) p' h' s') = .nx (pe n most (some (.lst ((prg n most (t + 1)).map pD), 1)) (some (.int ((n : Int) - 1 - t), 0)) (some (.lst ((prg n most (t + 1)).map pD), 1)) p' h' s') := by
    generalize (prg n most (t + 1)).map pD = B
    generalize (prg n most t).map pD = A
    simp [-List.map_map, fnF, en0, seqS, passS, noS, exprS, retS, retN, retM, putE, setS, iteS, vOfE, eOfV, oOfV, kI, kB, kS, kN, nmV, nmO, op1, op2, opC, tst, tru, truD, notT, andT, orT, blV, vbl, andV, orV, notV, iteE, aNil, aCons, lNil, lCons, tupE, lstE, dicE, Opd.get, callF, frR, callI, callL, own1, addD, subD, negD, cmpD, lenD, intD, tupD, lisD, absD, isiD, tyD, min2D, max2D, Pv.R.of, raiseS, asgS, nameG, nilG, consG, tupG, isD, nisD, isNB, opS, pNone, pSome, seqI', itsD, sItS, putD, wipeE, backE]
  exact ⟨_, _, _, _, (seqS_nx a1).trans ((seqS_nx a2).trans a3)⟩
theorem rg3_down {n : Nat} (hn : n ≤ 9) : rg3D [.int ((n : Int) - 1), .int (-1), .int (-1)] = some ((List.range n).map fun k : Nat => .int ((n : Int) - 1 - k)) := by
  have : n = 0 ∨ n = 1 ∨ n = 2 ∨ n = 3 ∨ n = 4 ∨ n = 5 ∨ n = 6 ∨ n = 7 ∨ n = 8 ∨ n = 9 := by omega
  rcases this with rfl | rfl | rfl | rfl | rfl | rfl | rfl | rfl | rfl | rfl <;> kernel_rfl
theorem pathsto_ok {n : Nat} {most : Int} (hn : n ≤ 9) (hm : most = 1 ∨ most = 12) : F_paths_to none [.int n, .int most] = .ok (.lst (((prg n most n).map Prod.fst).map tD), 1) none := by
  have a1 : g_paths_to_1 (en0 9 none [.int n, .int most]) = .nx (pe n most (some (.lst ((prg n most 0).map pD), 1)) none none none none none) := by
    simp [-List.map_map, fnF, en0, seqS, passS, noS, exprS, retS, retN, retM, putE, setS, iteS, vOfE, eOfV, oOfV, kI, kB, kS, kN, nmV, nmO, op1, op2, opC, tst, tru, truD, notT, andT, orT, blV, vbl, andV, orV, notV, iteE, aNil, aCons, lNil, lCons, tupE, lstE, dicE, Opd.get, callF, frR, callI, callL, own1, addD, subD, negD, cmpD, lenD, intD, tupD, lisD, absD, isiD, tyD, min2D, max2D, Pv.R.of, raiseS, asgS, nameG, nilG, consG, tupG, isD, nisD, isNB, opS, pNone, pSome, seqI', itsD, sItS, putD, wipeE, backE]
    rfl
  obtain ⟨e, he, lf, lo, p, h, s, rfl⟩ := loopS_ex (g := nameG 3) (body := lb_paths_to_3) (fun k : Nat => D.int ((n : Int) - 1 - k)) (List.range n) (fun i env => ∃ lf lo p h s, env = pe n most (some (.lst ((prg n most i).map pD), 1)) lf lo p h s) (pe n most (some (.lst ((prg n most 0).map pD), 1)) none none none none none) ⟨none, none, none, none, none, rfl⟩ fun i hi env hP => by
    obtain ⟨lf, lo, p, h, s, rfl⟩ := hP
    simp only [List.length_range] at hi
    obtain ⟨lo', p', h', s', hs⟩ := pt_turn hn hm i hi lo p h s
    refine ⟨_, _, ?_, hs, _, _, _, _, _, rfl⟩
    generalize (prg n most i).map pD = A
    simp [-List.map_map, fnF, en0, seqS, passS, noS, exprS, retS, retN, retM, putE, setS, iteS, vOfE, eOfV, oOfV, kI, kB, kS, kN, nmV, nmO, op1, op2, opC, tst, tru, truD, notT, andT, orT, blV, vbl, andV, orV, notV, iteE, aNil, aCons, lNil, lCons, tupE, lstE, dicE, Opd.get, callF, frR, callI, callL, own1, addD, subD, negD, cmpD, lenD, intD, tupD, lisD, absD, isiD, tyD, min2D, max2D, Pv.R.of, raiseS, asgS, nameG, nilG, consG, tupG, isD, nisD, isNB, opS, pNone, pSome, seqI', itsD, sItS, putD, wipeE, backE, List.getElem_range]
  rw [List.length_range] at he
  have a2 : g_paths_to_2 (pe n most (some (.lst ((prg n most 0).map pD), 1)) none none none none none) = .nx (pe n most (some (.lst ((prg n most n).map pD), 1)) lf lo p h s) := by
    refine (forS_ok (ds := (List.range n).map fun k : Nat => .int ((n : Int) - 1 - k)) (env1 := pe n most (some (.lst ((prg n most 0).map pD), 1)) none none none none none) ?_).trans he
    have h3 := rg3_down hn
    generalize (prg n most 0).map pD = A
    generalize (List.range n).map (fun k : Nat => D.int ((n : Int) - 1 - k)) = B at *
    unfold rg3
    simp [-List.map_map, fnF, en0, seqS, passS, noS, exprS, retS, retN, retM, putE, setS, iteS, vOfE, eOfV, oOfV, kI, kB, kS, kN, nmV, nmO, op1, op2, opC, tst, tru, truD, notT, andT, orT, blV, vbl, andV, orV, notV, iteE, aNil, aCons, lNil, lCons, tupE, lstE, dicE, Opd.get, callF, frR, callI, callL, own1, addD, subD, negD, cmpD, lenD, intD, tupD, lisD, absD, isiD, tyD, min2D, max2D, Pv.R.of, raiseS, asgS, nameG, nilG, consG, tupG, isD, nisD, isNB, opS, pNone, pSome, seqI', itsD, sItS, putD, wipeE, backE, h3]
  obtain ⟨e2, c1⟩ : ∃ e2, cp_paths_to_1 (pe n most (some (.lst ((prg n most n).map pD), 1)) lf lo p h s) = .ok (.lst (((prg n most n).map Prod.fst).map tD), 1) e2 := by
    rw [List.map_map]
    refine ⟨_, comp_mapT pD (tD ∘ Prod.fst) (pe n most (some (.lst ((prg n most n).map pD), 0)) lf lo none h s) (env1 := pe n most (some (.lst ((prg n most n).map pD), 0)) lf lo p h s) ?_ rfl rfl (Nat.le_trans (prg_le hn hm (Nat.le_refl n)) (by decide)) fun q hq => ?_⟩
    · generalize (prg n most n).map pD = A
      simp [-List.map_map, fnF, en0, seqS, passS, noS, exprS, retS, retN, retM, putE, setS, iteS, vOfE, eOfV, oOfV, kI, kB, kS, kN, nmV, nmO, op1, op2, opC, tst, tru, truD, notT, andT, orT, blV, vbl, andV, orV, notV, iteE, aNil, aCons, lNil, lCons, tupE, lstE, dicE, Opd.get, callF, frR, callI, callL, own1, addD, subD, negD, cmpD, lenD, intD, tupD, lisD, absD, isiD, tyD, min2D, max2D, Pv.R.of, raiseS, asgS, nameG, nilG, consG, tupG, isD, nisD, isNB, opS, pNone, pSome, seqI', itsD, sItS, putD, wipeE, backE]
    · refine ⟨[some (.int n, 0), some (.int most, 0), some (.lst ((prg n most n).map pD), 0), lf, lo, some (tD q.1, 0), h, s, some (.int q.2, 0)], [some (.int n, 0), some (.int most, 0), some (.lst ((prg n most n).map pD), 0), lf, lo, some (tD q.1, 0), h, s, some (.int q.2, 0)], [some (.int n, 0), some (.int most, 0), some (.lst ((prg n most n).map pD), 0), lf, lo, some (tD q.1, 0), h, s, some (.int q.2, 0)], ?_, rfl, ?_, rfl⟩
      · show (tupG 2 (consG (nameG 5) (consG (nameG 8) nilG))) (D.tup [tD q.1, .int q.2]) _ = _
        generalize (prg n most n).map pD = A
        generalize tD q.1 = P
        simp [-List.map_map, fnF, en0, seqS, passS, noS, exprS, retS, retN, retM, putE, setS, iteS, vOfE, eOfV, oOfV, kI, kB, kS, kN, nmV, nmO, op1, op2, opC, tst, tru, truD, notT, andT, orT, blV, vbl, andV, orV, notV, iteE, aNil, aCons, lNil, lCons, tupE, lstE, dicE, Opd.get, callF, frR, callI, callL, own1, addD, subD, negD, cmpD, lenD, intD, tupD, lisD, absD, isiD, tyD, min2D, max2D, Pv.R.of, raiseS, asgS, nameG, nilG, consG, tupG, isD, nisD, isNB, opS, pNone, pSome, seqI', itsD, sItS, putD, wipeE, backE]
      · show _ = R.ok (tD q.1, 0) _
        generalize (prg n most n).map pD = A
        generalize tD q.1 = P
        simp [-List.map_map, fnF, en0, seqS, passS, noS, exprS, retS, retN, retM, putE, setS, iteS, vOfE, eOfV, oOfV, kI, kB, kS, kN, nmV, nmO, op1, op2, opC, tst, tru, truD, notT, andT, orT, blV, vbl, andV, orV, notV, iteE, aNil, aCons, lNil, lCons, tupE, lstE, dicE, Opd.get, callF, frR, callI, callL, own1, addD, subD, negD, cmpD, lenD, intD, tupD, lisD, absD, isiD, tyD, min2D, max2D, Pv.R.of, raiseS, asgS, nameG, nilG, consG, tupG, isD, nisD, isNB, opS, pNone, pSome, seqI', itsD, sItS, putD, wipeE, backE]
  have a3 : g_paths_to_3 (pe n most (some (.lst ((prg n most n).map pD), 1)) lf lo p h s) = .ret (.lst (((prg n most n).map Prod.fst).map tD), 1) e2 := by
    generalize ((prg n most n).map Prod.fst).map tD = B at *
    generalize (prg n most n).map pD = A at *
    simp [-List.map_map, fnF, en0, seqS, passS, noS, exprS, retS, retN, retM, putE, setS, iteS, vOfE, eOfV, oOfV, kI, kB, kS, kN, nmV, nmO, op1, op2, opC, tst, tru, truD, notT, andT, orT, blV, vbl, andV, orV, notV, iteE, aNil, aCons, lNil, lCons, tupE, lstE, dicE, Opd.get, callF, frR, callI, callL, own1, addD, subD, negD, cmpD, lenD, intD, tupD, lisD, absD, isiD, tyD, min2D, max2D, Pv.R.of, raiseS, asgS, nameG, nilG, consG, tupG, isD, nisD, isNB, opS, pNone, pSome, seqI', itsD, sItS, putD, wipeE, backE, c1]
  exact fnF_ret ((seqS_nx a1).trans ((seqS_nx a2).trans a3))
end L34
end

section
open Pv PySem PM Pa
set_option Elab.async false
set_option linter.all false
set_option maxRecDepth 100000
namespace L34
/-! what is told -/
def isI : D → Bool
  | .int _ => true
  | _ => false
theorem isint_any (d : D) (h : tyD d ≠ none) : F_is_integer none [d] = .ok (.bl (isI d), 0) none := by
  cases d with
  | fn _ => exact (h rfl).elim
  | non => unfold F_is_integer g_is_integer; simp [-List.map_map, fnF, en0, seqS, passS, noS, exprS, retS, retN, retM, putE, setS, iteS, vOfE, eOfV, oOfV, kI, kB, kS, kN, nmV, nmO, op1, op2, opC, tst, tru, truD, notT, andT, orT, blV, vbl, andV, orV, notV, iteE, aNil, aCons, lNil, lCons, tupE, lstE, dicE, Opd.get, callF, frR, callI, callL, own1, addD, subD, negD, cmpD, lenD, intD, tupD, lisD, absD, isiD, tyD, min2D, max2D, Pv.R.of, raiseS, asgS, nameG, nilG, consG, tupG, isD, nisD, isNB, opS, pNone, pSome, seqI', itsD, sItS, putD, wipeE, backE, isI]
  | bl _ => unfold F_is_integer g_is_integer; simp [-List.map_map, fnF, en0, seqS, passS, noS, exprS, retS, retN, retM, putE, setS, iteS, vOfE, eOfV, oOfV, kI, kB, kS, kN, nmV, nmO, op1, op2, opC, tst, tru, truD, notT, andT, orT, blV, vbl, andV, orV, notV, iteE, aNil, aCons, lNil, lCons, tupE, lstE, dicE, Opd.get, callF, frR, callI, callL, own1, addD, subD, negD, cmpD, lenD, intD, tupD, lisD, absD, isiD, tyD, min2D, max2D, Pv.R.of, raiseS, asgS, nameG, nilG, consG, tupG, isD, nisD, isNB, opS, pNone, pSome, seqI', itsD, sItS, putD, wipeE, backE, isI]
  | int _ => unfold F_is_integer g_is_integer; simp [-List.map_map, fnF, en0, seqS, passS, noS, exprS, retS, retN, retM, putE, setS, iteS, vOfE, eOfV, oOfV, kI, kB, kS, kN, nmV, nmO, op1, op2, opC, tst, tru, truD, notT, andT, orT, blV, vbl, andV, orV, notV, iteE, aNil, aCons, lNil, lCons, tupE, lstE, dicE, Opd.get, callF, frR, callI, callL, own1, addD, subD, negD, cmpD, lenD, intD, tupD, lisD, absD, isiD, tyD, min2D, max2D, Pv.R.of, raiseS, asgS, nameG, nilG, consG, tupG, isD, nisD, isNB, opS, pNone, pSome, seqI', itsD, sItS, putD, wipeE, backE, isI]
  | str _ => unfold F_is_integer g_is_integer; simp [-List.map_map, fnF, en0, seqS, passS, noS, exprS, retS, retN, retM, putE, setS, iteS, vOfE, eOfV, oOfV, kI, kB, kS, kN, nmV, nmO, op1, op2, opC, tst, tru, truD, notT, andT, orT, blV, vbl, andV, orV, notV, iteE, aNil, aCons, lNil, lCons, tupE, lstE, dicE, Opd.get, callF, frR, callI, callL, own1, addD, subD, negD, cmpD, lenD, intD, tupD, lisD, absD, isiD, tyD, min2D, max2D, Pv.R.of, raiseS, asgS, nameG, nilG, consG, tupG, isD, nisD, isNB, opS, pNone, pSome, seqI', itsD, sItS, putD, wipeE, backE, isI]
  | tup _ => unfold F_is_integer g_is_integer; simp [-List.map_map, fnF, en0, seqS, passS, noS, exprS, retS, retN, retM, putE, setS, iteS, vOfE, eOfV, oOfV, kI, kB, kS, kN, nmV, nmO, op1, op2, opC, tst, tru, truD, notT, andT, orT, blV, vbl, andV, orV, notV, iteE, aNil, aCons, lNil, lCons, tupE, lstE, dicE, Opd.get, callF, frR, callI, callL, own1, addD, subD, negD, cmpD, lenD, intD, tupD, lisD, absD, isiD, tyD, min2D, max2D, Pv.R.of, raiseS, asgS, nameG, nilG, consG, tupG, isD, nisD, isNB, opS, pNone, pSome, seqI', itsD, sItS, putD, wipeE, backE, isI]
  | lst _ => unfold F_is_integer g_is_integer; simp [-List.map_map, fnF, en0, seqS, passS, noS, exprS, retS, retN, retM, putE, setS, iteS, vOfE, eOfV, oOfV, kI, kB, kS, kN, nmV, nmO, op1, op2, opC, tst, tru, truD, notT, andT, orT, blV, vbl, andV, orV, notV, iteE, aNil, aCons, lNil, lCons, tupE, lstE, dicE, Opd.get, callF, frR, callI, callL, own1, addD, subD, negD, cmpD, lenD, intD, tupD, lisD, absD, isiD, tyD, min2D, max2D, Pv.R.of, raiseS, asgS, nameG, nilG, consG, tupG, isD, nisD, isNB, opS, pNone, pSome, seqI', itsD, sItS, putD, wipeE, backE, isI]
  | dic _ _ => unfold F_is_integer g_is_integer; simp [-List.map_map, fnF, en0, seqS, passS, noS, exprS, retS, retN, retM, putE, setS, iteS, vOfE, eOfV, oOfV, kI, kB, kS, kN, nmV, nmO, op1, op2, opC, tst, tru, truD, notT, andT, orT, blV, vbl, andV, orV, notV, iteE, aNil, aCons, lNil, lCons, tupE, lstE, dicE, Opd.get, callF, frR, callI, callL, own1, addD, subD, negD, cmpD, lenD, intD, tupD, lisD, absD, isiD, tyD, min2D, max2D, Pv.R.of, raiseS, asgS, nameG, nilG, consG, tupG, isD, nisD, isNB, opS, pNone, pSome, seqI', itsD, sItS, putD, wipeE, backE, isI]
  | scr _ => unfold F_is_integer g_is_integer; simp [-List.map_map, fnF, en0, seqS, passS, noS, exprS, retS, retN, retM, putE, setS, iteS, vOfE, eOfV, oOfV, kI, kB, kS, kN, nmV, nmO, op1, op2, opC, tst, tru, truD, notT, andT, orT, blV, vbl, andV, orV, notV, iteE, aNil, aCons, lNil, lCons, tupE, lstE, dicE, Opd.get, callF, frR, callI, callL, own1, addD, subD, negD, cmpD, lenD, intD, tupD, lisD, absD, isiD, tyD, min2D, max2D, Pv.R.of, raiseS, asgS, nameG, nilG, consG, tupG, isD, nisD, isNB, opS, pNone, pSome, seqI', itsD, sItS, putD, wipeE, backE, isI]
theorem inner_int (k : Nat) (i : Int) : F__law_inner (k + 1) none [.int i] = .ok (.int i, 0) none := by
  show fnF 2 false (g__law_inner (F__law_inner k)) none _ = _
  unfold g__law_inner
  simp [-List.map_map, fnF, en0, seqS, passS, noS, exprS, retS, retN, retM, putE, setS, iteS, vOfE, eOfV, oOfV, kI, kB, kS, kN, nmV, nmO, op1, op2, opC, tst, tru, truD, notT, andT, orT, blV, vbl, andV, orV, notV, iteE, aNil, aCons, lNil, lCons, tupE, lstE, dicE, Opd.get, callF, frR, callI, callL, own1, addD, subD, negD, cmpD, lenD, intD, tupD, lisD, absD, isiD, tyD, min2D, max2D, Pv.R.of, raiseS, asgS, nameG, nilG, consG, tupG, isD, nisD, isNB, opS, pNone, pSome, seqI', itsD, sItS, putD, wipeE, backE]
theorem inner_tup (k : Nat) (ds : List D) (hl : ds.length ≤ 100000) (h : ∀ d ∈ ds, F__law_inner k none [d] = .ok (d, 0) none) : F__law_inner (k + 1) none [.tup ds] = .ok (.tup ds, 0) none := by
  have c : cp__law_inner_1 (F__law_inner k) [some (.tup ds, 0), none] = .ok (.lst ds, 1) [some (.tup ds, 0), none] := by
    have := comp_map1 (fi := seqI' (nmV 0)) (te := (eOfV ((vOfE (callF 1 (F__law_inner k) (aCons ((nmV 1)) aNil)))))) (m := 0) (i := 1) (fun d => d) (fun d => d) (env := [some (.tup ds, 0), none]) (env1 := [some (.tup ds, 0), none]) (bs := ds) (by simp [-List.map_map, fnF, en0, seqS, passS, noS, exprS, retS, retN, retM, putE, setS, iteS, vOfE, eOfV, oOfV, kI, kB, kS, kN, nmV, nmO, op1, op2, opC, tst, tru, truD, notT, andT, orT, blV, vbl, andV, orV, notV, iteE, aNil, aCons, lNil, lCons, tupE, lstE, dicE, Opd.get, callF, frR, callI, callL, own1, addD, subD, negD, cmpD, lenD, intD, tupD, lisD, absD, isiD, tyD, min2D, max2D, Pv.R.of, raiseS, asgS, nameG, nilG, consG, tupG, isD, nisD, isNB, opS, pNone, pSome, seqI', itsD, sItS, putD, wipeE, backE]) rfl (by omega) fun d hd => by
      have hi := h d hd
      simp [-List.map_map, fnF, en0, seqS, passS, noS, exprS, retS, retN, retM, putE, setS, iteS, vOfE, eOfV, oOfV, kI, kB, kS, kN, nmV, nmO, op1, op2, opC, tst, tru, truD, notT, andT, orT, blV, vbl, andV, orV, notV, iteE, aNil, aCons, lNil, lCons, tupE, lstE, dicE, Opd.get, callF, frR, callI, callL, own1, addD, subD, negD, cmpD, lenD, intD, tupD, lisD, absD, isiD, tyD, min2D, max2D, Pv.R.of, raiseS, asgS, nameG, nilG, consG, tupG, isD, nisD, isNB, opS, pNone, pSome, seqI', itsD, sItS, putD, wipeE, backE, hi]
    simpa using this
  show fnF 2 false (g__law_inner (F__law_inner k)) none _ = _
  unfold g__law_inner
  simp [-List.map_map, fnF, en0, seqS, passS, noS, exprS, retS, retN, retM, putE, setS, iteS, vOfE, eOfV, oOfV, kI, kB, kS, kN, nmV, nmO, op1, op2, opC, tst, tru, truD, notT, andT, orT, blV, vbl, andV, orV, notV, iteE, aNil, aCons, lNil, lCons, tupE, lstE, dicE, Opd.get, callF, frR, callI, callL, own1, addD, subD, negD, cmpD, lenD, intD, tupD, lisD, absD, isiD, tyD, min2D, max2D, Pv.R.of, raiseS, asgS, nameG, nilG, consG, tupG, isD, nisD, isNB, opS, pNone, pSome, seqI', itsD, sItS, putD, wipeE, backE, c]
def bigD (L : List (List Int)) : D := .tup (L.map tD)
theorem plain_big (L : List (List Int)) (hl : L.length ≤ 100000) (h : ∀ p ∈ L, p.length ≤ 100) : F__law_plain none [bigD L] = .ok (bigD L, 0) none := by
  have h1 : F__law_inner 6 none [bigD L] = .ok (bigD L, 0) none := inner_tup 5 _ (by simpa using hl) fun d hd => by
    obtain ⟨p, hp, rfl⟩ := List.mem_map.mp hd
    exact inner_tup 4 _ (by have := h p hp; simp [nI]; omega) fun e he => by
      obtain ⟨i, _, rfl⟩ := List.mem_map.mp he
      exact inner_int 3 i
  unfold bigD at *
  generalize L.map tD = B at *
  unfold F__law_plain g__law_plain
  simp [-List.map_map, fnF, en0, seqS, passS, noS, exprS, retS, retN, retM, putE, setS, iteS, vOfE, eOfV, oOfV, kI, kB, kS, kN, nmV, nmO, op1, op2, opC, tst, tru, truD, notT, andT, orT, blV, vbl, andV, orV, notV, iteE, aNil, aCons, lNil, lCons, tupE, lstE, dicE, Opd.get, callF, frR, callI, callL, own1, addD, subD, negD, cmpD, lenD, intD, tupD, lisD, absD, isiD, tyD, min2D, max2D, Pv.R.of, raiseS, asgS, nameG, nilG, consG, tupG, isD, nisD, isNB, opS, pNone, pSome, seqI', itsD, sItS, putD, wipeE, backE, h1]
/-- all paths of the program -/
def pths (n : Nat) (most : Int) : List (List Int) := (prg n most n).map Prod.fst
theorem pths_eq {n : Nat} {most mp : Int} (hm : most = mp ∨ (most = n ∧ (n : Int) ≤ mp)) : pths n mp = ends n most := by
  unfold pths ends
  rw [prg_end hm]
theorem pths_le {n : Nat} {most : Int} (hn : n ≤ 9) (hm : most = 1 ∨ most = 12) : (pths n most).length ≤ 5000 := by
  unfold pths
  rw [List.length_map]
  exact prg_le hn hm (Nat.le_refl n)
theorem pths_mem {n : Nat} {most : Int} {p : List Int} (h : p ∈ pths n most) : p.length = n ∧ Pa.run most 0 p = some 0 := by
  obtain ⟨q, hq, rfl⟩ := List.mem_map.mp h
  obtain ⟨h1, h2, h3, h4⟩ := prg_inv (Nat.le_refl n) hq
  have : q.2 = 0 := by omega
  rw [this] at h4
  exact ⟨h1, h4⟩
theorem count_ok {n : Int} (h1 : 0 ≤ n) (h2 : n ≤ 12) : F_check_count none [.int n] = .ok (.non, 0) none := by
  have hi := isint_any (.int n) (by simp [tyD])
  unfold F_check_count g_check_count
  simp [-List.map_map, fnF, en0, seqS, passS, noS, exprS, retS, retN, retM, putE, setS, iteS, vOfE, eOfV, oOfV, kI, kB, kS, kN, nmV, nmO, op1, op2, opC, tst, tru, truD, notT, andT, orT, blV, vbl, andV, orV, notV, iteE, aNil, aCons, lNil, lCons, tupE, lstE, dicE, Opd.get, callF, frR, callI, callL, own1, addD, subD, negD, cmpD, lenD, intD, tupD, lisD, absD, isiD, tyD, min2D, max2D, Pv.R.of, raiseS, asgS, nameG, nilG, consG, tupG, isD, nisD, isNB, opS, pNone, pSome, seqI', itsD, sItS, putD, wipeE, backE, hi, isI, h1, h2]
def wk (w : Nat) : Int := if w = 0 then 1 else 12
theorem told_ok {n : Nat} (hn : n ≤ 9) : F__law_told none [.int 0, .int n] = .ok (bigD (pths n 1), 0) none ∧ F__law_told none [.int 1, .int n] = .ok (bigD (pths n 12), 0) none := by
  have hc := count_ok (n := n) (by omega) (by omega)
  have h9 : ¬ (9 : Int) < n := by omega
  have p1 : F_paths_to none [.int n, .int 1] = .ok (.lst ((pths n 1).map tD), 1) none := pathsto_ok hn (.inl rfl)
  have p2 : F_paths_to none [.int n, .int 12] = .ok (.lst ((pths n 12).map tD), 1) none := pathsto_ok hn (.inr rfl)
  have q1 := plain_big (pths n 1) (by have := pths_le hn (.inl rfl : (1 : Int) = 1 ∨ (1 : Int) = 12); omega) fun p hp => by have := (pths_mem hp).1; omega
  have q2 := plain_big (pths n 12) (by have := pths_le hn (.inr rfl : (12 : Int) = 1 ∨ (12 : Int) = 12); omega) fun p hp => by have := (pths_mem hp).1; omega
  unfold bigD at *
  generalize (pths n 1).map tD = A at *
  generalize (pths n 12).map tD = B at *
  have m1 : F_motzkin_paths none [.int n] = .ok (.tup A, 0) none := by
    unfold F_motzkin_paths g_motzkin_paths
    simp [-List.map_map, fnF, en0, seqS, passS, noS, exprS, retS, retN, retM, putE, setS, iteS, vOfE, eOfV, oOfV, kI, kB, kS, kN, nmV, nmO, op1, op2, opC, tst, tru, truD, notT, andT, orT, blV, vbl, andV, orV, notV, iteE, aNil, aCons, lNil, lCons, tupE, lstE, dicE, Opd.get, callF, frR, callI, callL, own1, addD, subD, negD, cmpD, lenD, intD, tupD, lisD, absD, isiD, tyD, min2D, max2D, Pv.R.of, raiseS, asgS, nameG, nilG, consG, tupG, isD, nisD, isNB, opS, pNone, pSome, seqI', itsD, sItS, putD, wipeE, backE, hc, h9, p1]
  have m2 : F_lukasiewicz_paths none [.int n] = .ok (.tup B, 0) none := by
    unfold F_lukasiewicz_paths g_lukasiewicz_paths
    simp [-List.map_map, fnF, en0, seqS, passS, noS, exprS, retS, retN, retM, putE, setS, iteS, vOfE, eOfV, oOfV, kI, kB, kS, kN, nmV, nmO, op1, op2, opC, tst, tru, truD, notT, andT, orT, blV, vbl, andV, orV, notV, iteE, aNil, aCons, lNil, lCons, tupE, lstE, dicE, Opd.get, callF, frR, callI, callL, own1, addD, subD, negD, cmpD, lenD, intD, tupD, lisD, absD, isiD, tyD, min2D, max2D, Pv.R.of, raiseS, asgS, nameG, nilG, consG, tupG, isD, nisD, isNB, opS, pNone, pSome, seqI', itsD, sItS, putD, wipeE, backE, hc, h9, p2]
  constructor
  · unfold F__law_told g__law_told
    simp [-List.map_map, fnF, en0, seqS, passS, noS, exprS, retS, retN, retM, putE, setS, iteS, vOfE, eOfV, oOfV, kI, kB, kS, kN, nmV, nmO, op1, op2, opC, tst, tru, truD, notT, andT, orT, blV, vbl, andV, orV, notV, iteE, aNil, aCons, lNil, lCons, tupE, lstE, dicE, Opd.get, callF, frR, callI, callL, own1, addD, subD, negD, cmpD, lenD, intD, tupD, lisD, absD, isiD, tyD, min2D, max2D, Pv.R.of, raiseS, asgS, nameG, nilG, consG, tupG, isD, nisD, isNB, opS, pNone, pSome, seqI', itsD, sItS, putD, wipeE, backE, tryS2, m1, q1, eqD]
  · unfold F__law_told g__law_told
    simp [-List.map_map, fnF, en0, seqS, passS, noS, exprS, retS, retN, retM, putE, setS, iteS, vOfE, eOfV, oOfV, kI, kB, kS, kN, nmV, nmO, op1, op2, opC, tst, tru, truD, notT, andT, orT, blV, vbl, andV, orV, notV, iteE, aNil, aCons, lNil, lCons, tupE, lstE, dicE, Opd.get, callF, frR, callI, callL, own1, addD, subD, negD, cmpD, lenD, intD, tupD, lisD, absD, isiD, tyD, min2D, max2D, Pv.R.of, raiseS, asgS, nameG, nilG, consG, tupG, isD, nisD, isNB, opS, pNone, pSome, seqI', itsD, sItS, putD, wipeE, backE, tryS2, m2, q2, eqD]
abbrev sRai : D := .str (PySem.Str.ofString "raised")
def larD : D := .tup [sRai, .str (PySem.Str.ofString "large")]
def malD : D := .tup [sRai, .str (PySem.Str.ofString "malformed")]
theorem told_10 : F__law_told none [.int 0, .int 10] = .ok (larD, 0) none ∧ F__law_told none [.int 1, .int 10] = .ok (larD, 0) none := ⟨by kernel_rfl, by kernel_rfl⟩
def bads : List D := [.int (-1), .int 13, .non, .bl true, .str (PySem.Str.ofString "2")]
theorem told_bad : ∀ d ∈ bads, F__law_told none [.int 0, d] = .ok (malD, 0) none ∧ F__law_told none [.int 1, d] = .ok (malD, 0) none := by
  intro d hd
  simp only [bads, List.mem_cons, List.not_mem_nil, or_false] at hd
  rcases hd with rfl | rfl | rfl | rfl | rfl <;> exact ⟨by kernel_rfl, by kernel_rfl⟩
/-! is it a path -/
def good (most : Int) : D → Bool
  | .tup ds => decide (ds.length ≤ 12) && (match D.ints ds with
    | some xs => decide (Pa.run most 0 xs = some 0)
    | none => false)
  | _ => false
/-- a value whose parts have types -/
def tyV : D → Bool
  | .tup ds => ds.all (fun d => (tyD d).isSome) && decide (ds.length ≤ 1000)
  | d => (tyD d).isSome
theorem allD_bl (bs : List Bool) : allD (.lst (bs.map D.bl)) = some (.bl (bs.all id), 0) := by
  simp [allD]
theorem int_list : ∀ {ds : List D}, ds.all isI = true → ∃ xs : List Int, ds = nI xs
  | [], _ => ⟨[], rfl⟩
  | d :: ds, h => by
    rw [List.all_cons, Bool.and_eq_true] at h
    obtain ⟨xs, rfl⟩ := int_list h.2
    cases d with
    | int i => exact ⟨i :: xs, rfl⟩
    | _ => simp [isI] at h
theorem ints_no : ∀ {ds : List D}, ds.all isI = false → D.ints ds = none
  | [], h => by cases h
  | d :: ds, h => by
    rw [List.all_cons] at h
    cases d with
    | int i =>
      have h' : ds.all isI = false := by simpa [isI] using h
      have := ints_no h'
      simp [D.ints, this]
    | _ => simp [D.ints]
abbrev ge (v : D) (most : Int) (h s : Sl) : En := [some (v, 0), some (.int most, 0), h, s]
theorem gb_loop (v : D) (most : Int) : ∀ (xs : List Int) (h : Int) (s : Sl), (match Pa.run most h xs with
    | some g => ∃ s', loopS (nameG 3) lb_goes_back_1 (nI xs) (ge v most (some (.int h, 0)) s) = .nx (ge v most (some (.int g, 0)) s')
    | none => ∃ e, loopS (nameG 3) lb_goes_back_1 (nI xs) (ge v most (some (.int h, 0)) s) = .ret (.bl false, 0) e)
  | [], h, s => ⟨s, rfl⟩
  | a :: xs, h, s => by
    have ih := gb_loop v most xs (h + a) (some (.int a, 0))
    have hg : nameG 3 (.int a) (ge v most (some (.int h, 0)) s) = some (ge v most (some (.int h, 0)) (some (.int a, 0))) := by simp [-List.map_map, fnF, en0, seqS, passS, noS, exprS, retS, retN, retM, putE, setS, iteS, vOfE, eOfV, oOfV, kI, kB, kS, kN, nmV, nmO, op1, op2, opC, tst, tru, truD, notT, andT, orT, blV, vbl, andV, orV, notV, iteE, aNil, aCons, lNil, lCons, tupE, lstE, dicE, Opd.get, callF, frR, callI, callL, own1, addD, subD, negD, cmpD, lenD, intD, tupD, lisD, absD, isiD, tyD, min2D, max2D, Pv.R.of, raiseS, asgS, nameG, nilG, consG, tupG, isD, nisD, isNB, opS, pNone, pSome, seqI', itsD, sItS, putD, wipeE, backE]
    have e : nI (a :: xs) = .int a :: nI xs := rfl
    have hau : (augS iaddD 2 (nmV 3)) (ge v most (some (.int h, 0)) (some (.int a, 0))) = .nx (ge v most (some (.int (h + a), 0)) (some (.int a, 0))) := by
      unfold augS
      simp [-List.map_map, fnF, en0, seqS, passS, noS, exprS, retS, retN, retM, putE, setS, iteS, vOfE, eOfV, oOfV, kI, kB, kS, kN, nmV, nmO, op1, op2, opC, tst, tru, truD, notT, andT, orT, blV, vbl, andV, orV, notV, iteE, aNil, aCons, lNil, lCons, tupE, lstE, dicE, Opd.get, callF, frR, callI, callL, own1, addD, subD, negD, cmpD, lenD, intD, tupD, lisD, absD, isiD, tyD, min2D, max2D, Pv.R.of, raiseS, asgS, nameG, nilG, consG, tupG, isD, nisD, isNB, opS, pNone, pSome, seqI', itsD, sItS, putD, wipeE, backE, iaddD, D.isMut]
    rw [e]
    unfold Pa.run loopS
    by_cases c : h + a < 0 ∨ a < -1 ∨ most < a
    · rw [if_pos c]
      have hb : ∃ e, lb_goes_back_1 (ge v most (some (.int h, 0)) (some (.int a, 0))) = .ret (.bl false, 0) e := by
        refine ⟨ge v most (some (.int (h + a), 0)) (some (.int a, 0)), (seqS_nx hau).trans ?_⟩
        by_cases c1 : h + a < 0
        · simp [-List.map_map, fnF, en0, seqS, passS, noS, exprS, retS, retN, retM, putE, setS, iteS, vOfE, eOfV, oOfV, kI, kB, kS, kN, nmV, nmO, op1, op2, opC, tst, tru, truD, notT, andT, orT, blV, vbl, andV, orV, notV, iteE, aNil, aCons, lNil, lCons, tupE, lstE, dicE, Opd.get, callF, frR, callI, callL, own1, addD, subD, negD, cmpD, lenD, intD, tupD, lisD, absD, isiD, tyD, min2D, max2D, Pv.R.of, raiseS, asgS, nameG, nilG, consG, tupG, isD, nisD, isNB, opS, pNone, pSome, seqI', itsD, sItS, putD, wipeE, backE, c1]
        · by_cases c2 : a < -1
          · simp [-List.map_map, fnF, en0, seqS, passS, noS, exprS, retS, retN, retM, putE, setS, iteS, vOfE, eOfV, oOfV, kI, kB, kS, kN, nmV, nmO, op1, op2, opC, tst, tru, truD, notT, andT, orT, blV, vbl, andV, orV, notV, iteE, aNil, aCons, lNil, lCons, tupE, lstE, dicE, Opd.get, callF, frR, callI, callL, own1, addD, subD, negD, cmpD, lenD, intD, tupD, lisD, absD, isiD, tyD, min2D, max2D, Pv.R.of, raiseS, asgS, nameG, nilG, consG, tupG, isD, nisD, isNB, opS, pNone, pSome, seqI', itsD, sItS, putD, wipeE, backE, c1, c2]
          · have c3 : most < a := by omega
            simp [-List.map_map, fnF, en0, seqS, passS, noS, exprS, retS, retN, retM, putE, setS, iteS, vOfE, eOfV, oOfV, kI, kB, kS, kN, nmV, nmO, op1, op2, opC, tst, tru, truD, notT, andT, orT, blV, vbl, andV, orV, notV, iteE, aNil, aCons, lNil, lCons, tupE, lstE, dicE, Opd.get, callF, frR, callI, callL, own1, addD, subD, negD, cmpD, lenD, intD, tupD, lisD, absD, isiD, tyD, min2D, max2D, Pv.R.of, raiseS, asgS, nameG, nilG, consG, tupG, isD, nisD, isNB, opS, pNone, pSome, seqI', itsD, sItS, putD, wipeE, backE, c1, c2, c3]
      obtain ⟨e', he⟩ := hb
      refine ⟨e', ?_⟩
      rw [hg]
      simp only [he]
    · rw [if_neg c]
      have c1 : ¬ h + a < 0 := fun z => c (.inl z)
      have c2 : ¬ a < -1 := fun z => c (.inr (.inl z))
      have c3 : ¬ most < a := fun z => c (.inr (.inr z))
      have hb : lb_goes_back_1 (ge v most (some (.int h, 0)) (some (.int a, 0))) = .nx (ge v most (some (.int (h + a), 0)) (some (.int a, 0))) := by
        refine (seqS_nx hau).trans ?_
        simp [-List.map_map, fnF, en0, seqS, passS, noS, exprS, retS, retN, retM, putE, setS, iteS, vOfE, eOfV, oOfV, kI, kB, kS, kN, nmV, nmO, op1, op2, opC, tst, tru, truD, notT, andT, orT, blV, vbl, andV, orV, notV, iteE, aNil, aCons, lNil, lCons, tupE, lstE, dicE, Opd.get, callF, frR, callI, callL, own1, addD, subD, negD, cmpD, lenD, intD, tupD, lisD, absD, isiD, tyD, min2D, max2D, Pv.R.of, raiseS, asgS, nameG, nilG, consG, tupG, isD, nisD, isNB, opS, pNone, pSome, seqI', itsD, sItS, putD, wipeE, backE, c1, c2, c3]
      rw [hg]
      simp only [hb]
      exact ih
theorem gb_ok (v : D) (most : Int) (hv : tyV v = true) : F_goes_back none [v, .int most] = .ok (.bl (good most v), 0) none := by
  by_cases ht : ∃ ds, v = .tup ds
  · obtain ⟨ds, rfl⟩ := ht
    unfold tyV at hv
    rw [Bool.and_eq_true, List.all_eq_true, decide_eq_true_eq] at hv
    have hty : ∀ d ∈ ds, tyD d ≠ none := fun d hd e => by have := hv.1 d hd; rw [e] at this; cases this
    by_cases h12 : ds.length ≤ 12
    · have hle : ¬ (12 : Int) < (ds.length : Int) := by omega
      have c1 : cp_goes_back_1 [some (.tup ds, 0), some (.int most, 0), none, none] = .ok (.lst ((ds.map isI).map D.bl), 1) [some (.tup ds, 0), some (.int most, 0), none, none] := by
        rw [List.map_map]
        have := comp_map1 (fi := seqI' (nmV 0)) (te := (eOfV ((vOfE (callF 1 (F_is_integer) (aCons ((nmV 3)) aNil)))))) (m := 0) (i := 3) (fun d => d) (D.bl ∘ isI) (env := [some (.tup ds, 0), some (.int most, 0), none, none]) (env1 := [some (.tup ds, 0), some (.int most, 0), none, none]) (bs := ds) (by simp [-List.map_map, fnF, en0, seqS, passS, noS, exprS, retS, retN, retM, putE, setS, iteS, vOfE, eOfV, oOfV, kI, kB, kS, kN, nmV, nmO, op1, op2, opC, tst, tru, truD, notT, andT, orT, blV, vbl, andV, orV, notV, iteE, aNil, aCons, lNil, lCons, tupE, lstE, dicE, Opd.get, callF, frR, callI, callL, own1, addD, subD, negD, cmpD, lenD, intD, tupD, lisD, absD, isiD, tyD, min2D, max2D, Pv.R.of, raiseS, asgS, nameG, nilG, consG, tupG, isD, nisD, isNB, opS, pNone, pSome, seqI', itsD, sItS, putD, wipeE, backE]) rfl (by omega) fun d hd => by
          have hi := isint_any d (hty d hd)
          simp [-List.map_map, fnF, en0, seqS, passS, noS, exprS, retS, retN, retM, putE, setS, iteS, vOfE, eOfV, oOfV, kI, kB, kS, kN, nmV, nmO, op1, op2, opC, tst, tru, truD, notT, andT, orT, blV, vbl, andV, orV, notV, iteE, aNil, aCons, lNil, lCons, tupE, lstE, dicE, Opd.get, callF, frR, callI, callL, own1, addD, subD, negD, cmpD, lenD, intD, tupD, lisD, absD, isiD, tyD, min2D, max2D, Pv.R.of, raiseS, asgS, nameG, nilG, consG, tupG, isD, nisD, isNB, opS, pNone, pSome, seqI', itsD, sItS, putD, wipeE, backE, hi]
        exact this
      have hb := allD_bl (ds.map isI)
      rw [List.all_map] at hb
      by_cases ha : ds.all isI = true
      · obtain ⟨xs, rfl⟩ := int_list ha
        have ha' : (nI xs).all (id ∘ isI) = true := ha
        rw [ha'] at hb
        have hl := gb_loop (.tup (nI xs)) most xs 0 none
        have hgd : good most (.tup (nI xs)) = decide (Pa.run most 0 xs = some 0) := by
          show (decide ((nI xs).length ≤ 12) && (match D.ints (nI xs) with
            | some xs => decide (Pa.run most 0 xs = some 0)
            | none => false)) = _
          rw [ints_nI, decide_eq_true h12]
          rfl
        rw [hgd]
        have hf : g_goes_back_3 (ge (.tup (nI xs)) most (some (.int 0, 0)) none) = _ := forS_ok (ds := nI xs) (env1 := ge (.tup (nI xs)) most (some (.int 0, 0)) none) (by generalize nI xs = X; simp [-List.map_map, fnF, en0, seqS, passS, noS, exprS, retS, retN, retM, putE, setS, iteS, vOfE, eOfV, oOfV, kI, kB, kS, kN, nmV, nmO, op1, op2, opC, tst, tru, truD, notT, andT, orT, blV, vbl, andV, orV, notV, iteE, aNil, aCons, lNil, lCons, tupE, lstE, dicE, Opd.get, callF, frR, callI, callL, own1, addD, subD, negD, cmpD, lenD, intD, tupD, lisD, absD, isiD, tyD, min2D, max2D, Pv.R.of, raiseS, asgS, nameG, nilG, consG, tupG, isD, nisD, isNB, opS, pNone, pSome, seqI', itsD, sItS, putD, wipeE, backE])
        have p1 : g_goes_back_1 (en0 4 none [.tup (nI xs), .int most]) = .nx (ge (.tup (nI xs)) most none none) := by
          generalize ((nI xs).map isI).map D.bl = B at *
          generalize nI xs = X at *
          simp [-List.map_map, fnF, en0, seqS, passS, noS, exprS, retS, retN, retM, putE, setS, iteS, vOfE, eOfV, oOfV, kI, kB, kS, kN, nmV, nmO, op1, op2, opC, tst, tru, truD, notT, andT, orT, blV, vbl, andV, orV, notV, iteE, aNil, aCons, lNil, lCons, tupE, lstE, dicE, Opd.get, callF, frR, callI, callL, own1, addD, subD, negD, cmpD, lenD, intD, tupD, lisD, absD, isiD, tyD, min2D, max2D, Pv.R.of, raiseS, asgS, nameG, nilG, consG, tupG, isD, nisD, isNB, opS, pNone, pSome, seqI', itsD, sItS, putD, wipeE, backE, hle, c1, hb]
        have p2 : g_goes_back_2 (ge (.tup (nI xs)) most none none) = .nx (ge (.tup (nI xs)) most (some (.int 0, 0)) none) := by
          generalize nI xs = X
          simp [-List.map_map, fnF, en0, seqS, passS, noS, exprS, retS, retN, retM, putE, setS, iteS, vOfE, eOfV, oOfV, kI, kB, kS, kN, nmV, nmO, op1, op2, opC, tst, tru, truD, notT, andT, orT, blV, vbl, andV, orV, notV, iteE, aNil, aCons, lNil, lCons, tupE, lstE, dicE, Opd.get, callF, frR, callI, callL, own1, addD, subD, negD, cmpD, lenD, intD, tupD, lisD, absD, isiD, tyD, min2D, max2D, Pv.R.of, raiseS, asgS, nameG, nilG, consG, tupG, isD, nisD, isNB, opS, pNone, pSome, seqI', itsD, sItS, putD, wipeE, backE]
        cases hr : Pa.run most 0 xs with
        | none =>
          rw [hr] at hl
          obtain ⟨e, he⟩ := hl
          exact fnF_ret ((seqS_nx p1).trans ((seqS_nx p2).trans (seqS_ret (hf.trans he))))
        | some g =>
          rw [hr] at hl
          obtain ⟨s', he⟩ := hl
          have p4 : g_goes_back_4 (ge (.tup (nI xs)) most (some (.int g, 0)) s') = .ret (.bl (decide (g = 0)), 0) (ge (.tup (nI xs)) most (some (.int g, 0)) s') := by
            generalize nI xs = X
            simp [-List.map_map, fnF, en0, seqS, passS, noS, exprS, retS, retN, retM, putE, setS, iteS, vOfE, eOfV, oOfV, kI, kB, kS, kN, nmV, nmO, op1, op2, opC, tst, tru, truD, notT, andT, orT, blV, vbl, andV, orV, notV, iteE, aNil, aCons, lNil, lCons, tupE, lstE, dicE, Opd.get, callF, frR, callI, callL, own1, addD, subD, negD, cmpD, lenD, intD, tupD, lisD, absD, isiD, tyD, min2D, max2D, Pv.R.of, raiseS, asgS, nameG, nilG, consG, tupG, isD, nisD, isNB, opS, pNone, pSome, seqI', itsD, sItS, putD, wipeE, backE, eqD]
          have ee : decide (some g = some (0 : Int)) = decide (g = 0) := by simp
          rw [ee]
          exact fnF_ret ((seqS_nx p1).trans ((seqS_nx p2).trans ((seqS_nx (hf.trans he)).trans p4)))
      · have ha' : ds.all isI = false := by simpa using ha
        have ha2 : ds.all (id ∘ isI) = false := ha'
        rw [ha2] at hb
        have hgd : good most (.tup ds) = false := by
          show (decide (ds.length ≤ 12) && (match D.ints ds with
            | some xs => decide (Pa.run most 0 xs = some 0)
            | none => false)) = _
          rw [ints_no ha']
          simp
        rw [hgd]
        generalize (ds.map isI).map D.bl = B at *
        unfold F_goes_back g_goes_back
        simp [-List.map_map, fnF, en0, seqS, passS, noS, exprS, retS, retN, retM, putE, setS, iteS, vOfE, eOfV, oOfV, kI, kB, kS, kN, nmV, nmO, op1, op2, opC, tst, tru, truD, notT, andT, orT, blV, vbl, andV, orV, notV, iteE, aNil, aCons, lNil, lCons, tupE, lstE, dicE, Opd.get, callF, frR, callI, callL, own1, addD, subD, negD, cmpD, lenD, intD, tupD, lisD, absD, isiD, tyD, min2D, max2D, Pv.R.of, raiseS, asgS, nameG, nilG, consG, tupG, isD, nisD, isNB, opS, pNone, pSome, seqI', itsD, sItS, putD, wipeE, backE, hle, c1, hb]
    · have hle : (12 : Int) < (ds.length : Int) := by omega
      have hgd : good most (.tup ds) = false := by
        show (decide (ds.length ≤ 12) && _) = _
        rw [decide_eq_false h12]
        rfl
      rw [hgd]
      unfold F_goes_back g_goes_back
      simp [-List.map_map, fnF, en0, seqS, passS, noS, exprS, retS, retN, retM, putE, setS, iteS, vOfE, eOfV, oOfV, kI, kB, kS, kN, nmV, nmO, op1, op2, opC, tst, tru, truD, notT, andT, orT, blV, vbl, andV, orV, notV, iteE, aNil, aCons, lNil, lCons, tupE, lstE, dicE, Opd.get, callF, frR, callI, callL, own1, addD, subD, negD, cmpD, lenD, intD, tupD, lisD, absD, isiD, tyD, min2D, max2D, Pv.R.of, raiseS, asgS, nameG, nilG, consG, tupG, isD, nisD, isNB, opS, pNone, pSome, seqI', itsD, sItS, putD, wipeE, backE, hle]
  · have hgd : good most v = false := by
      cases v with
      | tup ds => exact (ht ⟨ds, rfl⟩).elim
      | _ => rfl
    have hi : isiD "tuple" v = some (.bl false, 0) := by
      cases v with
      | tup ds => exact (ht ⟨ds, rfl⟩).elim
      | fn _ => simp [tyV, tyD] at hv
      | _ => rfl
    rw [hgd]
    unfold F_goes_back g_goes_back
    simp [-List.map_map, fnF, en0, seqS, passS, retS, iteS, vOfE, eOfV, oOfV, kB, nmV, nmO, op1, tru, truD, notT, orT, Opd.get, Pv.R.of, hi]
end L34
end

section
open Pv PySem PM Pa
set_option Elab.async false
set_option linter.all false
set_option maxRecDepth 100000
namespace L34
theorem take_eq : F__law_take = lawTake := rfl
def inr (most : Int) : D → Bool
  | .int i => decide (-1 ≤ i) && decide (i ≤ most)
  | _ => false
theorem inr_int {most : Int} {ds : List D} (h : ds.all (inr most) = true) : ds.all isI = true := by
  rw [List.all_eq_true] at h ⊢
  intro d hd
  have := h d hd
  cases d with
  | int i => rfl
  | _ => cases this
theorem run_out {most : Int} : ∀ {xs : List Int} {h : Int}, (nI xs).all (inr most) = false → Pa.run most h xs = none
  | [], _, h => by cases h
  | a :: xs, h, hh => by
    have e : nI (a :: xs) = .int a :: nI xs := rfl
    rw [e, List.all_cons] at hh
    unfold Pa.run
    by_cases c : h + a < 0 ∨ a < -1 ∨ most < a
    · rw [if_pos c]
    · rw [if_neg c]
      refine run_out ?_
      have : inr most (.int a) = true := by
        show (decide (-1 ≤ a) && decide (a ≤ most)) = true
        rw [decide_eq_true (by omega), decide_eq_true (by omega)]
        rfl
      rw [this] at hh
      simpa using hh
abbrev ie (v : D) (most : Int) (h s : Sl) : En := [some (v, 0), some (.int (-1), 0), some (.int most, 0), h, s]
theorem ip_loop (v : D) (most : Int) : ∀ (xs : List Int) (h : Int) (s : Sl), (nI xs).all (inr most) = true → (match Pa.run most h xs with
    | some g => ∃ s', loopS (nameG 4) lb__law_is_path_1 (nI xs) (ie v most (some (.int h, 0)) s) = .nx (ie v most (some (.int g, 0)) s')
    | none => ∃ e, loopS (nameG 4) lb__law_is_path_1 (nI xs) (ie v most (some (.int h, 0)) s) = .ret (.bl false, 0) e)
  | [], h, s, _ => ⟨s, rfl⟩
  | a :: xs, h, s, hr => by
    have e : nI (a :: xs) = .int a :: nI xs := rfl
    rw [e, List.all_cons, Bool.and_eq_true] at hr
    have hr1 : (decide (-1 ≤ a) && decide (a ≤ most)) = true := hr.1
    simp only [Bool.and_eq_true, decide_eq_true_eq] at hr1
    have ih := ip_loop v most xs (h + a) (some (.int a, 0)) hr.2
    have hg : nameG 4 (.int a) (ie v most (some (.int h, 0)) s) = some (ie v most (some (.int h, 0)) (some (.int a, 0))) := by simp [-List.map_map, fnF, en0, seqS, passS, noS, exprS, retS, retN, retM, putE, setS, iteS, vOfE, eOfV, oOfV, kI, kB, kS, kN, nmV, nmO, op1, op2, opC, tst, tru, truD, notT, andT, orT, blV, vbl, andV, orV, notV, iteE, aNil, aCons, lNil, lCons, tupE, lstE, dicE, Opd.get, callF, frR, callI, callL, own1, addD, subD, negD, cmpD, lenD, intD, tupD, lisD, absD, isiD, tyD, min2D, max2D, Pv.R.of, raiseS, asgS, nameG, nilG, consG, tupG, isD, nisD, isNB, opS, pNone, pSome, seqI', itsD, sItS, putD, wipeE, backE]
    rw [e]
    unfold Pa.run loopS
    by_cases c1 : h + a < 0
    · rw [if_pos (.inl c1)]
      have hb : lb__law_is_path_1 (ie v most (some (.int h, 0)) (some (.int a, 0))) = .ret (.bl false, 0) (ie v most (some (.int (h + a), 0)) (some (.int a, 0))) := by simp [-List.map_map, fnF, en0, seqS, passS, noS, exprS, retS, retN, retM, putE, setS, iteS, vOfE, eOfV, oOfV, kI, kB, kS, kN, nmV, nmO, op1, op2, opC, tst, tru, truD, notT, andT, orT, blV, vbl, andV, orV, notV, iteE, aNil, aCons, lNil, lCons, tupE, lstE, dicE, Opd.get, callF, frR, callI, callL, own1, addD, subD, negD, cmpD, lenD, intD, tupD, lisD, absD, isiD, tyD, min2D, max2D, Pv.R.of, raiseS, asgS, nameG, nilG, consG, tupG, isD, nisD, isNB, opS, pNone, pSome, seqI', itsD, sItS, putD, wipeE, backE, c1]
      refine ⟨ie v most (some (.int (h + a), 0)) (some (.int a, 0)), ?_⟩
      rw [hg]
      simp only [hb]
    · rw [if_neg (by omega)]
      have hb : lb__law_is_path_1 (ie v most (some (.int h, 0)) (some (.int a, 0))) = .nx (ie v most (some (.int (h + a), 0)) (some (.int a, 0))) := by simp [-List.map_map, fnF, en0, seqS, passS, noS, exprS, retS, retN, retM, putE, setS, iteS, vOfE, eOfV, oOfV, kI, kB, kS, kN, nmV, nmO, op1, op2, opC, tst, tru, truD, notT, andT, orT, blV, vbl, andV, orV, notV, iteE, aNil, aCons, lNil, lCons, tupE, lstE, dicE, Opd.get, callF, frR, callI, callL, own1, addD, subD, negD, cmpD, lenD, intD, tupD, lisD, absD, isiD, tyD, min2D, max2D, Pv.R.of, raiseS, asgS, nameG, nilG, consG, tupG, isD, nisD, isNB, opS, pNone, pSome, seqI', itsD, sItS, putD, wipeE, backE, c1]
      rw [hg]
      simp only [hb]
      exact ih
theorem ip_ok (v : D) (most : Int) (hv : tyV v = true) : F__law_is_path none [v, .int (-1), .int most] = .ok (.bl (good most v), 0) none := by
  by_cases ht : ∃ ds, v = .tup ds
  · obtain ⟨ds, rfl⟩ := ht
    unfold tyV at hv
    rw [Bool.and_eq_true, List.all_eq_true, decide_eq_true_eq] at hv
    have hty : ∀ d ∈ ds, tyD d ≠ none := fun d hd e => by have := hv.1 d hd; rw [e] at this; cases this
    by_cases h12 : ds.length ≤ 12
    · have hle : ¬ (12 : Int) < (ds.length : Int) := by omega
      have c1 : cp__law_is_path_1 (ie (.tup ds) most none none) = .ok (.lst ((ds.map (inr most)).map D.bl), 1) (ie (.tup ds) most none none) := by
        rw [List.map_map]
        have := comp_map1 (fi := seqI' (nmV 0)) (te := (eOfV ((andV ((vOfE (callF 1 (F__law_is_number) (aCons ((nmV 4)) aNil)))) ((vOfE (opC (cmpD fun i j => decide (i ≤ j)) (cmpD fun i j => decide (i ≤ j)) (nmO 1) (nmO 4) (nmO 2)))))))) (m := 0) (i := 4) (fun d => d) (D.bl ∘ inr most) (env := ie (.tup ds) most none none) (env1 := ie (.tup ds) most none none) (bs := ds) (by simp [-List.map_map, fnF, en0, seqS, passS, noS, exprS, retS, retN, retM, putE, setS, iteS, vOfE, eOfV, oOfV, kI, kB, kS, kN, nmV, nmO, op1, op2, opC, tst, tru, truD, notT, andT, orT, blV, vbl, andV, orV, notV, iteE, aNil, aCons, lNil, lCons, tupE, lstE, dicE, Opd.get, callF, frR, callI, callL, own1, addD, subD, negD, cmpD, lenD, intD, tupD, lisD, absD, isiD, tyD, min2D, max2D, Pv.R.of, raiseS, asgS, nameG, nilG, consG, tupG, isD, nisD, isNB, opS, pNone, pSome, seqI', itsD, sItS, putD, wipeE, backE]) rfl (by omega) fun d hd => by
          have hi : F__law_is_number none [d] = .ok (.bl (isI d), 0) none := isint_any d (hty d hd)
          cases d with
          | int i =>
            by_cases q1 : -1 ≤ i
            · by_cases q2 : i ≤ most
              · simp [-List.map_map, fnF, en0, seqS, passS, noS, exprS, retS, retN, retM, putE, setS, iteS, vOfE, eOfV, oOfV, kI, kB, kS, kN, nmV, nmO, op1, op2, opC, tst, tru, truD, notT, andT, orT, blV, vbl, andV, orV, notV, iteE, aNil, aCons, lNil, lCons, tupE, lstE, dicE, Opd.get, callF, frR, callI, callL, own1, addD, subD, negD, cmpD, lenD, intD, tupD, lisD, absD, isiD, tyD, min2D, max2D, Pv.R.of, raiseS, asgS, nameG, nilG, consG, tupG, isD, nisD, isNB, opS, pNone, pSome, seqI', itsD, sItS, putD, wipeE, backE, hi, isI, inr, q1, q2]
              · simp [-List.map_map, fnF, en0, seqS, passS, noS, exprS, retS, retN, retM, putE, setS, iteS, vOfE, eOfV, oOfV, kI, kB, kS, kN, nmV, nmO, op1, op2, opC, tst, tru, truD, notT, andT, orT, blV, vbl, andV, orV, notV, iteE, aNil, aCons, lNil, lCons, tupE, lstE, dicE, Opd.get, callF, frR, callI, callL, own1, addD, subD, negD, cmpD, lenD, intD, tupD, lisD, absD, isiD, tyD, min2D, max2D, Pv.R.of, raiseS, asgS, nameG, nilG, consG, tupG, isD, nisD, isNB, opS, pNone, pSome, seqI', itsD, sItS, putD, wipeE, backE, hi, isI, inr, q1, q2]
            · simp [-List.map_map, fnF, en0, seqS, passS, noS, exprS, retS, retN, retM, putE, setS, iteS, vOfE, eOfV, oOfV, kI, kB, kS, kN, nmV, nmO, op1, op2, opC, tst, tru, truD, notT, andT, orT, blV, vbl, andV, orV, notV, iteE, aNil, aCons, lNil, lCons, tupE, lstE, dicE, Opd.get, callF, frR, callI, callL, own1, addD, subD, negD, cmpD, lenD, intD, tupD, lisD, absD, isiD, tyD, min2D, max2D, Pv.R.of, raiseS, asgS, nameG, nilG, consG, tupG, isD, nisD, isNB, opS, pNone, pSome, seqI', itsD, sItS, putD, wipeE, backE, hi, isI, inr, q1]
          | fn _ => exact (hty _ hd rfl).elim
          | non => simp [-List.map_map, fnF, en0, seqS, passS, noS, exprS, retS, retN, retM, putE, setS, iteS, vOfE, eOfV, oOfV, kI, kB, kS, kN, nmV, nmO, op1, op2, opC, tst, tru, truD, notT, andT, orT, blV, vbl, andV, orV, notV, iteE, aNil, aCons, lNil, lCons, tupE, lstE, dicE, Opd.get, callF, frR, callI, callL, own1, addD, subD, negD, cmpD, lenD, intD, tupD, lisD, absD, isiD, tyD, min2D, max2D, Pv.R.of, raiseS, asgS, nameG, nilG, consG, tupG, isD, nisD, isNB, opS, pNone, pSome, seqI', itsD, sItS, putD, wipeE, backE, hi, isI, inr]
          | bl _ => simp [-List.map_map, fnF, en0, seqS, passS, noS, exprS, retS, retN, retM, putE, setS, iteS, vOfE, eOfV, oOfV, kI, kB, kS, kN, nmV, nmO, op1, op2, opC, tst, tru, truD, notT, andT, orT, blV, vbl, andV, orV, notV, iteE, aNil, aCons, lNil, lCons, tupE, lstE, dicE, Opd.get, callF, frR, callI, callL, own1, addD, subD, negD, cmpD, lenD, intD, tupD, lisD, absD, isiD, tyD, min2D, max2D, Pv.R.of, raiseS, asgS, nameG, nilG, consG, tupG, isD, nisD, isNB, opS, pNone, pSome, seqI', itsD, sItS, putD, wipeE, backE, hi, isI, inr]
          | str _ => simp [-List.map_map, fnF, en0, seqS, passS, noS, exprS, retS, retN, retM, putE, setS, iteS, vOfE, eOfV, oOfV, kI, kB, kS, kN, nmV, nmO, op1, op2, opC, tst, tru, truD, notT, andT, orT, blV, vbl, andV, orV, notV, iteE, aNil, aCons, lNil, lCons, tupE, lstE, dicE, Opd.get, callF, frR, callI, callL, own1, addD, subD, negD, cmpD, lenD, intD, tupD, lisD, absD, isiD, tyD, min2D, max2D, Pv.R.of, raiseS, asgS, nameG, nilG, consG, tupG, isD, nisD, isNB, opS, pNone, pSome, seqI', itsD, sItS, putD, wipeE, backE, hi, isI, inr]
          | tup _ => simp [-List.map_map, fnF, en0, seqS, passS, noS, exprS, retS, retN, retM, putE, setS, iteS, vOfE, eOfV, oOfV, kI, kB, kS, kN, nmV, nmO, op1, op2, opC, tst, tru, truD, notT, andT, orT, blV, vbl, andV, orV, notV, iteE, aNil, aCons, lNil, lCons, tupE, lstE, dicE, Opd.get, callF, frR, callI, callL, own1, addD, subD, negD, cmpD, lenD, intD, tupD, lisD, absD, isiD, tyD, min2D, max2D, Pv.R.of, raiseS, asgS, nameG, nilG, consG, tupG, isD, nisD, isNB, opS, pNone, pSome, seqI', itsD, sItS, putD, wipeE, backE, hi, isI, inr]
          | lst _ => simp [-List.map_map, fnF, en0, seqS, passS, noS, exprS, retS, retN, retM, putE, setS, iteS, vOfE, eOfV, oOfV, kI, kB, kS, kN, nmV, nmO, op1, op2, opC, tst, tru, truD, notT, andT, orT, blV, vbl, andV, orV, notV, iteE, aNil, aCons, lNil, lCons, tupE, lstE, dicE, Opd.get, callF, frR, callI, callL, own1, addD, subD, negD, cmpD, lenD, intD, tupD, lisD, absD, isiD, tyD, min2D, max2D, Pv.R.of, raiseS, asgS, nameG, nilG, consG, tupG, isD, nisD, isNB, opS, pNone, pSome, seqI', itsD, sItS, putD, wipeE, backE, hi, isI, inr]
          | dic _ _ => simp [-List.map_map, fnF, en0, seqS, passS, noS, exprS, retS, retN, retM, putE, setS, iteS, vOfE, eOfV, oOfV, kI, kB, kS, kN, nmV, nmO, op1, op2, opC, tst, tru, truD, notT, andT, orT, blV, vbl, andV, orV, notV, iteE, aNil, aCons, lNil, lCons, tupE, lstE, dicE, Opd.get, callF, frR, callI, callL, own1, addD, subD, negD, cmpD, lenD, intD, tupD, lisD, absD, isiD, tyD, min2D, max2D, Pv.R.of, raiseS, asgS, nameG, nilG, consG, tupG, isD, nisD, isNB, opS, pNone, pSome, seqI', itsD, sItS, putD, wipeE, backE, hi, isI, inr]
          | scr _ => simp [-List.map_map, fnF, en0, seqS, passS, noS, exprS, retS, retN, retM, putE, setS, iteS, vOfE, eOfV, oOfV, kI, kB, kS, kN, nmV, nmO, op1, op2, opC, tst, tru, truD, notT, andT, orT, blV, vbl, andV, orV, notV, iteE, aNil, aCons, lNil, lCons, tupE, lstE, dicE, Opd.get, callF, frR, callI, callL, own1, addD, subD, negD, cmpD, lenD, intD, tupD, lisD, absD, isiD, tyD, min2D, max2D, Pv.R.of, raiseS, asgS, nameG, nilG, consG, tupG, isD, nisD, isNB, opS, pNone, pSome, seqI', itsD, sItS, putD, wipeE, backE, hi, isI, inr]
        exact this
      have hb := allD_bl (ds.map (inr most))
      rw [List.all_map] at hb
      by_cases ha : ds.all (inr most) = true
      · obtain ⟨xs, rfl⟩ := int_list (inr_int ha)
        have ha' : (nI xs).all (id ∘ inr most) = true := ha
        rw [ha'] at hb
        have hl := ip_loop (.tup (nI xs)) most xs 0 none ha
        have hgd : good most (.tup (nI xs)) = decide (Pa.run most 0 xs = some 0) := by
          show (decide ((nI xs).length ≤ 12) && (match D.ints (nI xs) with
            | some xs => decide (Pa.run most 0 xs = some 0)
            | none => false)) = _
          rw [ints_nI, decide_eq_true h12]
          rfl
        rw [hgd]
        have hf : g__law_is_path_3 (ie (.tup (nI xs)) most (some (.int 0, 0)) none) = _ := forS_ok (ds := nI xs) (env1 := ie (.tup (nI xs)) most (some (.int 0, 0)) none) (by generalize nI xs = X; simp [-List.map_map, fnF, en0, seqS, passS, noS, exprS, retS, retN, retM, putE, setS, iteS, vOfE, eOfV, oOfV, kI, kB, kS, kN, nmV, nmO, op1, op2, opC, tst, tru, truD, notT, andT, orT, blV, vbl, andV, orV, notV, iteE, aNil, aCons, lNil, lCons, tupE, lstE, dicE, Opd.get, callF, frR, callI, callL, own1, addD, subD, negD, cmpD, lenD, intD, tupD, lisD, absD, isiD, tyD, min2D, max2D, Pv.R.of, raiseS, asgS, nameG, nilG, consG, tupG, isD, nisD, isNB, opS, pNone, pSome, seqI', itsD, sItS, putD, wipeE, backE])
        have p1 : g__law_is_path_1 (en0 5 none [.tup (nI xs), .int (-1), .int most]) = .nx (ie (.tup (nI xs)) most none none) := by
          generalize ((nI xs).map (inr most)).map D.bl = B at *
          generalize nI xs = X at *
          simp [-List.map_map, fnF, en0, seqS, passS, noS, exprS, retS, retN, retM, putE, setS, iteS, vOfE, eOfV, oOfV, kI, kB, kS, kN, nmV, nmO, op1, op2, opC, tst, tru, truD, notT, andT, orT, blV, vbl, andV, orV, notV, iteE, aNil, aCons, lNil, lCons, tupE, lstE, dicE, Opd.get, callF, frR, callI, callL, own1, addD, subD, negD, cmpD, lenD, intD, tupD, lisD, absD, isiD, tyD, min2D, max2D, Pv.R.of, raiseS, asgS, nameG, nilG, consG, tupG, isD, nisD, isNB, opS, pNone, pSome, seqI', itsD, sItS, putD, wipeE, backE, hle, c1, hb]
        have p2 : g__law_is_path_2 (ie (.tup (nI xs)) most none none) = .nx (ie (.tup (nI xs)) most (some (.int 0, 0)) none) := by
          generalize nI xs = X
          simp [-List.map_map, fnF, en0, seqS, passS, noS, exprS, retS, retN, retM, putE, setS, iteS, vOfE, eOfV, oOfV, kI, kB, kS, kN, nmV, nmO, op1, op2, opC, tst, tru, truD, notT, andT, orT, blV, vbl, andV, orV, notV, iteE, aNil, aCons, lNil, lCons, tupE, lstE, dicE, Opd.get, callF, frR, callI, callL, own1, addD, subD, negD, cmpD, lenD, intD, tupD, lisD, absD, isiD, tyD, min2D, max2D, Pv.R.of, raiseS, asgS, nameG, nilG, consG, tupG, isD, nisD, isNB, opS, pNone, pSome, seqI', itsD, sItS, putD, wipeE, backE]
        cases hr : Pa.run most 0 xs with
        | none =>
          rw [hr] at hl
          obtain ⟨e, he⟩ := hl
          exact fnF_ret ((seqS_nx p1).trans ((seqS_nx p2).trans (seqS_ret (hf.trans he))))
        | some g =>
          rw [hr] at hl
          obtain ⟨s', he⟩ := hl
          have p4 : g__law_is_path_4 (ie (.tup (nI xs)) most (some (.int g, 0)) s') = .ret (.bl (decide (g = 0)), 0) (ie (.tup (nI xs)) most (some (.int g, 0)) s') := by
            generalize nI xs = X
            simp [-List.map_map, fnF, en0, seqS, passS, noS, exprS, retS, retN, retM, putE, setS, iteS, vOfE, eOfV, oOfV, kI, kB, kS, kN, nmV, nmO, op1, op2, opC, tst, tru, truD, notT, andT, orT, blV, vbl, andV, orV, notV, iteE, aNil, aCons, lNil, lCons, tupE, lstE, dicE, Opd.get, callF, frR, callI, callL, own1, addD, subD, negD, cmpD, lenD, intD, tupD, lisD, absD, isiD, tyD, min2D, max2D, Pv.R.of, raiseS, asgS, nameG, nilG, consG, tupG, isD, nisD, isNB, opS, pNone, pSome, seqI', itsD, sItS, putD, wipeE, backE, eqD]
          have ee : decide (some g = some (0 : Int)) = decide (g = 0) := by simp
          rw [ee]
          exact fnF_ret ((seqS_nx p1).trans ((seqS_nx p2).trans ((seqS_nx (hf.trans he)).trans p4)))
      · have ha' : ds.all (inr most) = false := by simpa using ha
        have ha2 : ds.all (id ∘ inr most) = false := ha'
        rw [ha2] at hb
        have hgd : good most (.tup ds) = false := by
          show (decide (ds.length ≤ 12) && (match D.ints ds with
            | some xs => decide (Pa.run most 0 xs = some 0)
            | none => false)) = _
          by_cases hi : ds.all isI = true
          · obtain ⟨xs, rfl⟩ := int_list hi
            rw [ints_nI]
            show (_ && decide (Pa.run most 0 xs = some 0)) = false
            rw [run_out ha']
            simp
          · rw [ints_no (by simpa using hi)]
            simp
        rw [hgd]
        generalize (ds.map (inr most)).map D.bl = B at *
        unfold F__law_is_path g__law_is_path
        simp [-List.map_map, fnF, en0, seqS, passS, noS, exprS, retS, retN, retM, putE, setS, iteS, vOfE, eOfV, oOfV, kI, kB, kS, kN, nmV, nmO, op1, op2, opC, tst, tru, truD, notT, andT, orT, blV, vbl, andV, orV, notV, iteE, aNil, aCons, lNil, lCons, tupE, lstE, dicE, Opd.get, callF, frR, callI, callL, own1, addD, subD, negD, cmpD, lenD, intD, tupD, lisD, absD, isiD, tyD, min2D, max2D, Pv.R.of, raiseS, asgS, nameG, nilG, consG, tupG, isD, nisD, isNB, opS, pNone, pSome, seqI', itsD, sItS, putD, wipeE, backE, hle, c1, hb]
    · have hle : (12 : Int) < (ds.length : Int) := by omega
      have hgd : good most (.tup ds) = false := by
        show (decide (ds.length ≤ 12) && _) = _
        rw [decide_eq_false h12]
        rfl
      rw [hgd]
      unfold F__law_is_path g__law_is_path
      simp [-List.map_map, fnF, en0, seqS, passS, noS, exprS, retS, retN, retM, putE, setS, iteS, vOfE, eOfV, oOfV, kI, kB, kS, kN, nmV, nmO, op1, op2, opC, tst, tru, truD, notT, andT, orT, blV, vbl, andV, orV, notV, iteE, aNil, aCons, lNil, lCons, tupE, lstE, dicE, Opd.get, callF, frR, callI, callL, own1, addD, subD, negD, cmpD, lenD, intD, tupD, lisD, absD, isiD, tyD, min2D, max2D, Pv.R.of, raiseS, asgS, nameG, nilG, consG, tupG, isD, nisD, isNB, opS, pNone, pSome, seqI', itsD, sItS, putD, wipeE, backE, hle]
  · have hgd : good most v = false := by
      cases v with
      | tup ds => exact (ht ⟨ds, rfl⟩).elim
      | _ => rfl
    have hi : isiD "tuple" v = some (.bl false, 0) := by
      cases v with
      | tup ds => exact (ht ⟨ds, rfl⟩).elim
      | fn _ => simp [tyV, tyD] at hv
      | _ => rfl
    rw [hgd]
    unfold F__law_is_path g__law_is_path
    simp [-List.map_map, fnF, en0, seqS, passS, retS, iteS, vOfE, eOfV, oOfV, kB, nmV, nmO, op1, tru, truD, notT, orT, Opd.get, Pv.R.of, hi]
/-! values bent -/
theorem bent_int (k : Nat) (a b i : Int) (hi : i.natAbs < 2 ^ 200) (dp : D) : ∃ d a' b', F__law_bent (k + 1) (stt a b) [.int i, dp] = .ok (d, 0) (stt a' b') ∧ (tyD d).isSome = true ∧ tyV d = true := by
  obtain ⟨v, a1, b1, h1, h2⟩ := take_nat a b 7 (by omega) (by omega)
  rw [← take_eq] at h1
  have h1 : F__law_take (some (.lst [.int a, .int b], 1)) [.int 7] = .ok (.int v, 0) (some (.lst [.int a1, .int b1], 1)) := h1
  obtain ⟨st, hs⟩ : ∃ st, strD (.int i) = some (.str st, 0) := ⟨_, str_nat hi⟩
  have hn : F__law_is_number none [.int i] = .ok (.bl true, 0) none := isint_any _ (by simp [tyD])
  have hx := idx_lst (ds := [.int (i + 1), .int (i - 1), .int (-i), .non, .bl true, .str st, .tup [.int i]]) (k := v) h2
  have hall : ∀ d ∈ [D.int (i + 1), .int (i - 1), .int (-i), .non, .bl true, .str st, .tup [.int i]], (tyD d).isSome = true ∧ tyV d = true := by
    intro d hd
    simp only [List.mem_cons, List.not_mem_nil, or_false] at hd
    rcases hd with rfl | rfl | rfl | rfl | rfl | rfl | rfl <;> simp [tyD, tyV]
  have hd := hall _ (List.getElem_mem h2)
  generalize [D.int (i + 1), .int (i - 1), .int (-i), .non, .bl true, .str st, .tup [.int i]][v] = d at *
  refine ⟨d, a1, b1, ?_, hd⟩
  show fnF 4 true (g__law_bent (F__law_bent k)) _ _ = _
  unfold g__law_bent
  simp [-List.map_map, fnF, en0, seqS, passS, noS, exprS, retS, retN, retM, putE, setS, iteS, vOfE, eOfV, oOfV, kI, kB, kS, kN, nmV, nmO, op1, op2, opC, tst, tru, truD, notT, andT, orT, blV, vbl, andV, orV, notV, iteE, aNil, aCons, lNil, lCons, tupE, lstE, dicE, Opd.get, callF, frR, callI, callL, own1, addD, subD, negD, cmpD, lenD, intD, tupD, lisD, absD, isiD, tyD, min2D, max2D, Pv.R.of, raiseS, asgS, nameG, nilG, consG, tupG, isD, nisD, isNB, opS, pNone, pSome, seqI', itsD, sItS, putD, wipeE, backE, hn, h1, hs, hx]
theorem bent_nil (k : Nat) (a b : Int) : ∃ d a' b', F__law_bent (k + 1) (stt a b) [.tup [], .int 0] = .ok (d, 0) (stt a' b') ∧ tyV d = true := by
  obtain ⟨v, a1, b1, h1, h2⟩ := take_nat a b 6 (by omega) (by omega)
  rw [← take_eq] at h1
  have h1 : F__law_take (some (.lst [.int a, .int b], 1)) [.int 6] = .ok (.int v, 0) (some (.lst [.int a1, .int b1], 1)) := h1
  have hn : F__law_is_number none [.tup []] = .ok (.bl false, 0) none := isint_any _ (by simp [tyD])
  have hx := idx_lst (ds := [.tup [.int 0], .lst [], .non, .tup [], .tup [], .tup [.tup []]]) (k := v) h2
  have hall : ∀ d ∈ [D.tup [.int 0], .lst [], .non, .tup [], .tup [], .tup [.tup []]], tyV d = true := by
    intro d hd
    simp only [List.mem_cons, List.not_mem_nil, or_false] at hd
    rcases hd with rfl | rfl | rfl | rfl | rfl | rfl <;> simp [tyD, tyV]
  have hd := hall _ (List.getElem_mem h2)
  generalize [D.tup [.int 0], .lst [], .non, .tup [], .tup [], .tup [.tup []]][v] = d at *
  have hc : slD (.tup []) none (some (-1)) = some (.tup [], 0) := rfl
  refine ⟨d, a1, b1, ?_, hd⟩
  show fnF 4 true (g__law_bent (F__law_bent k)) _ _ = _
  unfold g__law_bent
  simp [-List.map_map, fnF, en0, seqS, passS, noS, exprS, retS, retN, retM, putE, setS, iteS, vOfE, eOfV, oOfV, kI, kB, kS, kN, nmV, nmO, op1, op2, opC, tst, tru, truD, notT, andT, orT, blV, vbl, andV, orV, notV, iteE, aNil, aCons, lNil, lCons, tupE, lstE, dicE, Opd.get, callF, frR, callI, callL, own1, addD, subD, negD, cmpD, lenD, intD, tupD, lisD, absD, isiD, tyD, min2D, max2D, Pv.R.of, raiseS, asgS, nameG, nilG, consG, tupG, isD, nisD, isNB, opS, pNone, pSome, seqI', itsD, sItS, putD, wipeE, backE, hn, h1, hc, hx]
theorem bent_tup (k : Nat) (a b : Int) (xs : List Int) (h0 : xs ≠ []) (hl : xs.length ≤ 12) (hx : ∀ x ∈ xs, x.natAbs < 2 ^ 200) : ∃ d a' b', F__law_bent (k + 2) (stt a b) [.tup (nI xs), .int 0] = .ok (d, 0) (stt a' b') ∧ tyV d = true := by
  have hlen : 0 < xs.length := List.length_pos_iff.mpr h0
  obtain ⟨v, a1, b1, h1, h2⟩ := take_nat a b xs.length hlen (by omega)
  rw [← take_eq] at h1
  have h1 : F__law_take (some (.lst [.int a, .int b], 1)) [.int xs.length] = .ok (.int v, 0) (some (.lst [.int a1, .int b1], 1)) := h1
  obtain ⟨d, a2, b2, h3, h4, _⟩ := bent_int k a1 b1 xs[v] (hx _ (List.getElem_mem h2)) (.int 1)
  have h3 : F__law_bent (k + 1) (some (.lst [.int a1, .int b1], 1)) [.int xs[v], .int 1] = .ok (d, 0) (some (.lst [.int a2, .int b2], 1)) := h3
  have hi : idxD (.tup (nI xs)) (.int v) = some (.int xs[v], 0) := by
    rw [idx_tup (by simpa [nI] using h2)]
    simp [nI]
  have c1 : slD (.tup (nI xs)) none (some (v : Int)) = some (.tup ((nI xs).take v), 0) := by
    show some (D.tup (cutD (nI xs) none (some (v : Int))), 0) = _
    rw [cut_to (by simp [nI]; omega)]
  have c2 : slD (.tup (nI xs)) (some ((v : Int) + 1)) none = some (.tup ((nI xs).drop (v + 1)), 0) := by
    show some (D.tup (cutD (nI xs) (some ((v : Int) + 1)) none), 0) = _
    have e : (v : Int) + 1 = ((v + 1 : Nat) : Int) := by omega
    rw [e, cut_from (by simp [nI]; omega)]
  have hl1 : (nI xs).length = xs.length := by simp [nI]
  have hp : (0 : Int) < xs.length := by omega
  have hty : tyV (.tup ((nI xs).take v ++ [d] ++ (nI xs).drop (v + 1))) = true := by
    unfold tyV
    rw [Bool.and_eq_true, List.all_eq_true]
    refine ⟨fun e he => ?_, decide_eq_true (by simp [nI]; omega)⟩
    rcases List.mem_append.mp he with he | he
    · rcases List.mem_append.mp he with he | he
      · obtain ⟨i, _, rfl⟩ := List.mem_map.mp (List.mem_of_mem_take he)
        rfl
      · rw [List.mem_singleton.mp he]; exact h4
    · obtain ⟨i, _, rfl⟩ := List.mem_map.mp (List.mem_of_mem_drop he)
      rfl
  have l1 : ((nI xs).take v).length + 1 ≤ lim := le_lim (by simp [nI]; omega)
  have l2 : ((nI xs).take v).length + (1 + ((nI xs).drop (v + 1)).length) ≤ lim := le_lim (by simp [nI]; omega)
  refine ⟨_, a2, b2, ?_, hty⟩
  show fnF 4 true (g__law_bent (F__law_bent (k + 1))) _ _ = _
  unfold g__law_bent
  generalize hT : (nI xs).take v = T at *
  generalize hU : (nI xs).drop (v + 1) = U at *
  have l2' : T.length + 1 + U.length ≤ lim := by omega
  generalize nI xs = X at *
  simp [-List.map_map, fnF, en0, seqS, passS, noS, exprS, retS, retN, retM, putE, setS, iteS, vOfE, eOfV, oOfV, kI, kB, kS, kN, nmV, nmO, op1, op2, opC, tst, tru, truD, notT, andT, orT, blV, vbl, andV, orV, notV, iteE, aNil, aCons, lNil, lCons, tupE, lstE, dicE, Opd.get, callF, frR, callI, callL, own1, addD, subD, negD, cmpD, lenD, intD, tupD, lisD, absD, isiD, tyD, min2D, max2D, Pv.R.of, raiseS, asgS, nameG, nilG, consG, tupG, isD, nisD, isNB, opS, pNone, pSome, seqI', itsD, sItS, putD, wipeE, backE, hl1, hlen, hp, h1, h3, hi, c1, c2, l1, l2, l2']

/-! a drawn path -/
abbrev de (st : Sl) (n : Int) (tn h p lf sp s : Sl) : En := [st, some (.int n, 0), tn, h, p, lf, sp, s]
def sts (h left : Int) : List Int := ([-1, 0, 1] : List Int).filter fun s => decide (0 ≤ h + s) && decide (h + s ≤ left - 1)
theorem dp_c1 (st : Sl) (n : Int) (tn : Sl) (h left : Int) (p sp s : Sl) (hs : s = none ∨ ∃ v, s = some (D.int v, 0)) : cp__law_drawn_path_1 (de st n tn (some (.int h, 0)) p (some (.int left, 0)) sp s) = .ok (.lst ((sts h left).map D.int), 1) (de st n tn (some (.int h, 0)) p (some (.int left, 0)) sp s) := by
  have key : ∀ e2, backE (de st n tn (some (.int h, 0)) p (some (.int left, 0)) sp s) (de st n tn (some (.int h, 0)) p (some (.int left, 0)) sp none) [7] = e2 → cp__law_drawn_path_1 (de st n tn (some (.int h, 0)) p (some (.int left, 0)) sp s) = .ok (.lst ((sts h left).map D.int), 1) e2 := fun e2 he => by
    refine comp_filterT D.int D.int (fun s => decide (0 ≤ h + s) && decide (h + s ≤ left - 1)) (de st n tn (some (.int h, 0)) p (some (.int left, 0)) sp none) (env1 := de st n tn (some (.int h, 0)) p (some (.int left, 0)) sp s) (bs := [-1, 0, 1]) ?_ rfl he (by decide) fun v _ => ⟨de st n tn (some (.int h, 0)) p (some (.int left, 0)) sp (some (.int v, 0)), de st n tn (some (.int h, 0)) p (some (.int left, 0)) sp (some (.int v, 0)), ?_, ?_, fun _ => rfl, fun _ => ⟨de st n tn (some (.int h, 0)) p (some (.int left, 0)) sp (some (.int v, 0)), ?_, rfl⟩⟩
    · simp [-List.map_map, fnF, en0, seqS, passS, noS, exprS, retS, retN, retM, putE, setS, iteS, vOfE, eOfV, oOfV, kI, kB, kS, kN, nmV, nmO, op1, op2, opC, tst, tru, truD, notT, andT, orT, blV, vbl, andV, orV, notV, iteE, aNil, aCons, lNil, lCons, tupE, lstE, dicE, Opd.get, callF, frR, callI, callL, own1, addD, subD, negD, cmpD, lenD, intD, tupD, lisD, absD, isiD, tyD, min2D, max2D, Pv.R.of, raiseS, asgS, nameG, nilG, consG, tupG, isD, nisD, isNB, opS, pNone, pSome, seqI', itsD, sItS, putD, wipeE, backE]
    · simp [-List.map_map, fnF, en0, seqS, passS, noS, exprS, retS, retN, retM, putE, setS, iteS, vOfE, eOfV, oOfV, kI, kB, kS, kN, nmV, nmO, op1, op2, opC, tst, tru, truD, notT, andT, orT, blV, vbl, andV, orV, notV, iteE, aNil, aCons, lNil, lCons, tupE, lstE, dicE, Opd.get, callF, frR, callI, callL, own1, addD, subD, negD, cmpD, lenD, intD, tupD, lisD, absD, isiD, tyD, min2D, max2D, Pv.R.of, raiseS, asgS, nameG, nilG, consG, tupG, isD, nisD, isNB, opS, pNone, pSome, seqI', itsD, sItS, putD, wipeE, backE]
    · by_cases q1 : 0 ≤ h + v
      · simp [-List.map_map, fnF, en0, seqS, passS, noS, exprS, retS, retN, retM, putE, setS, iteS, vOfE, eOfV, oOfV, kI, kB, kS, kN, nmV, nmO, op1, op2, opC, tst, tru, truD, notT, andT, orT, blV, vbl, andV, orV, notV, iteE, aNil, aCons, lNil, lCons, tupE, lstE, dicE, Opd.get, callF, frR, callI, callL, own1, addD, subD, negD, cmpD, lenD, intD, tupD, lisD, absD, isiD, tyD, min2D, max2D, Pv.R.of, raiseS, asgS, nameG, nilG, consG, tupG, isD, nisD, isNB, opS, pNone, pSome, seqI', itsD, sItS, putD, wipeE, backE, q1]
      · simp [-List.map_map, fnF, en0, seqS, passS, noS, exprS, retS, retN, retM, putE, setS, iteS, vOfE, eOfV, oOfV, kI, kB, kS, kN, nmV, nmO, op1, op2, opC, tst, tru, truD, notT, andT, orT, blV, vbl, andV, orV, notV, iteE, aNil, aCons, lNil, lCons, tupE, lstE, dicE, Opd.get, callF, frR, callI, callL, own1, addD, subD, negD, cmpD, lenD, intD, tupD, lisD, absD, isiD, tyD, min2D, max2D, Pv.R.of, raiseS, asgS, nameG, nilG, consG, tupG, isD, nisD, isNB, opS, pNone, pSome, seqI', itsD, sItS, putD, wipeE, backE, q1]
    · simp [-List.map_map, fnF, en0, seqS, passS, noS, exprS, retS, retN, retM, putE, setS, iteS, vOfE, eOfV, oOfV, kI, kB, kS, kN, nmV, nmO, op1, op2, opC, tst, tru, truD, notT, andT, orT, blV, vbl, andV, orV, notV, iteE, aNil, aCons, lNil, lCons, tupE, lstE, dicE, Opd.get, callF, frR, callI, callL, own1, addD, subD, negD, cmpD, lenD, intD, tupD, lisD, absD, isiD, tyD, min2D, max2D, Pv.R.of, raiseS, asgS, nameG, nilG, consG, tupG, isD, nisD, isNB, opS, pNone, pSome, seqI', itsD, sItS, putD, wipeE, backE]
  rcases hs with rfl | ⟨v, rfl⟩
  · exact key _ rfl
  · exact key _ rfl
theorem dp_step (a b : Int) {n : Nat} (i : Nat) (hi : i < n) (hn : n ≤ 12) (xs : List Int) (h : Int) (hl : xs.length = i) (h0 : 0 ≤ h) (h1 : h ≤ (n : Int) - i) (lf sp s : Sl) (hs : s = none ∨ ∃ v, s = some (D.int v, 0)) : ∃ (a' b' v : Int) (lf' sp' : Sl), lb__law_drawn_path_1 (de (stt a b) n (some (.int i, 0)) (some (.int h, 0)) (some (.tup (nI xs), 0)) lf sp s) = .nx (de (stt a' b') n (some (.int i, 0)) (some (.int (h + v), 0)) (some (.tup (nI (xs ++ [v])), 0)) lf' sp' (some (.int v, 0))) ∧ 0 ≤ h + v ∧ h + v ≤ (n : Int) - (i + 1 : Nat) ∧ -1 ≤ v ∧ v ≤ 1 := by
  have hmem : ∀ v, v ∈ sts h ((n : Int) - i) ↔ (v = -1 ∨ v = 0 ∨ v = 1) ∧ 0 ≤ h + v ∧ h + v ≤ (n : Int) - i - 1 := fun v => by
    unfold sts
    simp only [List.mem_filter, List.mem_cons, List.not_mem_nil, or_false, Bool.and_eq_true, decide_eq_true_eq]
  have hpos : 0 < (sts h ((n : Int) - i)).length := by
    by_cases q : h = 0
    · exact List.length_pos_of_mem ((hmem 0).mpr (by omega))
    · exact List.length_pos_of_mem ((hmem (-1)).mpr (by omega))
  have hle : (sts h ((n : Int) - i)).length ≤ 3 := List.length_filter_le _ _
  obtain ⟨k, a1, b1, t1, hk⟩ := take_nat a b (sts h ((n : Int) - i)).length hpos (by omega)
  rw [← take_eq] at t1
  have hv := (hmem (sts h ((n : Int) - i))[k]).mp (List.getElem_mem hk)
  have hx : idxD (.lst ((sts h ((n : Int) - i)).map D.int)) (.int k) = some (.int (sts h ((n : Int) - i))[k], 0) := by
    rw [idx_lst (by simpa using hk)]
    simp
  have hE : ((sts h ((n : Int) - i)).map D.int).length = (sts h ((n : Int) - i)).length := by simp
  have c1 := dp_c1 (stt a b) n (some (.int i, 0)) h ((n : Int) - i) (some (.tup (nI xs), 0)) sp s hs
  have l1 : (nI xs).length + 1 ≤ lim := le_lim (by simp [nI]; omega)
  generalize (sts h ((n : Int) - i))[k] = v at *
  generalize (sts h ((n : Int) - i)).map D.int = E at *
  generalize (sts h ((n : Int) - i)).length = m at *
  refine ⟨a1, b1, v, some (.int ((n : Int) - i), 0), some (.lst E, 1), ?_, by omega, by omega, by omega, by omega⟩
  rw [nI_app, show nI [v] = [.int v] from rfl]
  generalize nI xs = X at *
  have p1 : (setS 5 ((op2 subD (nmO 1) (nmO 2)))) (de (stt a b) n (some (.int i, 0)) (some (.int h, 0)) (some (.tup X, 0)) lf sp s) = .nx (de (stt a b) n (some (.int i, 0)) (some (.int h, 0)) (some (.tup X, 0)) (some (.int ((n : Int) - i), 0)) sp s) := by simp [-List.map_map, fnF, en0, seqS, passS, noS, exprS, retS, retN, retM, putE, setS, iteS, vOfE, eOfV, oOfV, kI, kB, kS, kN, nmV, nmO, op1, op2, opC, tst, tru, truD, notT, andT, orT, blV, vbl, andV, orV, notV, iteE, aNil, aCons, lNil, lCons, tupE, lstE, dicE, Opd.get, callF, frR, callI, callL, own1, addD, subD, negD, cmpD, lenD, intD, tupD, lisD, absD, isiD, tyD, min2D, max2D, Pv.R.of, raiseS, asgS, nameG, nilG, consG, tupG, isD, nisD, isNB, opS, pNone, pSome, seqI', itsD, sItS, putD, wipeE, backE]
  have p2 : (setS 6 cp__law_drawn_path_1) (de (stt a b) n (some (.int i, 0)) (some (.int h, 0)) (some (.tup X, 0)) (some (.int ((n : Int) - i), 0)) sp s) = .nx (de (stt a b) n (some (.int i, 0)) (some (.int h, 0)) (some (.tup X, 0)) (some (.int ((n : Int) - i), 0)) (some (.lst E, 1)) s) := by
    unfold setS
    rw [c1]
    rfl
  refine (seqS_nx p1).trans ((seqS_nx p2).trans ?_)
  simp [-List.map_map, fnF, en0, seqS, passS, noS, exprS, retS, retN, retM, putE, setS, iteS, vOfE, eOfV, oOfV, kI, kB, kS, kN, nmV, nmO, op1, op2, opC, tst, tru, truD, notT, andT, orT, blV, vbl, andV, orV, notV, iteE, aNil, aCons, lNil, lCons, tupE, lstE, dicE, Opd.get, callF, frR, callI, callL, own1, addD, subD, negD, cmpD, lenD, intD, tupD, lisD, absD, isiD, tyD, min2D, max2D, Pv.R.of, raiseS, asgS, nameG, nilG, consG, tupG, isD, nisD, isNB, opS, pNone, pSome, seqI', itsD, sItS, putD, wipeE, backE, t1, hx, hE, l1]
theorem drawn_ok (a b : Int) {n : Nat} (hn : n ≤ 12) : ∃ (p : List Int) (a' b' : Int), F__law_drawn_path (stt a b) [.int n] = .ok (tD p, 0) (stt a' b') ∧ p.length = n ∧ ∀ x ∈ p, x.natAbs < 2 ^ 200 := by
  obtain ⟨e, he, a1, b1, tn, h, p, lf, sp, s, rfl, q1, q2, q3, q4, q5⟩ := loopS_ex (g := nameG 2) (body := lb__law_drawn_path_1) (fun k : Nat => D.int k) (List.range n) (fun i env => ∃ a b tn h p lf sp s, env = de (stt a b) n tn (some (.int h, 0)) (some (.tup (nI p), 0)) lf sp s ∧ p.length = i ∧ 0 ≤ h ∧ h ≤ (n : Int) - i ∧ (s = none ∨ ∃ v, s = some (D.int v, 0)) ∧ ∀ x ∈ p, x.natAbs < 2 ^ 200)
    (de (stt a b) n none (some (.int 0, 0)) (some (.tup (nI []), 0)) none none none) ⟨a, b, none, 0, [], none, none, none, rfl, rfl, by omega, by omega, .inl rfl, fun x hx => by cases hx⟩ fun i hi env hP => by
      obtain ⟨a, b, tn, h, p, lf, sp, s, rfl, q1, q2, q3, q4, q5⟩ := hP
      simp only [List.length_range] at hi
      obtain ⟨a', b', v, lf', sp', r1, r2, r3, r4, r5⟩ := dp_step a b i hi hn p h q1 q2 q3 lf sp s q4
      refine ⟨de (stt a b) n (some (.int i, 0)) (some (.int h, 0)) (some (.tup (nI p), 0)) lf sp s, _, ?_, r1, a', b', _, h + v, p ++ [v], lf', sp', _, rfl, by simp [q1], r2, r3, .inr ⟨v, rfl⟩, fun x hx => ?_⟩
      · generalize nI p = X
        simp [-List.map_map, fnF, en0, seqS, passS, noS, exprS, retS, retN, retM, putE, setS, iteS, vOfE, eOfV, oOfV, kI, kB, kS, kN, nmV, nmO, op1, op2, opC, tst, tru, truD, notT, andT, orT, blV, vbl, andV, orV, notV, iteE, aNil, aCons, lNil, lCons, tupE, lstE, dicE, Opd.get, callF, frR, callI, callL, own1, addD, subD, negD, cmpD, lenD, intD, tupD, lisD, absD, isiD, tyD, min2D, max2D, Pv.R.of, raiseS, asgS, nameG, nilG, consG, tupG, isD, nisD, isNB, opS, pNone, pSome, seqI', itsD, sItS, putD, wipeE, backE, List.getElem_range]
      · rcases List.mem_append.mp hx with z | z
        · exact q5 x z
        · rw [List.mem_singleton.mp z]
          have : v.natAbs ≤ 1 := by omega
          exact Nat.lt_of_le_of_lt this (by decide)
  rw [List.length_range] at q1
  have a1' : g__law_drawn_path_1 (en0 8 (stt a b) [.int n]) = .nx (de (stt a b) n none (some (.int 0, 0)) (some (.tup (nI []), 0)) none none none) := by
    simp [-List.map_map, fnF, en0, seqS, passS, noS, exprS, retS, retN, retM, putE, setS, iteS, vOfE, eOfV, oOfV, kI, kB, kS, kN, nmV, nmO, op1, op2, opC, tst, tru, truD, notT, andT, orT, blV, vbl, andV, orV, notV, iteE, aNil, aCons, lNil, lCons, tupE, lstE, dicE, Opd.get, callF, frR, callI, callL, own1, addD, subD, negD, cmpD, lenD, intD, tupD, lisD, absD, isiD, tyD, min2D, max2D, Pv.R.of, raiseS, asgS, nameG, nilG, consG, tupG, isD, nisD, isNB, opS, pNone, pSome, seqI', itsD, sItS, putD, wipeE, backE]
    rfl
  have a2 : g__law_drawn_path_2 (de (stt a b) n none (some (.int 0, 0)) (some (.tup (nI []), 0)) none none none) = .nx _ :=
    (forS_ok (rg1_ok (n := n) (env1 := de (stt a b) n none (some (.int 0, 0)) (some (.tup (nI []), 0)) none none none) (by simp [-List.map_map, fnF, en0, seqS, passS, noS, exprS, retS, retN, retM, putE, setS, iteS, vOfE, eOfV, oOfV, kI, kB, kS, kN, nmV, nmO, op1, op2, opC, tst, tru, truD, notT, andT, orT, blV, vbl, andV, orV, notV, iteE, aNil, aCons, lNil, lCons, tupE, lstE, dicE, Opd.get, callF, frR, callI, callL, own1, addD, subD, negD, cmpD, lenD, intD, tupD, lisD, absD, isiD, tyD, min2D, max2D, Pv.R.of, raiseS, asgS, nameG, nilG, consG, tupG, isD, nisD, isNB, opS, pNone, pSome, seqI', itsD, sItS, putD, wipeE, backE]) (by omega))).trans he
  have a3 : g__law_drawn_path_3 (de (stt a1 b1) n tn (some (.int h, 0)) (some (.tup (nI p), 0)) lf sp s) = .ret (.tup (nI p), 0) (de (stt a1 b1) n tn (some (.int h, 0)) none lf sp s) := by simp [-List.map_map, fnF, en0, seqS, passS, noS, exprS, retS, retN, retM, putE, setS, iteS, vOfE, eOfV, oOfV, kI, kB, kS, kN, nmV, nmO, op1, op2, opC, tst, tru, truD, notT, andT, orT, blV, vbl, andV, orV, notV, iteE, aNil, aCons, lNil, lCons, tupE, lstE, dicE, Opd.get, callF, frR, callI, callL, own1, addD, subD, negD, cmpD, lenD, intD, tupD, lisD, absD, isiD, tyD, min2D, max2D, Pv.R.of, raiseS, asgS, nameG, nilG, consG, tupG, isD, nisD, isNB, opS, pNone, pSome, seqI', itsD, sItS, putD, wipeE, backE]
  refine ⟨p, a1, b1, ?_, q1, q5⟩
  show fnF 8 true g__law_drawn_path _ _ = _
  unfold fnF
  unfold g__law_drawn_path
  rw [(seqS_nx a1').trans ((seqS_nx a2).trans a3)]
  rfl
theorem bent_any {xs : List Int} (hl : xs.length ≤ 12) (hx : ∀ x ∈ xs, x.natAbs < 2 ^ 200) (a b : Int) : ∃ d a' b', F__law_bent 4 (stt a b) [tD xs, .int 0] = .ok (d, 0) (stt a' b') ∧ tyV d = true := by
  by_cases q : xs = []
  · subst q
    exact bent_nil 3 a b
  · exact bent_tup 2 a b xs q hl hx
end L34
end

section
open Pv PySem PM Pa
set_option Elab.async false
set_option linter.all false
set_option maxRecDepth 100000
namespace L34
abbrev le (sc st n m nu tu pa lo vs v o t w b k : Sl) : En := [sc, st, n, m, nu, tu, pa, lo, vs, v, o, t, w, b, k]
theorem pl_big (L : List (List Int)) : PlD (bigD L) := PlD.tup (k := 1) (fun d hd => by
  obtain ⟨p, _, rfl⟩ := List.mem_map.mp hd
  have h : PlD (tD p) := PlD.tup (k := 0) (fun d hd => by
    obtain ⟨i, _, rfl⟩ := List.mem_map.mp hd
    exact ⟨rfl, Nat.le_refl _⟩) (by omega)
  refine ⟨h.p, ?_⟩
  unfold tD
  rw [dpD]
  have := dpL_le (ds := nI p) (k := 0) fun d hd => by
    obtain ⟨i, _, rfl⟩ := List.mem_map.mp hd
    simp [dpD]
  omega) (by omega)
theorem w1 (ns : List Int) : ∃ a b, g_law_1 (en0 15 none [.scr ns]) = .nx (le (some (.scr ns, 0)) (stt a b) none none none none none none none none none none none none none) := by
  obtain ⟨a, b, h⟩ := lawState_ok ns
  have h' : F__law_state none [.scr ns] = .ok (.lst [.int a, .int b], 1) none := h
  exact ⟨a, b, by simp [-List.map_map, fnF, en0, seqS, passS, noS, exprS, retS, retN, retM, putE, setS, iteS, vOfE, eOfV, oOfV, kI, kB, kS, kN, nmV, nmO, op1, op2, opC, tst, tru, truD, notT, andT, orT, blV, vbl, andV, orV, notV, iteE, aNil, aCons, lNil, lCons, tupE, lstE, dicE, Opd.get, callF, frR, callI, callL, own1, addD, subD, negD, cmpD, lenD, intD, tupD, lisD, absD, isiD, tyD, min2D, max2D, Pv.R.of, raiseS, asgS, nameG, nilG, consG, tupG, isD, nisD, isNB, opS, pNone, pSome, seqI', itsD, sItS, putD, wipeE, backE, h']⟩
theorem w2 (sc : Sl) (a b : Int) : ∃ (n : Nat) (a' b' : Int), g_law_2 (le sc (stt a b) none none none none none none none none none none none none none) = .nx (le sc (stt a' b') (some (.int n, 0)) none none none none none none none none none none none none) ∧ n ≤ 7 := by
  obtain ⟨v, a1, b1, h1, h2⟩ := take_nat a b 8 (by omega) (by omega)
  rw [← take_eq] at h1
  have h1 : F__law_take (some (.lst [.int a, .int b], 1)) [.int 8] = .ok (.int v, 0) (some (.lst [.int a1, .int b1], 1)) := h1
  exact ⟨v, a1, b1, by simp [-List.map_map, fnF, en0, seqS, passS, noS, exprS, retS, retN, retM, putE, setS, iteS, vOfE, eOfV, oOfV, kI, kB, kS, kN, nmV, nmO, op1, op2, opC, tst, tru, truD, notT, andT, orT, blV, vbl, andV, orV, notV, iteE, aNil, aCons, lNil, lCons, tupE, lstE, dicE, Opd.get, callF, frR, callI, callL, own1, addD, subD, negD, cmpD, lenD, intD, tupD, lisD, absD, isiD, tyD, min2D, max2D, Pv.R.of, raiseS, asgS, nameG, nilG, consG, tupG, isD, nisD, isNB, opS, pNone, pSome, seqI', itsD, sItS, putD, wipeE, backE, h1], by omega⟩
theorem w3 (sc st : Sl) {n : Nat} (hn : n ≤ 7) : g_law_3 (le sc st (some (.int n, 0)) none none none none none none none none none none none none) = .nx (le sc st (some (.int n, 0)) none none none none none none none none none none none none) := by
  obtain ⟨t0, t1⟩ := told_ok (n := n) (by omega)
  have l1 := lawpaths_ok (n := n) (most := 1) hn ⟨by omega, by omega⟩
  have l2 := lawpaths_ok (n := n) (most := n) hn ⟨by omega, by omega⟩
  rw [← pths_eq (n := n) (most := 1) (mp := 1) (.inl rfl)] at l1
  rw [← pths_eq (n := n) (most := n) (mp := 12) (.inr ⟨rfl, by omega⟩)] at l2
  have e1 := neD_same (pl_big (pths n 1))
  have e2 := neD_same (pl_big (pths n 12))
  unfold bigD at *
  generalize (pths n 1).map tD = A at *
  generalize (pths n 12).map tD = B at *
  simp [-List.map_map, fnF, en0, seqS, passS, noS, exprS, retS, retN, retM, putE, setS, iteS, vOfE, eOfV, oOfV, kI, kB, kS, kN, nmV, nmO, op1, op2, opC, tst, tru, truD, notT, andT, orT, blV, vbl, andV, orV, notV, iteE, aNil, aCons, lNil, lCons, tupE, lstE, dicE, Opd.get, callF, frR, callI, callL, own1, addD, subD, negD, cmpD, lenD, intD, tupD, lisD, absD, isiD, tyD, min2D, max2D, Pv.R.of, raiseS, asgS, nameG, nilG, consG, tupG, isD, nisD, isNB, opS, pNone, pSome, seqI', itsD, sItS, putD, wipeE, backE, t0, t1, l1, l2, e1, e2]
theorem w4 (sc n : Sl) (a b : Int) : ∃ (m : Nat) (a' b' : Int), g_law_4 (le sc (stt a b) n none none none none none none none none none none none none) = .nx (le sc (stt a' b') n (some (.int m, 0)) none none none none none none none none none none none) ∧ (m = 8 ∨ m = 9) := by
  obtain ⟨v, a1, b1, h1, h2⟩ := take_nat a b 2 (by omega) (by omega)
  rw [← take_eq] at h1
  have h1 : F__law_take (some (.lst [.int a, .int b], 1)) [.int 2] = .ok (.int v, 0) (some (.lst [.int a1, .int b1], 1)) := h1
  exact ⟨8 + v, a1, b1, by simp [-List.map_map, fnF, en0, seqS, passS, noS, exprS, retS, retN, retM, putE, setS, iteS, vOfE, eOfV, oOfV, kI, kB, kS, kN, nmV, nmO, op1, op2, opC, tst, tru, truD, notT, andT, orT, blV, vbl, andV, orV, notV, iteE, aNil, aCons, lNil, lCons, tupE, lstE, dicE, Opd.get, callF, frR, callI, callL, own1, addD, subD, negD, cmpD, lenD, intD, tupD, lisD, absD, isiD, tyD, min2D, max2D, Pv.R.of, raiseS, asgS, nameG, nilG, consG, tupG, isD, nisD, isNB, opS, pNone, pSome, seqI', itsD, sItS, putD, wipeE, backE, h1], by omega⟩
def nums : D := .lst [.int 1, .int 1, .int 2, .int 4, .int 9, .int 21, .int 51, .int 127, .int 323, .int 835]
theorem w5 (sc st n m : Sl) : g_law_5 (le sc st n m none none none none none none none none none none none) = .nx (le sc st n m (some (nums, 1)) none none none none none none none none none none) := by
  unfold nums
  simp [-List.map_map, fnF, en0, seqS, passS, noS, exprS, retS, retN, retM, putE, setS, iteS, vOfE, eOfV, oOfV, kI, kB, kS, kN, nmV, nmO, op1, op2, opC, tst, tru, truD, notT, andT, orT, blV, vbl, andV, orV, notV, iteE, aNil, aCons, lNil, lCons, tupE, lstE, dicE, Opd.get, callF, frR, callI, callL, own1, addD, subD, negD, cmpD, lenD, intD, tupD, lisD, absD, isiD, tyD, min2D, max2D, Pv.R.of, raiseS, asgS, nameG, nilG, consG, tupG, isD, nisD, isNB, opS, pNone, pSome, seqI', itsD, sItS, putD, wipeE, backE]
theorem w6 (sc st n nu : Sl) {m : Nat} (hm : m = 8 ∨ m = 9) : g_law_6 (le sc st n (some (.int m, 0)) nu none none none none none none none none none none) = .nx (le sc st n (some (.int m, 0)) nu none none none none none (some (bigD (pths m 1), 0)) (some (bigD (pths m 12), 0)) none none none) := by
  obtain ⟨t0, t1⟩ := told_ok (n := m) (by omega)
  generalize bigD (pths m 1) = A at *
  generalize bigD (pths m 12) = B at *
  simp [-List.map_map, fnF, en0, seqS, passS, noS, exprS, retS, retN, retM, putE, setS, iteS, vOfE, eOfV, oOfV, kI, kB, kS, kN, nmV, nmO, op1, op2, opC, tst, tru, truD, notT, andT, orT, blV, vbl, andV, orV, notV, iteE, aNil, aCons, lNil, lCons, tupE, lstE, dicE, Opd.get, callF, frR, callI, callL, own1, addD, subD, negD, cmpD, lenD, intD, tupD, lisD, absD, isiD, tyD, min2D, max2D, Pv.R.of, raiseS, asgS, nameG, nilG, consG, tupG, isD, nisD, isNB, opS, pNone, pSome, seqI', itsD, sItS, putD, wipeE, backE, t0, t1]
theorem n81 : (htP 8 1 8).length = 323 := by decide +kernel
theorem n91 : (htP 9 1 9).length = 835 := by decide +kernel
theorem n82 : (htP 8 12 8).length = 1430 := by decide +kernel
theorem n92 : (htP 9 12 9).length = 4862 := by decide +kernel
theorem pths_len (n : Nat) (most : Int) : ((pths n most).map tD).length = (htP n most n).length := by
  unfold pths
  rw [List.length_map, List.length_map, prg_len]
theorem w7 (sc st n : Sl) {m : Nat} (hm : m = 8 ∨ m = 9) : g_law_7 (le sc st n (some (.int m, 0)) (some (nums, 1)) none none none none none (some (bigD (pths m 1), 0)) (some (bigD (pths m 12), 0)) none none none) = .nx (le sc st n (some (.int m, 0)) (some (nums, 1)) none none none none none (some (bigD (pths m 1), 0)) (some (bigD (pths m 12), 0)) none none none) := by
  unfold bigD
  rcases hm with rfl | rfl
  · have h1 := pths_len 8 1
    have h2 := pths_len 8 12
    rw [n81] at h1
    rw [n82] at h2
    have c : F__law_chosen none [.int 16, .int 8] = .ok (.int 12870, 0) none := by kernel_rfl
    have i : idxD nums (.int 8) = some (.int 323, 0) := by kernel_rfl
    have mu : mulD (.int 2) (.int 8) = some (.int 16, 0) := by kernel_rfl
    have fd : fdivD (.int 12870) (.int 9) = some (.int 1430, 0) := by kernel_rfl
    generalize (pths 8 1).map tD = A at *
    generalize (pths 8 12).map tD = B at *
    generalize nums = N at *
    simp [-List.map_map, fnF, en0, seqS, passS, noS, exprS, retS, retN, retM, putE, setS, iteS, vOfE, eOfV, oOfV, kI, kB, kS, kN, nmV, nmO, op1, op2, opC, tst, tru, truD, notT, andT, orT, blV, vbl, andV, orV, notV, iteE, aNil, aCons, lNil, lCons, tupE, lstE, dicE, Opd.get, callF, frR, callI, callL, own1, addD, subD, negD, cmpD, lenD, intD, tupD, lisD, absD, isiD, tyD, min2D, max2D, Pv.R.of, raiseS, asgS, nameG, nilG, consG, tupG, isD, nisD, isNB, opS, pNone, pSome, seqI', itsD, sItS, putD, wipeE, backE, h1, h2, c, i, mu, fd, neD]
  · have h1 := pths_len 9 1
    have h2 := pths_len 9 12
    rw [n91] at h1
    rw [n92] at h2
    have c : F__law_chosen none [.int 18, .int 9] = .ok (.int 48620, 0) none := by kernel_rfl
    have i : idxD nums (.int 9) = some (.int 835, 0) := by kernel_rfl
    have mu : mulD (.int 2) (.int 9) = some (.int 18, 0) := by kernel_rfl
    have fd : fdivD (.int 48620) (.int 10) = some (.int 4862, 0) := by kernel_rfl
    generalize (pths 9 1).map tD = A at *
    generalize (pths 9 12).map tD = B at *
    generalize nums = N at *
    simp [-List.map_map, fnF, en0, seqS, passS, noS, exprS, retS, retN, retM, putE, setS, iteS, vOfE, eOfV, oOfV, kI, kB, kS, kN, nmV, nmO, op1, op2, opC, tst, tru, truD, notT, andT, orT, blV, vbl, andV, orV, notV, iteE, aNil, aCons, lNil, lCons, tupE, lstE, dicE, Opd.get, callF, frR, callI, callL, own1, addD, subD, negD, cmpD, lenD, intD, tupD, lisD, absD, isiD, tyD, min2D, max2D, Pv.R.of, raiseS, asgS, nameG, nilG, consG, tupG, isD, nisD, isNB, opS, pNone, pSome, seqI', itsD, sItS, putD, wipeE, backE, h1, h2, c, i, mu, fd, neD]
theorem lt_tD (p q : List Int) : ltTD (tD p) (tD q) = some (.bl (HT.lexLt p q), 0) := by
  unfold ltTD tD
  simp only [ints_nI]
theorem at_big {L : List (List Int)} {k : Nat} (h : k < L.length) : idxD (bigD L) (.int k) = some (tD L[k], 0) := by
  unfold bigD
  rw [idx_tup (by simpa using h)]
  simp
theorem asc_at {L : List (List Int)} (h : L.Pairwise fun p q => HT.lexLt p q = true) {k : Nat} (hk : 1 + k < L.length) : HT.lexLt L[k] L[1 + k] = true :=
  List.pairwise_iff_getElem.mp h k (1 + k) (by omega) hk (by omega)
theorem pths_asc {m : Nat} (hm : m = 8 ∨ m = 9) : (pths m 1).Pairwise (fun p q => HT.lexLt p q = true) ∧ (pths m 12).Pairwise (fun p q => HT.lexLt p q = true) := by
  constructor
  · rw [pths_eq (n := m) (most := 1) (mp := 1) (.inl rfl)]
    exact ends_asc m 1
  · rw [pths_eq (n := m) (most := m) (mp := 12) (.inr ⟨rfl, by omega⟩)]
    exact ends_asc m m
theorem asc_c1 (sc st n m nu : Sl) {L : List (List Int)} (t : Sl) (hl : L.length ≤ 5000) (h : L.Pairwise fun p q => HT.lexLt p q = true) : cp_law_1 (le sc st n m nu none none none none none (some (bigD L, 0)) t none none none) = .ok (.lst (((List.range (L.length - 1)).map fun _ => true).map D.bl), 1) (le sc st n m nu none none none none none (some (bigD L, 0)) t none none none) := by
  have hE : (L.map tD).length = L.length := by simp
  have ha := fun k (hk : k < L.length) => at_big hk
  have hx := fun k (hk : 1 + k < L.length) => asc_at h hk
  have hlt := lt_tD
  rw [List.map_map]
  unfold bigD at *
  generalize L.map tD = T at *
  refine comp_map1 (fun k : Nat => .int (1 + k : Nat)) _ (rg2_ok (l := 1) (n := L.length) (env1 := le sc st n m nu none none none none none (some (.tup T, 0)) t none none none) (by simp [-List.map_map, fnF, en0, seqS, passS, noS, exprS, retS, retN, retM, putE, setS, iteS, vOfE, eOfV, oOfV, kI, kB, kS, kN, nmV, nmO, op1, op2, opC, tst, tru, truD, notT, andT, orT, blV, vbl, andV, orV, notV, iteE, aNil, aCons, lNil, lCons, tupE, lstE, dicE, Opd.get, callF, frR, callI, callL, own1, addD, subD, negD, cmpD, lenD, intD, tupD, lisD, absD, isiD, tyD, min2D, max2D, Pv.R.of, raiseS, asgS, nameG, nilG, consG, tupG, isD, nisD, isNB, opS, pNone, pSome, seqI', itsD, sItS, putD, wipeE, backE, hE]) (by omega) (by omega)) rfl (by simp; omega) fun k hk => ?_
  have hk := List.mem_range.mp hk
  have h1 := ha k (by omega)
  have h2 := ha (1 + k) (by omega)
  have h3 := hlt L[k] L[1 + k]
  rw [hx k (by omega)] at h3
  rw [show ((1 + k : Nat) : Int) = 1 + (k : Int) by omega] at h2
  have e0 : (1 : Int) + (k : Int) - 1 = k := by omega
  generalize tD L[k] = P at *
  generalize tD L[1 + k] = Q at *
  simp [-List.map_map, fnF, en0, seqS, passS, noS, exprS, retS, retN, retM, putE, setS, iteS, vOfE, eOfV, oOfV, kI, kB, kS, kN, nmV, nmO, op1, op2, opC, tst, tru, truD, notT, andT, orT, blV, vbl, andV, orV, notV, iteE, aNil, aCons, lNil, lCons, tupE, lstE, dicE, Opd.get, callF, frR, callI, callL, own1, addD, subD, negD, cmpD, lenD, intD, tupD, lisD, absD, isiD, tyD, min2D, max2D, Pv.R.of, raiseS, asgS, nameG, nilG, consG, tupG, isD, nisD, isNB, opS, pNone, pSome, seqI', itsD, sItS, putD, wipeE, backE, h1, h2, h3, e0]
theorem asc_c2 (sc st n m nu : Sl) {L : List (List Int)} (t : Sl) (hl : L.length ≤ 5000) (h : L.Pairwise fun p q => HT.lexLt p q = true) : cp_law_2 (le sc st n m nu none none none none none t (some (bigD L, 0)) none none none) = .ok (.lst (((List.range (L.length - 1)).map fun _ => true).map D.bl), 1) (le sc st n m nu none none none none none t (some (bigD L, 0)) none none none) := by
  have hE : (L.map tD).length = L.length := by simp
  have ha := fun k (hk : k < L.length) => at_big hk
  have hx := fun k (hk : 1 + k < L.length) => asc_at h hk
  have hlt := lt_tD
  rw [List.map_map]
  unfold bigD at *
  generalize L.map tD = T at *
  refine comp_map1 (fun k : Nat => .int (1 + k : Nat)) _ (rg2_ok (l := 1) (n := L.length) (env1 := le sc st n m nu none none none none none t (some (.tup T, 0)) none none none) (by simp [-List.map_map, fnF, en0, seqS, passS, noS, exprS, retS, retN, retM, putE, setS, iteS, vOfE, eOfV, oOfV, kI, kB, kS, kN, nmV, nmO, op1, op2, opC, tst, tru, truD, notT, andT, orT, blV, vbl, andV, orV, notV, iteE, aNil, aCons, lNil, lCons, tupE, lstE, dicE, Opd.get, callF, frR, callI, callL, own1, addD, subD, negD, cmpD, lenD, intD, tupD, lisD, absD, isiD, tyD, min2D, max2D, Pv.R.of, raiseS, asgS, nameG, nilG, consG, tupG, isD, nisD, isNB, opS, pNone, pSome, seqI', itsD, sItS, putD, wipeE, backE, hE]) (by omega) (by omega)) rfl (by simp; omega) fun k hk => ?_
  have hk := List.mem_range.mp hk
  have h1 := ha k (by omega)
  have h2 := ha (1 + k) (by omega)
  have h3 := hlt L[k] L[1 + k]
  rw [hx k (by omega)] at h3
  rw [show ((1 + k : Nat) : Int) = 1 + (k : Int) by omega] at h2
  have e0 : (1 : Int) + (k : Int) - 1 = k := by omega
  generalize tD L[k] = P at *
  generalize tD L[1 + k] = Q at *
  simp [-List.map_map, fnF, en0, seqS, passS, noS, exprS, retS, retN, retM, putE, setS, iteS, vOfE, eOfV, oOfV, kI, kB, kS, kN, nmV, nmO, op1, op2, opC, tst, tru, truD, notT, andT, orT, blV, vbl, andV, orV, notV, iteE, aNil, aCons, lNil, lCons, tupE, lstE, dicE, Opd.get, callF, frR, callI, callL, own1, addD, subD, negD, cmpD, lenD, intD, tupD, lisD, absD, isiD, tyD, min2D, max2D, Pv.R.of, raiseS, asgS, nameG, nilG, consG, tupG, isD, nisD, isNB, opS, pNone, pSome, seqI', itsD, sItS, putD, wipeE, backE, h1, h2, h3, e0]
theorem w8 (sc st n nu : Sl) {m : Nat} (hm : m = 8 ∨ m = 9) : g_law_8 (le sc st n (some (.int m, 0)) nu none none none none none (some (bigD (pths m 1), 0)) (some (bigD (pths m 12), 0)) none none none) = .nx (le sc st n (some (.int m, 0)) nu none none none none none (some (bigD (pths m 1), 0)) (some (bigD (pths m 12), 0)) none none none) := by
  obtain ⟨s1, s2⟩ := pths_asc hm
  have c1 := asc_c1 sc st n (some (.int m, 0)) nu (some (bigD (pths m 12), 0)) (pths_le (n := m) (by omega) (.inl rfl)) s1
  have c2 := asc_c2 sc st n (some (.int m, 0)) nu (some (bigD (pths m 1), 0)) (pths_le (n := m) (by omega) (.inr rfl)) s2
  have b1 := allD_bl ((List.range ((pths m 1).length - 1)).map fun _ => true)
  have b2 := allD_bl ((List.range ((pths m 12).length - 1)).map fun _ => true)
  have e1 : ((List.range ((pths m 1).length - 1)).map fun _ => true).all id = true := by simp
  have e2 : ((List.range ((pths m 12).length - 1)).map fun _ => true).all id = true := by simp
  rw [e1] at b1
  rw [e2] at b2
  generalize ((List.range ((pths m 1).length - 1)).map fun _ => true).map D.bl = B1 at *
  generalize ((List.range ((pths m 12).length - 1)).map fun _ => true).map D.bl = B2 at *
  generalize bigD (pths m 1) = A at *
  generalize bigD (pths m 12) = B at *
  simp [-List.map_map, fnF, en0, seqS, passS, noS, exprS, retS, retN, retM, putE, setS, iteS, vOfE, eOfV, oOfV, kI, kB, kS, kN, nmV, nmO, op1, op2, opC, tst, tru, truD, notT, andT, orT, blV, vbl, andV, orV, notV, iteE, aNil, aCons, lNil, lCons, tupE, lstE, dicE, Opd.get, callF, frR, callI, callL, own1, addD, subD, negD, cmpD, lenD, intD, tupD, lisD, absD, isiD, tyD, min2D, max2D, Pv.R.of, raiseS, asgS, nameG, nilG, consG, tupG, isD, nisD, isNB, opS, pNone, pSome, seqI', itsD, sItS, putD, wipeE, backE, c1, c2, b1, b2]
end L34
end

section
open Pv PySem PM Pa
set_option Elab.async false
set_option linter.all false
set_option maxRecDepth 100000
namespace L34
theorem take_big (a b : Int) (m : Nat) (hm : 0 < m) (hl : m ≤ 8000) : ∃ (v : Nat) (a' b' : Int), lawTake (some (.lst [.int a, .int b], 1)) [.int m] = .ok (.int v, 0) (some (.lst [.int a', .int b'], 1)) ∧ v < m := by
  have hlog : (m : Int).natAbs.log2 < 9000 := by
    rw [show (m : Int).natAbs = m by omega]
    have := Nat.log2_le_self m
    omega
  obtain ⟨v, a', b', h1, h2, h3⟩ := lawTake_ok a b m (by omega) hlog
  obtain ⟨u, rfl⟩ : ∃ u : Nat, v = u := ⟨v.toNat, by omega⟩
  exact ⟨u, a', b', h1, by omega⟩
theorem tyV_tD {p : List Int} (h : p.length ≤ 1000) : tyV (tD p) = true := by
  unfold tyV tD nI
  simp [tyD, h]
theorem good_of {n : Nat} {most mp : Int} (hn : n ≤ 12) (hm : most ≤ mp) {p : List Int} (hp : p ∈ pths n most) : good mp (tD p) = true := by
  obtain ⟨h1, h2⟩ := pths_mem hp
  show (decide ((nI p).length ≤ 12) && (match D.ints (nI p) with
    | some xs => decide (Pa.run mp 0 xs = some 0)
    | none => false)) = true
  rw [ints_nI, decide_eq_true (by simp [nI]; omega)]
  show (true && decide (Pa.run mp 0 p = some 0)) = true
  rw [run_mono hm p 0 0 h2]
  simp
theorem w9 (sc n nu : Sl) {m : Nat} (hm : m = 8 ∨ m = 9) (a b : Int) : ∃ a' b' tu, g_law_9 (le sc (stt a b) n (some (.int m, 0)) nu none none none none none (some (bigD (pths m 1), 0)) (some (bigD (pths m 12), 0)) none none none) = .nx (le sc (stt a' b') n (some (.int m, 0)) nu tu none none none none (some (bigD (pths m 1), 0)) (some (bigD (pths m 12), 0)) none none none) ∧ (tu = none ∨ ∃ i : Int, tu = some (.int i, 0)) := by
  have hp1 : 0 < (pths m 1).length ∧ (pths m 1).length ≤ 1000 := by
    have h1 := pths_len m 1
    rw [List.length_map] at h1
    rcases hm with rfl | rfl
    · rw [h1, n81]; omega
    · rw [h1, n91]; omega
  have hp2 : 0 < (pths m 12).length ∧ (pths m 12).length ≤ 5000 := by
    have h1 := pths_len m 12
    rw [List.length_map] at h1
    rcases hm with rfl | rfl
    · rw [h1, n82]; omega
    · rw [h1, n92]; omega
  have step : ∀ a b tu, ∃ a' b', lb_law_1 (le sc (stt a b) n (some (.int m, 0)) nu tu none none none none (some (bigD (pths m 1), 0)) (some (bigD (pths m 12), 0)) none none none) = .nx (le sc (stt a' b') n (some (.int m, 0)) nu tu none none none none (some (bigD (pths m 1), 0)) (some (bigD (pths m 12), 0)) none none none) := fun a b tu => by
    obtain ⟨i, a1, b1, t1, hi⟩ := take_big a b (pths m 1).length hp1.1 (by omega)
    obtain ⟨j, a2, b2, t2, hj⟩ := take_big a1 b1 (pths m 12).length hp2.1 (by omega)
    rw [← take_eq] at t1 t2
    have x1 := at_big hi
    have x2 := at_big hj
    have l1 := (pths_mem (List.getElem_mem hi)).1
    have l2 := (pths_mem (List.getElem_mem hj)).1
    have g1 := ip_ok (tD (pths m 1)[i]) 1 (tyV_tD (by omega))
    have g2 := ip_ok (tD (pths m 12)[j]) 12 (tyV_tD (by omega))
    rw [good_of (by omega) (Int.le_refl 1) (List.getElem_mem hi)] at g1
    rw [good_of (by omega) (Int.le_refl 12) (List.getElem_mem hj)] at g2
    have E1 : ((pths m 1).map tD).length = (pths m 1).length := by simp
    have E2 : ((pths m 12).map tD).length = (pths m 12).length := by simp
    refine ⟨a2, b2, ?_⟩
    clear l1 l2
    generalize tD (pths m 1)[i] = P at *
    generalize tD (pths m 12)[j] = Q at *
    unfold bigD at *
    generalize (pths m 1).map tD = A at *
    generalize (pths m 12).map tD = B at *
    generalize (pths m 1).length = la at *
    generalize (pths m 12).length = lb at *
    simp [-List.map_map, fnF, en0, seqS, passS, noS, exprS, retS, retN, retM, putE, setS, iteS, vOfE, eOfV, oOfV, kI, kB, kS, kN, nmV, nmO, op1, op2, opC, tst, tru, truD, notT, andT, orT, blV, vbl, andV, orV, notV, iteE, aNil, aCons, lNil, lCons, tupE, lstE, dicE, Opd.get, callF, frR, callI, callL, own1, addD, subD, negD, cmpD, lenD, intD, tupD, lisD, absD, isiD, tyD, min2D, max2D, Pv.R.of, raiseS, asgS, nameG, nilG, consG, tupG, isD, nisD, isNB, opS, pNone, pSome, seqI', itsD, sItS, putD, wipeE, backE, t1, t2, x1, x2, g1, g2, E1, E2]
  obtain ⟨e, he, a', b', tu, rfl, ht⟩ := loopS_inv (g := nameG 5) (body := lb_law_1) (fun env => ∃ a b tu, env = le sc (stt a b) n (some (.int m, 0)) nu tu none none none none (some (bigD (pths m 1), 0)) (some (bigD (pths m 12), 0)) none none none ∧ (tu = none ∨ ∃ i : Int, tu = some (.int i, 0))) ((List.range 30).map fun k : Nat => .int k) (le sc (stt a b) n (some (.int m, 0)) nu none none none none none (some (bigD (pths m 1), 0)) (some (bigD (pths m 12), 0)) none none none) ⟨a, b, none, rfl, .inl rfl⟩ fun d hd env hP => by
    obtain ⟨a, b, tu, rfl, _⟩ := hP
    obtain ⟨k, _, rfl⟩ := List.mem_map.mp hd
    obtain ⟨a', b', hs⟩ := step a b (some (.int k, 0))
    exact ⟨_, _, rfl, hs, a', b', _, rfl, .inr ⟨_, rfl⟩⟩
  exact ⟨a', b', tu, (forS_ok (rg1_ok (n := 30) (env1 := le sc (stt a b) n (some (.int m, 0)) nu none none none none none (some (bigD (pths m 1), 0)) (some (bigD (pths m 12), 0)) none none none) rfl (by omega))).trans he, ht⟩
theorem w10 (sc n m nu tu o t : Sl) (a b : Int) : ∃ (p : List Int) (a' b' : Int), g_law_10 (le sc (stt a b) n m nu tu none none none none o t none none none) = .nx (le sc (stt a' b') n m nu tu (some (tD p, 0)) none none none o t none none none) ∧ p.length ≤ 12 ∧ ∀ x ∈ p, x.natAbs < 2 ^ 200 := by
  obtain ⟨v, a1, b1, h1, h2⟩ := take_nat a b 13 (by omega) (by omega)
  rw [← take_eq] at h1
  have h1 : F__law_take (some (.lst [.int a, .int b], 1)) [.int 13] = .ok (.int v, 0) (some (.lst [.int a1, .int b1], 1)) := h1
  obtain ⟨p, a2, b2, h3, h4, h5⟩ := drawn_ok a1 b1 (n := v) (by omega)
  have h3 : F__law_drawn_path (some (.lst [.int a1, .int b1], 1)) [.int v] = .ok (tD p, 0) (some (.lst [.int a2, .int b2], 1)) := h3
  refine ⟨p, a2, b2, ?_, by omega, h5⟩
  generalize tD p = P at *
  simp [-List.map_map, fnF, en0, seqS, passS, noS, exprS, retS, retN, retM, putE, setS, iteS, vOfE, eOfV, oOfV, kI, kB, kS, kN, nmV, nmO, op1, op2, opC, tst, tru, truD, notT, andT, orT, blV, vbl, andV, orV, notV, iteE, aNil, aCons, lNil, lCons, tupE, lstE, dicE, Opd.get, callF, frR, callI, callL, own1, addD, subD, negD, cmpD, lenD, intD, tupD, lisD, absD, isiD, tyD, min2D, max2D, Pv.R.of, raiseS, asgS, nameG, nilG, consG, tupG, isD, nisD, isNB, opS, pNone, pSome, seqI', itsD, sItS, putD, wipeE, backE, h1, h3]
theorem w11 (sc n nu tu pa o : Sl) {m : Nat} (hm : m = 8 ∨ m = 9) (a b : Int) : ∃ (p : List Int) (a' b' : Int), g_law_11 (le sc (stt a b) n (some (.int m, 0)) nu tu pa none none none o (some (bigD (pths m 12), 0)) none none none) = .nx (le sc (stt a' b') n (some (.int m, 0)) nu tu pa (some (tD p, 0)) none none o (some (bigD (pths m 12), 0)) none none none) ∧ p ∈ pths m 12 := by
  have hp2 : 0 < (pths m 12).length ∧ (pths m 12).length ≤ 5000 := by
    have h1 := pths_len m 12
    rw [List.length_map] at h1
    rcases hm with rfl | rfl
    · rw [h1, n82]; omega
    · rw [h1, n92]; omega
  obtain ⟨j, a2, b2, t2, hj⟩ := take_big a b (pths m 12).length hp2.1 (by omega)
  rw [← take_eq] at t2
  have x2 := at_big hj
  have E2 : ((pths m 12).map tD).length = (pths m 12).length := by simp
  refine ⟨(pths m 12)[j], a2, b2, ?_, List.getElem_mem hj⟩
  generalize tD (pths m 12)[j] = Q at *
  unfold bigD at *
  generalize (pths m 12).map tD = B at *
  generalize (pths m 12).length = lb at *
  simp [-List.map_map, fnF, en0, seqS, passS, noS, exprS, retS, retN, retM, putE, setS, iteS, vOfE, eOfV, oOfV, kI, kB, kS, kN, nmV, nmO, op1, op2, opC, tst, tru, truD, notT, andT, orT, blV, vbl, andV, orV, notV, iteE, aNil, aCons, lNil, lCons, tupE, lstE, dicE, Opd.get, callF, frR, callI, callL, own1, addD, subD, negD, cmpD, lenD, intD, tupD, lisD, absD, isiD, tyD, min2D, max2D, Pv.R.of, raiseS, asgS, nameG, nilG, consG, tupG, isD, nisD, isNB, opS, pNone, pSome, seqI', itsD, sItS, putD, wipeE, backE, t2, x2, E2]
def zs (k : Nat) : List D := List.replicate k (.int 0)
def vals1 (X Y : List D) : List D := [.tup X, .tup X.reverse, .tup (X ++ [.int 0]), .tup (X ++ [.int 1, .int (-1)]), .tup (X ++ [.int (-1), .int 1]), .lst X, .tup Y, .tup Y.reverse, .tup (Y ++ [.int 11]), .tup (zs 12), .tup (zs 13)]
def vals2 : List D := [.tup (.int 11 :: List.replicate 11 (.int (-1))), .tup [.int 2, .int (-1), .int (-1)], .tup [.int 2, .int (-2)], .tup [.bl true, .int (-1)], .tup [.str (PySem.Str.ofString "1"), .int (-1)], .non, .int 5, .tup [], .tup [.non]]
theorem z12 : repD (.tup [.int 0]) (.int 12) = some (.tup (zs 12), 0) := by kernel_rfl
theorem z13 : repD (.tup [.int 0]) (.int 13) = some (.tup (zs 13), 0) := by kernel_rfl
theorem r11 : repD (.tup [.int (-1)]) (.int 11) = some (.tup (List.replicate 11 (.int (-1))), 0) := by kernel_rfl
theorem w12 (sc st n m nu tu o t : Sl) (X Y : List D) (hX : X.length ≤ 1000) (hY : Y.length ≤ 1000) : g_law_12 (le sc st n m nu tu (some (.tup X, 0)) (some (.tup Y, 0)) none none o t none none none) = .nx (le sc st n m nu tu (some (.tup X, 0)) (some (.tup Y, 0)) (some (.lst (vals1 X Y), 1)) none o t none none none) := by
  have l1 : X.length + 1 ≤ lim := le_lim (by omega)
  have l2 : X.length + 2 ≤ lim := le_lim (by omega)
  have l3 : Y.length + 1 ≤ lim := le_lim (by omega)
  have h1 := z12
  have h2 := z13
  have r1 : revD (.tup X) = some (.tup X.reverse, 0) := rfl
  have r2 : revD (.tup Y) = some (.tup Y.reverse, 0) := rfl
  unfold vals1
  generalize zs 12 = Z at *
  generalize zs 13 = W at *
  simp [-List.map_map, fnF, en0, seqS, passS, noS, exprS, retS, retN, retM, putE, setS, iteS, vOfE, eOfV, oOfV, kI, kB, kS, kN, nmV, nmO, op1, op2, opC, tst, tru, truD, notT, andT, orT, blV, vbl, andV, orV, notV, iteE, aNil, aCons, lNil, lCons, tupE, lstE, dicE, Opd.get, callF, frR, callI, callL, own1, addD, subD, negD, cmpD, lenD, intD, tupD, lisD, absD, isiD, tyD, min2D, max2D, Pv.R.of, raiseS, asgS, nameG, nilG, consG, tupG, isD, nisD, isNB, opS, pNone, pSome, seqI', itsD, sItS, putD, wipeE, backE, l1, l2, l3, h1, h2, r1, r2]
theorem w13 (sc st n m nu tu pa lo o t : Sl) (V : List D) (hV : V.length ≤ 1000) : g_law_13 (le sc st n m nu tu pa lo (some (.lst V, 1)) none o t none none none) = .nx (le sc st n m nu tu pa lo (some (.lst (V ++ vals2), 1)) none o t none none none) := by
  have h1 := r11
  have l1 : V.length + 9 ≤ lim := le_lim (by omega)
  have l2 : 1 + (List.replicate 11 (D.int (-1))).length ≤ lim := by decide
  unfold vals2
  generalize List.replicate 11 (D.int (-1)) = Z at *
  simp [-List.map_map, fnF, en0, seqS, passS, noS, exprS, retS, retN, retM, putE, setS, iteS, vOfE, eOfV, oOfV, kI, kB, kS, kN, nmV, nmO, op1, op2, opC, tst, tru, truD, notT, andT, orT, blV, vbl, andV, orV, notV, iteE, aNil, aCons, lNil, lCons, tupE, lstE, dicE, Opd.get, callF, frR, callI, callL, own1, addD, subD, negD, cmpD, lenD, intD, tupD, lisD, absD, isiD, tyD, min2D, max2D, Pv.R.of, raiseS, asgS, nameG, nilG, consG, tupG, isD, nisD, isNB, opS, pNone, pSome, seqI', itsD, sItS, putD, wipeE, backE, h1, l1, l2]
theorem rel_mem {α β : Type} {R : α → β → Prop} : ∀ {as : List α} {bs : List β}, Rel2 R as bs → (∀ b ∈ bs, ∃ a ∈ as, R a b) ∧ as.length = bs.length
  | _, _, .nil => ⟨(fun b hb => by cases hb), rfl⟩
  | a :: as, b :: bs, .cons h r => by
    obtain ⟨h1, h2⟩ := rel_mem r
    refine ⟨fun c hc => ?_, by simp [h2]⟩
    rcases List.mem_cons.mp hc with rfl | hc
    · exact ⟨a, List.mem_cons_self, h⟩
    · obtain ⟨x, hx, hr⟩ := h1 c hc
      exact ⟨x, List.mem_cons_of_mem _ hx, hr⟩
theorem cp3 (sc n m nu tu lo vs o t : Sl) {p : List Int} (hl : p.length ≤ 12) (hx : ∀ x ∈ p, x.natAbs < 2 ^ 200) (ht : tu = none ∨ ∃ i : Int, tu = some (.int i, 0)) (a b : Int) : ∃ (ds : List D) (a' b' : Int), cp_law_3 (le sc (stt a b) n m nu tu (some (tD p, 0)) lo vs none o t none none none) = .ok (.lst ds, 1) (le sc (stt a' b') n m nu tu (some (tD p, 0)) lo vs none o t none none none) ∧ ds.length = 4 ∧ ∀ d ∈ ds, tyV d = true := by
  obtain ⟨e, ds, q1, ⟨a1, b1, rfl⟩, q3⟩ := compL_rel (g := nameG 5) (tt := yesT) (te := (eOfV ((vOfE (callI 3 (F__law_bent 4) 1 (aCons ((nmV 6)) (aCons (kI 0) aNil))))))) (m := 0) (vs := [5]) (fun e => ∃ a b, e = le sc (stt a b) n m nu none (some (tD p, 0)) lo vs none o t none none none) (fun _ d => tyV d = true) ((List.range 4).map fun k : Nat => .int k) (le sc (stt a b) n m nu none (some (tD p, 0)) lo vs none o t none none none) [] ⟨a, b, rfl⟩ (by decide) fun d hd env hE => by
    obtain ⟨a, b, rfl⟩ := hE
    obtain ⟨d', a1, b1, r1, r2⟩ := bent_any hl hx a b
    have r1 : F__law_bent 4 (some (.lst [.int a, .int b], 1)) [tD p, .int 0] = .ok (d', 0) (some (.lst [.int a1, .int b1], 1)) := r1
    refine ⟨le sc (stt a b) n m nu (some (d, 0)) (some (tD p, 0)) lo vs none o t none none none, le sc (stt a b) n m nu (some (d, 0)) (some (tD p, 0)) lo vs none o t none none none, le sc (stt a1 b1) n m nu (some (d, 0)) (some (tD p, 0)) lo vs none o t none none none, d', rfl, rfl, ?_, ⟨a1, b1, rfl⟩, r2⟩
    generalize tD p = P at *
    simp [-List.map_map, fnF, en0, seqS, passS, noS, exprS, retS, retN, retM, putE, setS, iteS, vOfE, eOfV, oOfV, kI, kB, kS, kN, nmV, nmO, op1, op2, opC, tst, tru, truD, notT, andT, orT, blV, vbl, andV, orV, notV, iteE, aNil, aCons, lNil, lCons, tupE, lstE, dicE, Opd.get, callF, frR, callI, callL, own1, addD, subD, negD, cmpD, lenD, intD, tupD, lisD, absD, isiD, tyD, min2D, max2D, Pv.R.of, raiseS, asgS, nameG, nilG, consG, tupG, isD, nisD, isNB, opS, pNone, pSome, seqI', itsD, sItS, putD, wipeE, backE, r1]
  rw [List.nil_append] at q1
  refine ⟨ds, a1, b1, ?_, by rw [← (rel_mem q3).2]; simp, fun d hd => by obtain ⟨_, _, h⟩ := (rel_mem q3).1 d hd; exact h⟩
  have hr : rg1 (aCons (kI 4) aNil) (le sc (stt a b) n m nu tu (some (tD p, 0)) lo vs none o t none none none) = .ok ((List.range 4).map fun k : Nat => .int k) (le sc (stt a b) n m nu tu (some (tD p, 0)) lo vs none o t none none none) := rg1_ok (n := 4) rfl (by omega)
  show comp _ _ _ _ _ _ _ = _
  unfold comp
  rw [hr]
  have hw : wipeE (le sc (stt a b) n m nu tu (some (tD p, 0)) lo vs none o t none none none) [5] = le sc (stt a b) n m nu none (some (tD p, 0)) lo vs none o t none none none := rfl
  simp only [R.bind_ok, hw, q1]
  rcases ht with rfl | ⟨i, rfl⟩ <;> rfl
theorem cp4 (sc n m nu tu pa vs o t : Sl) {p : List Int} (hl : p.length ≤ 12) (hx : ∀ x ∈ p, x.natAbs < 2 ^ 200) (ht : tu = none ∨ ∃ i : Int, tu = some (.int i, 0)) (a b : Int) : ∃ (ds : List D) (a' b' : Int), cp_law_4 (le sc (stt a b) n m nu tu pa (some (tD p, 0)) vs none o t none none none) = .ok (.lst ds, 1) (le sc (stt a' b') n m nu tu pa (some (tD p, 0)) vs none o t none none none) ∧ ds.length = 4 ∧ ∀ d ∈ ds, tyV d = true := by
  obtain ⟨e, ds, q1, ⟨a1, b1, rfl⟩, q3⟩ := compL_rel (g := nameG 5) (tt := yesT) (te := (eOfV ((vOfE (callI 3 (F__law_bent 4) 1 (aCons ((nmV 7)) (aCons (kI 0) aNil))))))) (m := 0) (vs := [5]) (fun e => ∃ a b, e = le sc (stt a b) n m nu none pa (some (tD p, 0)) vs none o t none none none) (fun _ d => tyV d = true) ((List.range 4).map fun k : Nat => .int k) (le sc (stt a b) n m nu none pa (some (tD p, 0)) vs none o t none none none) [] ⟨a, b, rfl⟩ (by decide) fun d hd env hE => by
    obtain ⟨a, b, rfl⟩ := hE
    obtain ⟨d', a1, b1, r1, r2⟩ := bent_any hl hx a b
    have r1 : F__law_bent 4 (some (.lst [.int a, .int b], 1)) [tD p, .int 0] = .ok (d', 0) (some (.lst [.int a1, .int b1], 1)) := r1
    refine ⟨le sc (stt a b) n m nu (some (d, 0)) pa (some (tD p, 0)) vs none o t none none none, le sc (stt a b) n m nu (some (d, 0)) pa (some (tD p, 0)) vs none o t none none none, le sc (stt a1 b1) n m nu (some (d, 0)) pa (some (tD p, 0)) vs none o t none none none, d', rfl, rfl, ?_, ⟨a1, b1, rfl⟩, r2⟩
    generalize tD p = P at *
    simp [-List.map_map, fnF, en0, seqS, passS, noS, exprS, retS, retN, retM, putE, setS, iteS, vOfE, eOfV, oOfV, kI, kB, kS, kN, nmV, nmO, op1, op2, opC, tst, tru, truD, notT, andT, orT, blV, vbl, andV, orV, notV, iteE, aNil, aCons, lNil, lCons, tupE, lstE, dicE, Opd.get, callF, frR, callI, callL, own1, addD, subD, negD, cmpD, lenD, intD, tupD, lisD, absD, isiD, tyD, min2D, max2D, Pv.R.of, raiseS, asgS, nameG, nilG, consG, tupG, isD, nisD, isNB, opS, pNone, pSome, seqI', itsD, sItS, putD, wipeE, backE, r1]
  rw [List.nil_append] at q1
  refine ⟨ds, a1, b1, ?_, by rw [← (rel_mem q3).2]; simp, fun d hd => by obtain ⟨_, _, h⟩ := (rel_mem q3).1 d hd; exact h⟩
  have hr : rg1 (aCons (kI 4) aNil) (le sc (stt a b) n m nu tu pa (some (tD p, 0)) vs none o t none none none) = .ok ((List.range 4).map fun k : Nat => .int k) (le sc (stt a b) n m nu tu pa (some (tD p, 0)) vs none o t none none none) := rg1_ok (n := 4) rfl (by omega)
  show comp _ _ _ _ _ _ _ = _
  unfold comp
  rw [hr]
  have hw : wipeE (le sc (stt a b) n m nu tu pa (some (tD p, 0)) vs none o t none none none) [5] = le sc (stt a b) n m nu none pa (some (tD p, 0)) vs none o t none none none := rfl
  simp only [R.bind_ok, hw, q1]
  rcases ht with rfl | ⟨i, rfl⟩ <;> rfl
theorem w14 (sc n m nu tu o t : Sl) {p q : List Int} (hp : p.length ≤ 12) (hpx : ∀ x ∈ p, x.natAbs < 2 ^ 200) (hq : q.length ≤ 12) (hqx : ∀ x ∈ q, x.natAbs < 2 ^ 200) (ht : tu = none ∨ ∃ i : Int, tu = some (.int i, 0)) (V : List D) (hV : V.length ≤ 1000) (a b : Int) : ∃ (ds : List D) (a' b' : Int), g_law_14 (le sc (stt a b) n m nu tu (some (tD p, 0)) (some (tD q, 0)) (some (.lst V, 1)) none o t none none none) = .nx (le sc (stt a' b') n m nu tu (some (tD p, 0)) (some (tD q, 0)) (some (.lst (V ++ ds), 1)) none o t none none none) ∧ ∀ d ∈ ds, tyV d = true := by
  obtain ⟨d1, a1, b1, h1, h2, h3⟩ := cp3 sc n m nu tu (some (tD q, 0)) (some (.lst V, 1)) o t hp hpx ht a b
  obtain ⟨d2, a2, b2, h4, h5, h6⟩ := cp4 sc n m nu tu (some (tD p, 0)) (some (.lst V, 1)) o t hq hqx ht a1 b1
  have l1 : V.length + d1.length ≤ lim := le_lim (by omega)
  have l2 : V.length + d1.length + d2.length ≤ lim := le_lim (by omega)
  refine ⟨d1 ++ d2, a2, b2, ?_, fun d hd => ?_⟩
  · generalize tD p = P at *
    generalize tD q = Q at *
    simp [-List.map_map, fnF, en0, seqS, passS, noS, exprS, retS, retN, retM, putE, setS, iteS, vOfE, eOfV, oOfV, kI, kB, kS, kN, nmV, nmO, op1, op2, opC, tst, tru, truD, notT, andT, orT, blV, vbl, andV, orV, notV, iteE, aNil, aCons, lNil, lCons, tupE, lstE, dicE, Opd.get, callF, frR, callI, callL, own1, addD, subD, negD, cmpD, lenD, intD, tupD, lisD, absD, isiD, tyD, min2D, max2D, Pv.R.of, raiseS, asgS, nameG, nilG, consG, tupG, isD, nisD, isNB, opS, pNone, pSome, seqI', itsD, sItS, putD, wipeE, backE, h1, h4, l1, l2]
  · rcases List.mem_append.mp hd with z | z
    · exact h3 d z
    · exact h6 d z
theorem says_bl (b : Bool) : F__law_says none [.bl b, .bl b] = .ok (.bl true, 0) none := by
  cases b <;> kernel_rfl
theorem lb2_ok (sc st n m nu tu pa lo vs o t : Sl) (v : D) (hv : tyV v = true) : lb_law_2 (le sc st n m nu tu pa lo vs (some (v, 0)) o t none none none) = .nx (le sc st n m nu tu pa lo vs (some (v, 0)) o t none none none) := by
  have g1 := gb_ok v 1 hv
  have g2 := gb_ok v 12 hv
  have i1 := ip_ok v 1 hv
  have i2 := ip_ok v 12 hv
  have s1 := says_bl (good 1 v)
  have s2 := says_bl (good 12 v)
  have m1 : F_is_motzkin_path none [v] = .ok (.bl (good 1 v), 0) none := by
    unfold F_is_motzkin_path g_is_motzkin_path
    simp [-List.map_map, fnF, en0, seqS, passS, noS, exprS, retS, retN, retM, putE, setS, iteS, vOfE, eOfV, oOfV, kI, kB, kS, kN, nmV, nmO, op1, op2, opC, tst, tru, truD, notT, andT, orT, blV, vbl, andV, orV, notV, iteE, aNil, aCons, lNil, lCons, tupE, lstE, dicE, Opd.get, callF, frR, callI, callL, own1, addD, subD, negD, cmpD, lenD, intD, tupD, lisD, absD, isiD, tyD, min2D, max2D, Pv.R.of, raiseS, asgS, nameG, nilG, consG, tupG, isD, nisD, isNB, opS, pNone, pSome, seqI', itsD, sItS, putD, wipeE, backE, g1]
  have m2 : F_is_lukasiewicz_path none [v] = .ok (.bl (good 12 v), 0) none := by
    unfold F_is_lukasiewicz_path g_is_lukasiewicz_path
    simp [-List.map_map, fnF, en0, seqS, passS, noS, exprS, retS, retN, retM, putE, setS, iteS, vOfE, eOfV, oOfV, kI, kB, kS, kN, nmV, nmO, op1, op2, opC, tst, tru, truD, notT, andT, orT, blV, vbl, andV, orV, notV, iteE, aNil, aCons, lNil, lCons, tupE, lstE, dicE, Opd.get, callF, frR, callI, callL, own1, addD, subD, negD, cmpD, lenD, intD, tupD, lisD, absD, isiD, tyD, min2D, max2D, Pv.R.of, raiseS, asgS, nameG, nilG, consG, tupG, isD, nisD, isNB, opS, pNone, pSome, seqI', itsD, sItS, putD, wipeE, backE, g2]
  generalize good 1 v = x at *
  generalize good 12 v = y at *
  simp [-List.map_map, fnF, en0, seqS, passS, noS, exprS, retS, retN, retM, putE, setS, iteS, vOfE, eOfV, oOfV, kI, kB, kS, kN, nmV, nmO, op1, op2, opC, tst, tru, truD, notT, andT, orT, blV, vbl, andV, orV, notV, iteE, aNil, aCons, lNil, lCons, tupE, lstE, dicE, Opd.get, callF, frR, callI, callL, own1, addD, subD, negD, cmpD, lenD, intD, tupD, lisD, absD, isiD, tyD, min2D, max2D, Pv.R.of, raiseS, asgS, nameG, nilG, consG, tupG, isD, nisD, isNB, opS, pNone, pSome, seqI', itsD, sItS, putD, wipeE, backE, m1, m2, i1, i2, s1, s2]
theorem w15 (sc st n m nu tu pa lo o t : Sl) (V : List D) (hV : ∀ v ∈ V, tyV v = true) : ∃ v, g_law_15 (le sc st n m nu tu pa lo (some (.lst V, 1)) none o t none none none) = .nx (le sc st n m nu tu pa lo (some (.lst V, 0)) v o t none none none) := by
  obtain ⟨e, he, v, rfl⟩ := loopS_inv (g := nameG 9) (body := lb_law_2) (fun env => ∃ v, env = le sc st n m nu tu pa lo (some (.lst V, 0)) v o t none none none) V (le sc st n m nu tu pa lo (some (.lst V, 0)) none o t none none none) ⟨none, rfl⟩ fun d hd env hP => by
    obtain ⟨v, rfl⟩ := hP
    exact ⟨_, _, rfl, lb2_ok sc st n m nu tu pa lo (some (.lst V, 0)) o t d (hV d hd), _, rfl⟩
  exact ⟨v, (forS_ok (ds := V) (env1 := le sc st n m nu tu pa lo (some (.lst V, 0)) none o t none none none) (by simp [-List.map_map, fnF, en0, seqS, passS, noS, exprS, retS, retN, retM, putE, setS, iteS, vOfE, eOfV, oOfV, kI, kB, kS, kN, nmV, nmO, op1, op2, opC, tst, tru, truD, notT, andT, orT, blV, vbl, andV, orV, notV, iteE, aNil, aCons, lNil, lCons, tupE, lstE, dicE, Opd.get, callF, frR, callI, callL, own1, addD, subD, negD, cmpD, lenD, intD, tupD, lisD, absD, isiD, tyD, min2D, max2D, Pv.R.of, raiseS, asgS, nameG, nilG, consG, tupG, isD, nisD, isNB, opS, pNone, pSome, seqI', itsD, sItS, putD, wipeE, backE])).trans he⟩
theorem w16 (sc st n m nu tu pa lo vs v o t : Sl) : g_law_16 (le sc st n m nu tu pa lo vs v o t none none none) = .nx (le sc st n m nu tu pa lo vs v o t none none none) := by
  obtain ⟨t0, t1⟩ := told_10
  have c5 : cp_law_5 (le sc st n m nu tu pa lo vs v o t none none none) = .ok (.lst [larD, larD], 1) (le sc st n m nu tu pa lo vs v o t none none none) := by
    have := comp_map1 (fi := seqI' ((tupE (aCons (kI 0) (aCons (kI 1) aNil))))) (te := (eOfV ((vOfE (callF 2 (F__law_told) (aCons ((nmV 12)) (aCons (kI 10) aNil))))))) (m := 0) (i := 12) (fun d => d) (fun _ => larD) (env := le sc st n m nu tu pa lo vs v o t none none none) (env1 := le sc st n m nu tu pa lo vs v o t none none none) (bs := [.int 0, .int 1]) (by simp [-List.map_map, fnF, en0, seqS, passS, noS, exprS, retS, retN, retM, putE, setS, iteS, vOfE, eOfV, oOfV, kI, kB, kS, kN, nmV, nmO, op1, op2, opC, tst, tru, truD, notT, andT, orT, blV, vbl, andV, orV, notV, iteE, aNil, aCons, lNil, lCons, tupE, lstE, dicE, Opd.get, callF, frR, callI, callL, own1, addD, subD, negD, cmpD, lenD, intD, tupD, lisD, absD, isiD, tyD, min2D, max2D, Pv.R.of, raiseS, asgS, nameG, nilG, consG, tupG, isD, nisD, isNB, opS, pNone, pSome, seqI', itsD, sItS, putD, wipeE, backE]) rfl (by decide) fun d hd => by
      generalize larD = M at *
      simp only [List.mem_cons, List.not_mem_nil, or_false] at hd
      rcases hd with rfl | rfl
      · simp [-List.map_map, fnF, en0, seqS, passS, noS, exprS, retS, retN, retM, putE, setS, iteS, vOfE, eOfV, oOfV, kI, kB, kS, kN, nmV, nmO, op1, op2, opC, tst, tru, truD, notT, andT, orT, blV, vbl, andV, orV, notV, iteE, aNil, aCons, lNil, lCons, tupE, lstE, dicE, Opd.get, callF, frR, callI, callL, own1, addD, subD, negD, cmpD, lenD, intD, tupD, lisD, absD, isiD, tyD, min2D, max2D, Pv.R.of, raiseS, asgS, nameG, nilG, consG, tupG, isD, nisD, isNB, opS, pNone, pSome, seqI', itsD, sItS, putD, wipeE, backE, t0]
      · simp [-List.map_map, fnF, en0, seqS, passS, noS, exprS, retS, retN, retM, putE, setS, iteS, vOfE, eOfV, oOfV, kI, kB, kS, kN, nmV, nmO, op1, op2, opC, tst, tru, truD, notT, andT, orT, blV, vbl, andV, orV, notV, iteE, aNil, aCons, lNil, lCons, tupE, lstE, dicE, Opd.get, callF, frR, callI, callL, own1, addD, subD, negD, cmpD, lenD, intD, tupD, lisD, absD, isiD, tyD, min2D, max2D, Pv.R.of, raiseS, asgS, nameG, nilG, consG, tupG, isD, nisD, isNB, opS, pNone, pSome, seqI', itsD, sItS, putD, wipeE, backE, t1]
    exact this
  have hm : mulD (.lst [larD]) (.int 2) = some (.lst [larD, larD], 1) := by kernel_rfl
  have h1 : neD (.lst [larD, larD]) (.lst [larD, larD]) = some (.bl false, 0) := neD_same ⟨by decide +kernel, by decide +kernel⟩
  have hme : D.tup [.str (PySem.Str.ofString "raised"), .str (PySem.Str.ofString "large")] = larD := rfl
  generalize larD = M at *
  simp [-List.map_map, fnF, en0, seqS, passS, noS, exprS, retS, retN, retM, putE, setS, iteS, vOfE, eOfV, oOfV, kI, kB, kS, kN, nmV, nmO, op1, op2, opC, tst, tru, truD, notT, andT, orT, blV, vbl, andV, orV, notV, iteE, aNil, aCons, lNil, lCons, tupE, lstE, dicE, Opd.get, callF, frR, callI, callL, own1, addD, subD, negD, cmpD, lenD, intD, tupD, lisD, absD, isiD, tyD, min2D, max2D, Pv.R.of, raiseS, asgS, nameG, nilG, consG, tupG, isD, nisD, isNB, opS, pNone, pSome, seqI', itsD, sItS, putD, wipeE, backE, c5, hm, h1, hme]
theorem w17 (sc st n m nu tu pa lo vs v o t : Sl) : ∃ e, g_law_17 (le sc st n m nu tu pa lo vs v o t none none none) = .ret (.bl true, 0) e := by
  have c6 : ∀ d ∈ bads, cp_law_6 (le sc st n m nu tu pa lo vs v o t none (some (d, 0)) none) = .ok (.lst [malD, malD], 1) (le sc st n m nu tu pa lo vs v o t none (some (d, 0)) none) := fun d hd => by
    obtain ⟨t0, t1⟩ := told_bad d hd
    have := comp_map1 (fi := seqI' ((tupE (aCons (kI 0) (aCons (kI 1) aNil))))) (te := (eOfV ((vOfE (callF 2 (F__law_told) (aCons ((nmV 12)) (aCons ((nmV 13)) aNil))))))) (m := 0) (i := 12) (fun d => d) (fun _ => malD) (env := le sc st n m nu tu pa lo vs v o t none (some (d, 0)) none) (env1 := le sc st n m nu tu pa lo vs v o t none (some (d, 0)) none) (bs := [.int 0, .int 1]) (by simp [-List.map_map, fnF, en0, seqS, passS, noS, exprS, retS, retN, retM, putE, setS, iteS, vOfE, eOfV, oOfV, kI, kB, kS, kN, nmV, nmO, op1, op2, opC, tst, tru, truD, notT, andT, orT, blV, vbl, andV, orV, notV, iteE, aNil, aCons, lNil, lCons, tupE, lstE, dicE, Opd.get, callF, frR, callI, callL, own1, addD, subD, negD, cmpD, lenD, intD, tupD, lisD, absD, isiD, tyD, min2D, max2D, Pv.R.of, raiseS, asgS, nameG, nilG, consG, tupG, isD, nisD, isNB, opS, pNone, pSome, seqI', itsD, sItS, putD, wipeE, backE]) rfl (by decide) fun x hx => by
      generalize malD = M at *
      simp only [List.mem_cons, List.not_mem_nil, or_false] at hx
      rcases hx with rfl | rfl
      · simp [-List.map_map, fnF, en0, seqS, passS, noS, exprS, retS, retN, retM, putE, setS, iteS, vOfE, eOfV, oOfV, kI, kB, kS, kN, nmV, nmO, op1, op2, opC, tst, tru, truD, notT, andT, orT, blV, vbl, andV, orV, notV, iteE, aNil, aCons, lNil, lCons, tupE, lstE, dicE, Opd.get, callF, frR, callI, callL, own1, addD, subD, negD, cmpD, lenD, intD, tupD, lisD, absD, isiD, tyD, min2D, max2D, Pv.R.of, raiseS, asgS, nameG, nilG, consG, tupG, isD, nisD, isNB, opS, pNone, pSome, seqI', itsD, sItS, putD, wipeE, backE, t0]
      · simp [-List.map_map, fnF, en0, seqS, passS, noS, exprS, retS, retN, retM, putE, setS, iteS, vOfE, eOfV, oOfV, kI, kB, kS, kN, nmV, nmO, op1, op2, opC, tst, tru, truD, notT, andT, orT, blV, vbl, andV, orV, notV, iteE, aNil, aCons, lNil, lCons, tupE, lstE, dicE, Opd.get, callF, frR, callI, callL, own1, addD, subD, negD, cmpD, lenD, intD, tupD, lisD, absD, isiD, tyD, min2D, max2D, Pv.R.of, raiseS, asgS, nameG, nilG, consG, tupG, isD, nisD, isNB, opS, pNone, pSome, seqI', itsD, sItS, putD, wipeE, backE, t1]
    exact this
  have c7 : cp_law_7 (le sc st n m nu tu pa lo vs v o t none none none) = .ok (.lst (List.replicate 5 (.lst [malD, malD])), 1) (le sc st n m nu tu pa lo vs v o t none none none) := by
    have := comp_map1 (fi := (seqI' ((vOfE (lstE (aCons ((vOfE (op1 negD (oOfV (kI 1))))) (aCons (kI 13) (aCons (kN) (aCons (kB true) (aCons (kS (PySem.Str.ofString "2")) aNil)))))))))) (te := (eOfV ((vOfE cp_law_6)))) (m := 0) (i := 13) (fun d => d) (fun _ => .lst [malD, malD]) (env := le sc st n m nu tu pa lo vs v o t none none none) (env1 := le sc st n m nu tu pa lo vs v o t none none none) (bs := bads) (by simp [-List.map_map, fnF, en0, seqS, passS, noS, exprS, retS, retN, retM, putE, setS, iteS, vOfE, eOfV, oOfV, kI, kB, kS, kN, nmV, nmO, op1, op2, opC, tst, tru, truD, notT, andT, orT, blV, vbl, andV, orV, notV, iteE, aNil, aCons, lNil, lCons, tupE, lstE, dicE, Opd.get, callF, frR, callI, callL, own1, addD, subD, negD, cmpD, lenD, intD, tupD, lisD, absD, isiD, tyD, min2D, max2D, Pv.R.of, raiseS, asgS, nameG, nilG, consG, tupG, isD, nisD, isNB, opS, pNone, pSome, seqI', itsD, sItS, putD, wipeE, backE, bads]) rfl (by decide) fun d hd => by
      have := c6 d hd
      generalize malD = M at *
      simp [-List.map_map, fnF, en0, seqS, passS, noS, exprS, retS, retN, retM, putE, setS, iteS, vOfE, eOfV, oOfV, kI, kB, kS, kN, nmV, nmO, op1, op2, opC, tst, tru, truD, notT, andT, orT, blV, vbl, andV, orV, notV, iteE, aNil, aCons, lNil, lCons, tupE, lstE, dicE, Opd.get, callF, frR, callI, callL, own1, addD, subD, negD, cmpD, lenD, intD, tupD, lisD, absD, isiD, tyD, min2D, max2D, Pv.R.of, raiseS, asgS, nameG, nilG, consG, tupG, isD, nisD, isNB, opS, pNone, pSome, seqI', itsD, sItS, putD, wipeE, backE, this]
    exact this
  have hm1 : mulD (.lst [malD]) (.int 2) = some (.lst [malD, malD], 1) := by kernel_rfl
  have hm2 : mulD (.lst [.lst [malD, malD]]) (.int 5) = some (.lst (List.replicate 5 (.lst [malD, malD])), 1) := by kernel_rfl
  have h1 : eqD (.lst (List.replicate 5 (.lst [malD, malD]))) (.lst (List.replicate 5 (.lst [malD, malD]))) = some (.bl true, 0) := eqD_same ⟨by decide +kernel, by decide +kernel⟩
  have hme : D.tup [.str (PySem.Str.ofString "raised"), .str (PySem.Str.ofString "malformed")] = malD := rfl
  generalize List.replicate 5 (D.lst [malD, malD]) = R5 at *
  generalize malD = M at *
  exact ⟨_, by simp [-List.map_map, fnF, en0, seqS, passS, noS, exprS, retS, retN, retM, putE, setS, iteS, vOfE, eOfV, oOfV, kI, kB, kS, kN, nmV, nmO, op1, op2, opC, tst, tru, truD, notT, andT, orT, blV, vbl, andV, orV, notV, iteE, aNil, aCons, lNil, lCons, tupE, lstE, dicE, Opd.get, callF, frR, callI, callL, own1, addD, subD, negD, cmpD, lenD, intD, tupD, lisD, absD, isiD, tyD, min2D, max2D, Pv.R.of, raiseS, asgS, nameG, nilG, consG, tupG, isD, nisD, isNB, opS, pNone, pSome, seqI', itsD, sItS, putD, wipeE, backE, c7, hm1, hm2, h1, hme]; rfl⟩
theorem vals1_ok {p q : List Int} (hp : p.length ≤ 12) (hq : q.length ≤ 12) : ∀ v ∈ vals1 (nI p) (nI q), tyV v = true := by
  have hi : ∀ (xs : List Int), xs.length ≤ 100 → tyV (.tup (nI xs)) = true := fun xs h => tyV_tD (by omega)
  have e : ∀ c : Int, [D.int c] = nI [c] := fun _ => rfl
  have e2 : ∀ c d : Int, [D.int c, D.int d] = nI [c, d] := fun _ _ => rfl
  have er : ∀ xs, (nI xs).reverse = nI xs.reverse := fun xs => by simp [nI]
  intro v hv
  simp only [vals1, List.mem_cons, List.not_mem_nil, or_false] at hv
  rcases hv with rfl | rfl | rfl | rfl | rfl | rfl | rfl | rfl | rfl | rfl | rfl
  · exact hi p (by omega)
  · rw [er]; exact hi _ (by simp; omega)
  · rw [e, ← nI_app]; exact hi _ (by simp; omega)
  · rw [e2, ← nI_app]; exact hi _ (by simp; omega)
  · rw [e2, ← nI_app]; exact hi _ (by simp; omega)
  · simp [tyV, tyD]
  · exact hi q (by omega)
  · rw [er]; exact hi _ (by simp; omega)
  · rw [e, ← nI_app]; exact hi _ (by simp; omega)
  · decide
  · decide
theorem vals2_ok : ∀ v ∈ vals2, tyV v = true := by
  intro v hv
  simp only [vals2, List.mem_cons, List.not_mem_nil, or_false] at hv
  rcases hv with rfl | rfl | rfl | rfl | rfl | rfl | rfl | rfl | rfl <;> first | rfl | decide
theorem small_run {most : Int} (hm : most ≤ 12) : ∀ {p : List Int} {h g : Int}, Pa.run most h p = some g → ∀ x ∈ p, x.natAbs < 2 ^ 200
  | [], _, _, _, x, hx => by cases hx
  | a :: p, h, g, e, x, hx => by
    unfold Pa.run at e
    split at e
    · cases e
    · rename_i hn
      rcases List.mem_cons.mp hx with rfl | hx
      · have : x.natAbs ≤ 12 := by omega
        exact Nat.lt_of_le_of_lt this (by decide)
      · exact small_run hm e x hx
theorem law_all (ns : List Int) (h : ns.length ≤ 63) : ∃ fin, F_law none [.scr ns] = .ok (.bl true, 0) fin := by
  obtain ⟨a1, b1, e1⟩ := w1 ns
  obtain ⟨n, a2, b2, e2, hn⟩ := w2 (some (.scr ns, 0)) a1 b1
  have e3 := w3 (some (.scr ns, 0)) (stt a2 b2) hn
  obtain ⟨m, a4, b4, e4, hm⟩ := w4 (some (.scr ns, 0)) (some (.int n, 0)) a2 b2
  have e5 := w5 (some (.scr ns, 0)) (stt a4 b4) (some (.int n, 0)) (some (.int m, 0))
  have e6 := w6 (some (.scr ns, 0)) (stt a4 b4) (some (.int n, 0)) (some (nums, 1)) hm
  have e7 := w7 (some (.scr ns, 0)) (stt a4 b4) (some (.int n, 0)) hm
  have e8 := w8 (some (.scr ns, 0)) (stt a4 b4) (some (.int n, 0)) (some (nums, 1)) hm
  obtain ⟨a9, b9, tu, e9, htu⟩ := w9 (some (.scr ns, 0)) (some (.int n, 0)) (some (nums, 1)) hm a4 b4
  obtain ⟨p, a10, b10, e10, hp, hpx⟩ := w10 (some (.scr ns, 0)) (some (.int n, 0)) (some (.int m, 0)) (some (nums, 1)) tu (some (bigD (pths m 1), 0)) (some (bigD (pths m 12), 0)) a9 b9
  obtain ⟨q, a11, b11, e11, hq⟩ := w11 (some (.scr ns, 0)) (some (.int n, 0)) (some (nums, 1)) tu (some (tD p, 0)) (some (bigD (pths m 1), 0)) hm a10 b10
  obtain ⟨hq1, hq2⟩ := pths_mem hq
  have hql : q.length ≤ 12 := by omega
  have hqx := small_run (Int.le_refl 12) hq2
  have e12 := w12 (some (.scr ns, 0)) (stt a11 b11) (some (.int n, 0)) (some (.int m, 0)) (some (nums, 1)) tu (some (bigD (pths m 1), 0)) (some (bigD (pths m 12), 0)) (nI p) (nI q) (by simp [nI]; omega) (by simp [nI]; omega)
  have e13 := w13 (some (.scr ns, 0)) (stt a11 b11) (some (.int n, 0)) (some (.int m, 0)) (some (nums, 1)) tu (some (tD p, 0)) (some (tD q, 0)) (some (bigD (pths m 1), 0)) (some (bigD (pths m 12), 0)) (vals1 (nI p) (nI q)) (by simp [vals1])
  obtain ⟨ds, a14, b14, e14, hds⟩ := w14 (some (.scr ns, 0)) (some (.int n, 0)) (some (.int m, 0)) (some (nums, 1)) tu (some (bigD (pths m 1), 0)) (some (bigD (pths m 12), 0)) hp hpx hql hqx htu (vals1 (nI p) (nI q) ++ vals2) (by simp [vals1, vals2]) a11 b11
  obtain ⟨v, e15⟩ := w15 (some (.scr ns, 0)) (stt a14 b14) (some (.int n, 0)) (some (.int m, 0)) (some (nums, 1)) tu (some (tD p, 0)) (some (tD q, 0)) (some (bigD (pths m 1), 0)) (some (bigD (pths m 12), 0)) (vals1 (nI p) (nI q) ++ vals2 ++ ds) (fun w hw => by
    rcases List.mem_append.mp hw with z | z
    · rcases List.mem_append.mp z with z | z
      · exact vals1_ok hp hql w z
      · exact vals2_ok w z
    · exact hds w z)
  have e16 := w16 (some (.scr ns, 0)) (stt a14 b14) (some (.int n, 0)) (some (.int m, 0)) (some (nums, 1)) tu (some (tD p, 0)) (some (tD q, 0)) (some (.lst (vals1 (nI p) (nI q) ++ vals2 ++ ds), 0)) v (some (bigD (pths m 1), 0)) (some (bigD (pths m 12), 0))
  obtain ⟨e, e17⟩ := w17 (some (.scr ns, 0)) (stt a14 b14) (some (.int n, 0)) (some (.int m, 0)) (some (nums, 1)) tu (some (tD p, 0)) (some (tD q, 0)) (some (.lst (vals1 (nI p) (nI q) ++ vals2 ++ ds), 0)) v (some (bigD (pths m 1), 0)) (some (bigD (pths m 12), 0))
  exact ⟨none, fnF_ret (Eq.trans (seqS_nx e1) <| Eq.trans (seqS_nx e2) <| Eq.trans (seqS_nx e3) <| Eq.trans (seqS_nx e4) <| Eq.trans (seqS_nx e5) <| Eq.trans (seqS_nx e6) <| Eq.trans (seqS_nx e7) <| Eq.trans (seqS_nx e8) <| Eq.trans (seqS_nx e9) <| Eq.trans (seqS_nx e10) <| Eq.trans (seqS_nx e11) <| Eq.trans (seqS_nx e12) <| Eq.trans (seqS_nx e13) <| Eq.trans (seqS_nx e14) <| Eq.trans (seqS_nx e15) <| Eq.trans (seqS_nx e16) e17)⟩
end L34
end

namespace L34
open PySem PySem.Spec PyProof.Rows L2 Pv
theorem all_mk {l : PySem.W.OpenLaw} {w : World} {K : PySem.W.Frag} {h : Heap} {mg : Str → Option Value} {fa : Addr} (X : K.In h) (G : h.Ns mainGlobals mg) (hfa : mg "law" = some (.ref fa))
    {f0 : Addr} {oc0 : Value} {od0 an0 : Option Addr} {sl0 : Array (Option Value)} {kV0 dc0 pm0 cd0 ct0 : Value}
    {f1 : Addr} {oc1 : Value} {od1 an1 : Option Addr} {sl1 : Array (Option Value)} {kV1 dc1 pm1 cd1 ct1 : Value}
    {f2 : Addr} {oc2 : Value} {od2 an2 : Option Addr} {sl2 : Array (Option Value)} {kV2 dc2 pm2 cd2 ct2 : Value}
    {f3 : Addr} {oc3 : Value} {od3 an3 : Option Addr} {sl3 : Array (Option Value)} {kV3 dc3 pm3 cd3 ct3 : Value}
    {f4 : Addr} {oc4 : Value} {od4 an4 : Option Addr} {sl4 : Array (Option Value)} {kV4 dc4 pm4 cd4 ct4 : Value}
    {f5 : Addr} {oc5 : Value} {od5 an5 : Option Addr} {sl5 : Array (Option Value)} {kV5 dc5 pm5 cd5 ct5 : Value}
    {f6 : Addr} {oc6 : Value} {od6 an6 : Option Addr} {sl6 : Array (Option Value)} {kV6 dc6 pm6 cd6 ct6 : Value}
    {f7 : Addr} {oc7 : Value} {od7 an7 : Option Addr} {sl7 : Array (Option Value)} {kV7 dc7 pm7 cd7 ct7 : Value}
    {f8 : Addr} {oc8 : Value} {od8 an8 : Option Addr} {sl8 : Array (Option Value)} {kV8 dc8 pm8 cd8 ct8 : Value}
    {f9 : Addr} {oc9 : Value} {od9 an9 : Option Addr} {sl9 : Array (Option Value)} {kV9 dc9 pm9 cd9 ct9 : Value}
    {f10 : Addr} {oc10 : Value} {od10 an10 : Option Addr} {sl10 : Array (Option Value)} {kV10 dc10 pm10 cd10 ct10 : Value}
    {f11 : Addr} {oc11 : Value} {od11 an11 : Option Addr} {sl11 : Array (Option Value)} {kV11 dc11 pm11 cd11 ct11 : Value}
    {f12 : Addr} {oc12 : Value} {od12 an12 : Option Addr} {sl12 : Array (Option Value)} {kV12 dc12 pm12 cd12 ct12 : Value}
    {f13 : Addr} {oc13 : Value} {od13 an13 : Option Addr} {sl13 : Array (Option Value)} {kV13 dc13 pm13 cd13 ct13 : Value}
    {f14 : Addr} {oc14 : Value} {od14 an14 : Option Addr} {sl14 : Array (Option Value)} {kV14 dc14 pm14 cd14 ct14 : Value}
    {f15 : Addr} {oc15 : Value} {od15 an15 : Option Addr} {sl15 : Array (Option Value)} {kV15 dc15 pm15 cd15 ct15 : Value}
    {f16 : Addr} {oc16 : Value} {od16 an16 : Option Addr} {sl16 : Array (Option Value)} {kV16 dc16 pm16 cd16 ct16 : Value}
    {f17 : Addr} {oc17 : Value} {od17 an17 : Option Addr} {sl17 : Array (Option Value)} {kV17 dc17 pm17 cd17 ct17 : Value}
    {f18 : Addr} {oc18 : Value} {od18 an18 : Option Addr} {sl18 : Array (Option Value)} {kV18 dc18 pm18 cd18 ct18 : Value}
    {f19 : Addr} {oc19 : Value} {od19 an19 : Option Addr} {sl19 : Array (Option Value)} {kV19 dc19 pm19 cd19 ct19 : Value}
    {f20 : Addr} {oc20 : Value} {od20 an20 : Option Addr} {sl20 : Array (Option Value)} {kV20 dc20 pm20 cd20 ct20 : Value}
    {x_Malformed : Addr}
    {x_Refused f_Refused cc_Refused cd_Refused N_Refused : Addr} {nm_Refused q_Refused : Str} {bs_Refused bm_Refused : List Value} {sn_Refused : List Str} {sub_Refused : List Value} {ab_Refused : Bool} {col_Refused : Option Bool} {dd_Refused : Option Addr} {k0_Refused k1_Refused k2_Refused k3_Refused k5_Refused : Option Value} {oc_Refused : Value} {od_Refused : Option Addr} {sl_Refused : Array (Option Value)} {kV_Refused dc_Refused pm_Refused ct_Refused : Value} {an_Refused : Option Addr} {cl_Refused : Value} {cdd_Refused : Option Addr} {vs_Refused : Array Value} {ccs_Refused : Array (Option Value)} {fl_Refused : Str} {tf_Refused : Tok} {cm_Refused : Value} {cmd_Refused : Option Addr} {cms_Refused : Array (Option Value)}
    {t_MOST_LISTED : Tok}
    {t_MOST_STEPS : Tok}
    (a0 : PySem.W.nsIn K mainGlobals "_law_state" = some (some (.ref f0))) (l0 : K.lookup f0 = some ⟨oc0, od0, .func (PySem.W.fnOf "_law_state" "_law_state" (defArgs s__law_state) (defBody s__law_state) (defScope s__law_state) .none kV0 dc0 pm0 an0 cd0 ct0), sl0⟩) (e0 : PySem.W.codeIn K cd0 "_law_state" = true) (k0 : PySem.W.keepIn K (.ref f0) = true)
    (a1 : PySem.W.nsIn K mainGlobals "_law_take" = some (some (.ref f1))) (l1 : K.lookup f1 = some ⟨oc1, od1, .func (PySem.W.fnOf "_law_take" "_law_take" (defArgs s__law_take) (defBody s__law_take) (defScope s__law_take) .none kV1 dc1 pm1 an1 cd1 ct1), sl1⟩) (e1 : PySem.W.codeIn K cd1 "_law_take" = true) (k1 : PySem.W.keepIn K (.ref f1) = true)
    (a2 : PySem.W.nsIn K mainGlobals "is_integer" = some (some (.ref f2))) (l2 : K.lookup f2 = some ⟨oc2, od2, .func (PySem.W.fnOf "is_integer" "is_integer" (defArgs s_is_integer) (defBody s_is_integer) (defScope s_is_integer) .none kV2 dc2 pm2 an2 cd2 ct2), sl2⟩) (e2 : PySem.W.codeIn K cd2 "is_integer" = true) (k2 : PySem.W.keepIn K (.ref f2) = true)
    (a3 : PySem.W.nsIn K mainGlobals "paths_to" = some (some (.ref f3))) (l3 : K.lookup f3 = some ⟨oc3, od3, .func (PySem.W.fnOf "paths_to" "paths_to" (defArgs s_paths_to) (defBody s_paths_to) (defScope s_paths_to) .none kV3 dc3 pm3 an3 cd3 ct3), sl3⟩) (e3 : PySem.W.codeIn K cd3 "paths_to" = true) (k3 : PySem.W.keepIn K (.ref f3) = true)
    (a4 : PySem.W.nsIn K mainGlobals "_law_is_number" = some (some (.ref f4))) (l4 : K.lookup f4 = some ⟨oc4, od4, .func (PySem.W.fnOf "_law_is_number" "_law_is_number" (defArgs s__law_is_number) (defBody s__law_is_number) (defScope s__law_is_number) .none kV4 dc4 pm4 an4 cd4 ct4), sl4⟩) (e4 : PySem.W.codeIn K cd4 "_law_is_number" = true) (k4 : PySem.W.keepIn K (.ref f4) = true)
    (a5 : PySem.W.nsIn K mainGlobals "_law_paths" = some (some (.ref f5))) (l5 : K.lookup f5 = some ⟨oc5, od5, .func (PySem.W.fnOf "_law_paths" "_law_paths" (defArgs s__law_paths) (defBody s__law_paths) (defScope s__law_paths) .none kV5 dc5 pm5 an5 cd5 ct5), sl5⟩) (e5 : PySem.W.codeIn K cd5 "_law_paths" = true) (k5 : PySem.W.keepIn K (.ref f5) = true)
    (a6 : PySem.W.nsIn K mainGlobals "_law_chosen" = some (some (.ref f6))) (l6 : K.lookup f6 = some ⟨oc6, od6, .func (PySem.W.fnOf "_law_chosen" "_law_chosen" (defArgs s__law_chosen) (defBody s__law_chosen) (defScope s__law_chosen) .none kV6 dc6 pm6 an6 cd6 ct6), sl6⟩) (e6 : PySem.W.codeIn K cd6 "_law_chosen" = true) (k6 : PySem.W.keepIn K (.ref f6) = true)
    (a7 : PySem.W.nsIn K mainGlobals "_law_says" = some (some (.ref f7))) (l7 : K.lookup f7 = some ⟨oc7, od7, .func (PySem.W.fnOf "_law_says" "_law_says" (defArgs s__law_says) (defBody s__law_says) (defScope s__law_says) .none kV7 dc7 pm7 an7 cd7 ct7), sl7⟩) (e7 : PySem.W.codeIn K cd7 "_law_says" = true) (k7 : PySem.W.keepIn K (.ref f7) = true)
    (a8 : PySem.W.nsIn K mainGlobals "_law_drawn_path" = some (some (.ref f8))) (l8 : K.lookup f8 = some ⟨oc8, od8, .func (PySem.W.fnOf "_law_drawn_path" "_law_drawn_path" (defArgs s__law_drawn_path) (defBody s__law_drawn_path) (defScope s__law_drawn_path) .none kV8 dc8 pm8 an8 cd8 ct8), sl8⟩) (e8 : PySem.W.codeIn K cd8 "_law_drawn_path" = true) (k8 : PySem.W.keepIn K (.ref f8) = true)
    (a9 : PySem.W.nsIn K mainGlobals "check_count" = some (some (.ref f9))) (l9 : K.lookup f9 = some ⟨oc9, od9, .func (PySem.W.fnOf "check_count" "check_count" (defArgs s_check_count) (defBody s_check_count) (defScope s_check_count) .none kV9 dc9 pm9 an9 cd9 ct9), sl9⟩) (e9 : PySem.W.codeIn K cd9 "check_count" = true) (k9 : PySem.W.keepIn K (.ref f9) = true)
    (a10 : PySem.W.nsIn K mainGlobals "_law_is_path" = some (some (.ref f10))) (l10 : K.lookup f10 = some ⟨oc10, od10, .func (PySem.W.fnOf "_law_is_path" "_law_is_path" (defArgs s__law_is_path) (defBody s__law_is_path) (defScope s__law_is_path) .none kV10 dc10 pm10 an10 cd10 ct10), sl10⟩) (e10 : PySem.W.codeIn K cd10 "_law_is_path" = true) (k10 : PySem.W.keepIn K (.ref f10) = true)
    (a11 : PySem.W.nsIn K mainGlobals "goes_back" = some (some (.ref f11))) (l11 : K.lookup f11 = some ⟨oc11, od11, .func (PySem.W.fnOf "goes_back" "goes_back" (defArgs s_goes_back) (defBody s_goes_back) (defScope s_goes_back) .none kV11 dc11 pm11 an11 cd11 ct11), sl11⟩) (e11 : PySem.W.codeIn K cd11 "goes_back" = true) (k11 : PySem.W.keepIn K (.ref f11) = true)
    (a12 : PySem.W.nsIn K mainGlobals "motzkin_paths" = some (some (.ref f12))) (l12 : K.lookup f12 = some ⟨oc12, od12, .func (PySem.W.fnOf "motzkin_paths" "motzkin_paths" (defArgs s_motzkin_paths) (defBody s_motzkin_paths) (defScope s_motzkin_paths) .none kV12 dc12 pm12 an12 cd12 ct12), sl12⟩) (e12 : PySem.W.codeIn K cd12 "motzkin_paths" = true) (k12 : PySem.W.keepIn K (.ref f12) = true)
    (a13 : PySem.W.nsIn K mainGlobals "lukasiewicz_paths" = some (some (.ref f13))) (l13 : K.lookup f13 = some ⟨oc13, od13, .func (PySem.W.fnOf "lukasiewicz_paths" "lukasiewicz_paths" (defArgs s_lukasiewicz_paths) (defBody s_lukasiewicz_paths) (defScope s_lukasiewicz_paths) .none kV13 dc13 pm13 an13 cd13 ct13), sl13⟩) (e13 : PySem.W.codeIn K cd13 "lukasiewicz_paths" = true) (k13 : PySem.W.keepIn K (.ref f13) = true)
    (a14 : PySem.W.nsIn K mainGlobals "is_motzkin_path" = some (some (.ref f14))) (l14 : K.lookup f14 = some ⟨oc14, od14, .func (PySem.W.fnOf "is_motzkin_path" "is_motzkin_path" (defArgs s_is_motzkin_path) (defBody s_is_motzkin_path) (defScope s_is_motzkin_path) .none kV14 dc14 pm14 an14 cd14 ct14), sl14⟩) (e14 : PySem.W.codeIn K cd14 "is_motzkin_path" = true) (k14 : PySem.W.keepIn K (.ref f14) = true)
    (a15 : PySem.W.nsIn K mainGlobals "is_lukasiewicz_path" = some (some (.ref f15))) (l15 : K.lookup f15 = some ⟨oc15, od15, .func (PySem.W.fnOf "is_lukasiewicz_path" "is_lukasiewicz_path" (defArgs s_is_lukasiewicz_path) (defBody s_is_lukasiewicz_path) (defScope s_is_lukasiewicz_path) .none kV15 dc15 pm15 an15 cd15 ct15), sl15⟩) (e15 : PySem.W.codeIn K cd15 "is_lukasiewicz_path" = true) (k15 : PySem.W.keepIn K (.ref f15) = true)
    (a16 : PySem.W.nsIn K mainGlobals "_law_bent" = some (some (.ref f16))) (l16 : K.lookup f16 = some ⟨oc16, od16, .func (PySem.W.fnOf "_law_bent" "_law_bent" (defArgs s__law_bent) (defBody s__law_bent) (defScope s__law_bent) .none kV16 dc16 pm16 an16 cd16 ct16), sl16⟩) (e16 : PySem.W.codeIn K cd16 "_law_bent" = true) (k16 : PySem.W.keepIn K (.ref f16) = true)
    (a17 : PySem.W.nsIn K mainGlobals "_law_inner" = some (some (.ref f17))) (l17 : K.lookup f17 = some ⟨oc17, od17, .func (PySem.W.fnOf "_law_inner" "_law_inner" (defArgs s__law_inner) (defBody s__law_inner) (defScope s__law_inner) .none kV17 dc17 pm17 an17 cd17 ct17), sl17⟩) (e17 : PySem.W.codeIn K cd17 "_law_inner" = true) (k17 : PySem.W.keepIn K (.ref f17) = true)
    (a18 : PySem.W.nsIn K mainGlobals "_law_plain" = some (some (.ref f18))) (l18 : K.lookup f18 = some ⟨oc18, od18, .func (PySem.W.fnOf "_law_plain" "_law_plain" (defArgs s__law_plain) (defBody s__law_plain) (defScope s__law_plain) .none kV18 dc18 pm18 an18 cd18 ct18), sl18⟩) (e18 : PySem.W.codeIn K cd18 "_law_plain" = true) (k18 : PySem.W.keepIn K (.ref f18) = true)
    (a19 : PySem.W.nsIn K mainGlobals "_law_told" = some (some (.ref f19))) (l19 : K.lookup f19 = some ⟨oc19, od19, .func (PySem.W.fnOf "_law_told" "_law_told" (defArgs s__law_told) (defBody s__law_told) (defScope s__law_told) .none kV19 dc19 pm19 an19 cd19 ct19), sl19⟩) (e19 : PySem.W.codeIn K cd19 "_law_told" = true) (k19 : PySem.W.keepIn K (.ref f19) = true)
    (a20 : PySem.W.nsIn K mainGlobals "law" = some (some (.ref f20))) (l20 : K.lookup f20 = some ⟨oc20, od20, .func (PySem.W.fnOf "law" "law" (defArgs s_law) (defBody s_law) (defScope s_law) .none kV20 dc20 pm20 an20 cd20 ct20), sl20⟩) (e20 : PySem.W.codeIn K cd20 "law" = true) (k20 : PySem.W.keepIn K (.ref f20) = true)
    (xa_Malformed : PySem.W.nsIn K mainGlobals "Malformed" = some (some (.ref x_Malformed))) (xk_Malformed : PySem.W.keepIn K (.ref x_Malformed) = true) (xq_Malformed : PySem.W.excIn K x_Malformed [.type "ValueError", .type "Exception", .type "BaseException", .type "object"] "ValueError.__new__" = true) (xs_Malformed : PySem.W.subIn K (.ref x_Malformed) (.type "BaseException") = some true) (xt_Malformed : PySem.W.typeIn K (.ref x_Malformed) = some (.type "type")) (xi_Malformed : PySem.W.isClsIn K x_Malformed = true) (xf_Malformed : PySem.W.subIn K (.ref x_Malformed) (.ref x_Malformed) = some true)
    (ra_Refused : PySem.W.nsIn K mainGlobals "Refused" = some (some (.ref x_Refused))) (rk_Refused : PySem.W.keepIn K (.ref x_Refused) = true) (rl_Refused : K.lookup x_Refused = some (excClassObj nm_Refused q_Refused x_Refused N_Refused bs_Refused bm_Refused true sn_Refused sub_Refused ab_Refused col_Refused dd_Refused k0_Refused k1_Refused k2_Refused k3_Refused k5_Refused "ValueError.__new__")) (rb_Refused : PySem.HandSPX.refsVE bm_Refused = true) (rt_Refused : PySem.W.excTail [.type "ValueError", .type "Exception", .type "BaseException", .type "object"] bm_Refused = true) (rs_Refused : PySem.W.findIn K (.ref x_Refused) "__setattr__" = some (some (.builtin "object.__setattr__"))) (re_Refused : PySem.W.subIn K (.ref x_Refused) (.type "BaseException") = some true) (ry_Refused : PySem.W.typeIn K (.ref x_Refused) = some (.type "type")) (ri_Refused : PySem.W.isClsIn K x_Refused = true) (rf_Refused : PySem.W.subIn K (.ref x_Refused) (.ref x_Refused) = some true) (rv_Refused : PySem.W.subIn K (.ref x_Refused) (.type "ValueError") = some true) (rm_Refused : PySem.W.mroIn K x_Refused (.ref x_Refused) = some true) (ru_Refused : PySem.W.ks_superIn K x_Refused x_Refused "__init__" = some (some (.builtin "ValueError.__init__"))) (rn_Refused : PySem.W.findIn K (.ref x_Refused) "reason" = some none) (rp_Refused : PySem.W.nsIn K cStatics "thirdparty.any" = some none) (rq_Refused : PySem.W.nsIn K mainGlobals "super" = some none) (rg_Refused : PySem.W.findIn K (.ref x_Refused) "__getattribute__" = some (some (.builtin "BaseException.__getattribute__"))) (rh_Refused : PySem.W.findIn K (.ref x_Refused) "__getattr__" = some none) (rd_Refused : PySem.W.hasDictIn K x_Refused = true) (rc_Refused : PySem.W.findIn K (.ref x_Refused) "__init__" = some (some (.ref f_Refused))) (rw_Refused : PySem.W.typeIn K (.ref f_Refused) = some (.type "function")) (rj_Refused : K.lookup f_Refused = some ⟨oc_Refused, od_Refused, .func (PySem.W.ksFn "__init__" "Refused.__init__" (defArgs s_Refused) (defBody s_Refused) (defScope s_Refused) .none kV_Refused dc_Refused pm_Refused an_Refused (.ref cd_Refused) ct_Refused cc_Refused), sl_Refused⟩) (ro_Refused : PySem.W.codeIn K (.ref cd_Refused) "Refused.__init__" = true) (rx_Refused : K.lookup cd_Refused = some ⟨cl_Refused, cdd_Refused, .fields vs_Refused, ccs_Refused⟩) (r2_Refused : vs_Refused[2]? = some (.str fl_Refused tf_Refused)) (rz_Refused : (l.prog.main.file == fl_Refused) = true) (r0_Refused : K.lookup cc_Refused = some ⟨cm_Refused, cmd_Refused, .cell (some (.ref x_Refused)), cms_Refused⟩) (r1_Refused : (l.prog.main.scope.names.lookup ("super" : Str)).isSome = false)
    (rn_Refused_Malformed : PySem.W.subIn K (.ref x_Refused) (.ref x_Malformed) = some false)
    (c_MOST_LISTED : PySem.W.nsIn K mainGlobals "MOST_LISTED" = some (some (.int 9 t_MOST_LISTED)))
    (c_MOST_STEPS : PySem.W.nsIn K mainGlobals "MOST_STEPS" = some (some (.int 12 t_MOST_STEPS)))
    (b_abs : PySem.W.nsIn K mainGlobals "abs" = some none)
    (b_all : PySem.W.nsIn K mainGlobals "all" = some none)
    (b_bool : PySem.W.nsIn K mainGlobals "bool" = some none)
    (b_int : PySem.W.nsIn K mainGlobals "int" = some none)
    (b_isinstance : PySem.W.nsIn K mainGlobals "isinstance" = some none)
    (b_len : PySem.W.nsIn K mainGlobals "len" = some none)
    (b_list : PySem.W.nsIn K mainGlobals "list" = some none)
    (b_min : PySem.W.nsIn K mainGlobals "min" = some none)
    (b_range : PySem.W.nsIn K mainGlobals "range" = some none)
    (b_sorted : PySem.W.nsIn K mainGlobals "sorted" = some none)
    (b_str : PySem.W.nsIn K mainGlobals "str" = some none)
    (b_tuple : PySem.W.nsIn K mainGlobals "tuple" = some none) :
    ∃ fd : FuncData, (∀ (s : Shared) (v : Value), BindsTo s fd ⟨[v], []⟩ [("script", v)]) ∧ ∀ base : Heap, K.In base → base.Ns mainGlobals mg → FnOk l.prog w K mg base (L2.CX l.prog w) 10 fa fd ["script"] (lawSp K F_law) := by
  let E : Facts l.prog K mg := {
    d__law_state := DA.of X G a0 l0 e0 k0 fun _ _ _ _ _ _ us hl => match us, hl with | [_], _ => rfl,
    d__law_take := DA.of X G a1 l1 e1 k1 fun _ _ _ _ _ _ us hl => match us, hl with | [_, _], _ => rfl,
    d_is_integer := DA.of X G a2 l2 e2 k2 fun _ _ _ _ _ _ us hl => match us, hl with | [_], _ => rfl,
    d_paths_to := DA.of X G a3 l3 e3 k3 fun _ _ _ _ _ _ us hl => match us, hl with | [_, _], _ => rfl,
    d__law_is_number := DA.of X G a4 l4 e4 k4 fun _ _ _ _ _ _ us hl => match us, hl with | [_], _ => rfl,
    d__law_paths := DA.of X G a5 l5 e5 k5 fun _ _ _ _ _ _ us hl => match us, hl with | [_, _, _], _ => rfl,
    d__law_chosen := DA.of X G a6 l6 e6 k6 fun _ _ _ _ _ _ us hl => match us, hl with | [_, _], _ => rfl,
    d__law_says := DA.of X G a7 l7 e7 k7 fun _ _ _ _ _ _ us hl => match us, hl with | [_, _], _ => rfl,
    d__law_drawn_path := DA.of X G a8 l8 e8 k8 fun _ _ _ _ _ _ us hl => match us, hl with | [_, _], _ => rfl,
    d_check_count := DA.of X G a9 l9 e9 k9 fun _ _ _ _ _ _ us hl => match us, hl with | [_], _ => rfl,
    d__law_is_path := DA.of X G a10 l10 e10 k10 fun _ _ _ _ _ _ us hl => match us, hl with | [_, _, _], _ => rfl,
    d_goes_back := DA.of X G a11 l11 e11 k11 fun _ _ _ _ _ _ us hl => match us, hl with | [_, _], _ => rfl,
    d_motzkin_paths := DA.of X G a12 l12 e12 k12 fun _ _ _ _ _ _ us hl => match us, hl with | [_], _ => rfl,
    d_lukasiewicz_paths := DA.of X G a13 l13 e13 k13 fun _ _ _ _ _ _ us hl => match us, hl with | [_], _ => rfl,
    d_is_motzkin_path := DA.of X G a14 l14 e14 k14 fun _ _ _ _ _ _ us hl => match us, hl with | [_], _ => rfl,
    d_is_lukasiewicz_path := DA.of X G a15 l15 e15 k15 fun _ _ _ _ _ _ us hl => match us, hl with | [_], _ => rfl,
    d__law_bent := DA.of X G a16 l16 e16 k16 fun _ _ _ _ _ _ us hl => match us, hl with | [_, _, _], _ => rfl,
    d__law_inner := DA.of X G a17 l17 e17 k17 fun _ _ _ _ _ _ us hl => match us, hl with | [_], _ => rfl,
    d__law_plain := DA.of X G a18 l18 e18 k18 fun _ _ _ _ _ _ us hl => match us, hl with | [_], _ => rfl,
    d__law_told := DA.of X G a19 l19 e19 k19 fun _ _ _ _ _ _ us hl => match us, hl with | [_, _], _ => rfl,
    d_law := DA.of X G a20 l20 e20 k20 fun _ _ _ _ _ _ us hl => match us, hl with | [_], _ => rfl,
    x_Malformed := ⟨x_Malformed, PySem.W.mg_of X G xa_Malformed, xk_Malformed, xq_Malformed, xs_Malformed, xt_Malformed, xi_Malformed, xf_Malformed⟩,
    x_Refused := { a := x_Refused, m := PySem.W.mg_of X G ra_Refused, k := rk_Refused, T := ⟨⟨_, _, _, _, _, _, _, _, _, _, _, _, _, _, _, rl_Refused, rb_Refused⟩, rs_Refused, re_Refused, ry_Refused, rk_Refused⟩, i := ri_Refused, f := rf_Refused, q := rf_q rl_Refused rt_Refused, ve := rv_Refused, me := rm_Refused, su := ru_Refused, no := rn_Refused, tp := rp_Refused, sp := rq_Refused, fi := f_Refused, xf := ⟨rg_Refused, rh_Refused, re_Refused, rd_Refused⟩, iC := rc_Refused, tI := rw_Refused, cc := cc_Refused, cda := cd_Refused, name := "__init__", qual := "Refused.__init__", params := defArgs s_Refused, body := defBody s_Refused, scope := defScope s_Refused, oc := oc_Refused, od := od_Refused, osl := sl_Refused, dV := .none, kV := kV_Refused, doc := dc_Refused, pm := pm_Refused, an := an_Refused, ct := ct_Refused, lf := rj_Refused, ce := ro_Refused, lc := ⟨_, _, _, _, _, _, rx_Refused, r2_Refused, rz_Refused⟩, ll := ⟨_, _, _, r0_Refused⟩, par := "reason", ar := ⟨_, rfl, rfl⟩, bi := fun _ _ _ => .of_eq rfl, bd := ⟨_, _, _, _, _, _, _, _, _, _, rfl, rfl⟩, sk := rfl, s1 := rfl, s2 := rfl, s3 := rfl, s4 := rfl, sn := by decide, sd := by decide, s5 := by decide +kernel, s6 := rfl, s7 := rfl, tt := r1_Refused },
    n_Refused_Malformed := rn_Refused_Malformed,
    t_MOST_LISTED := t_MOST_LISTED,
    c_MOST_LISTED := PySem.W.mg_of X G c_MOST_LISTED,
    t_MOST_STEPS := t_MOST_STEPS,
    c_MOST_STEPS := PySem.W.mg_of X G c_MOST_STEPS,
    b_abs := PySem.W.mg_none_of X G b_abs,
    b_all := PySem.W.mg_none_of X G b_all,
    b_bool := PySem.W.mg_none_of X G b_bool,
    b_int := PySem.W.mg_none_of X G b_int,
    b_isinstance := PySem.W.mg_none_of X G b_isinstance,
    b_len := PySem.W.mg_none_of X G b_len,
    b_list := PySem.W.mg_none_of X G b_list,
    b_min := PySem.W.mg_none_of X G b_min,
    b_range := PySem.W.mg_none_of X G b_range,
    b_sorted := PySem.W.mg_none_of X G b_sorted,
    b_str := PySem.W.mg_none_of X G b_str,
    b_tuple := PySem.W.mg_none_of X G b_tuple }
  have e := hfa.symm.trans E.d_law.m
  cases e
  exact ⟨E.d_law.fd, fun s v => .of_eq rfl, fun base _ _ => lawSp_of (C := E.C) rfl (ok_law E)⟩
end L34
open PySem PySem.W PyProof.Rows
set_option maxHeartbeats 0 in
theorem PySem.Challenge.cw_momentroads_k34_whole_paths_listed_holds : PySem.Challenge.rw_momentroads_k34_whole_paths_listed.Holds := by
  w_on; o_law; k_head; (case hw => w_witness2)
  k_fill
  refine L2.walk_of (l := PySem.Challenge.rw_momentroads_k34_whole_paths_listed) (n := 63) (k := 10) (x := "script") (CX := fun w => L2.CX PySem.Challenge.pw_momentroads_k34_whole_paths_listed w) (sp := fun w => Pv.lawSp _ L34.F_law) rfl (by decide) rfl ⟨rfl, by decide, by decide⟩ (fun w h Y => PySem.W.kIn_of Y) ?F (fun w H a ns hl hO hS => Pv.lawSp_in hO hS (L34.law_all ns hl)) (fun _ _ _ _ _ h => Pv.cx_no h)
  case F =>
    intro w mg fa h KX G hmg
    refine' L34.all_mk KX G hmg ?a0 ?l0 ?e0 ?k0 ?a1 ?l1 ?e1 ?k1 ?a2 ?l2 ?e2 ?k2 ?a3 ?l3 ?e3 ?k3 ?a4 ?l4 ?e4 ?k4 ?a5 ?l5 ?e5 ?k5 ?a6 ?l6 ?e6 ?k6 ?a7 ?l7 ?e7 ?k7 ?a8 ?l8 ?e8 ?k8 ?a9 ?l9 ?e9 ?k9 ?a10 ?l10 ?e10 ?k10 ?a11 ?l11 ?e11 ?k11 ?a12 ?l12 ?e12 ?k12 ?a13 ?l13 ?e13 ?k13 ?a14 ?l14 ?e14 ?k14 ?a15 ?l15 ?e15 ?k15 ?a16 ?l16 ?e16 ?k16 ?a17 ?l17 ?e17 ?k17 ?a18 ?l18 ?e18 ?k18 ?a19 ?l19 ?e19 ?k19 ?a20 ?l20 ?e20 ?k20 ?xa_Malformed ?xk_Malformed ?xq_Malformed ?xs_Malformed ?xt_Malformed ?xi_Malformed ?xf_Malformed ?ra_Refused ?rk_Refused ?rl_Refused ?rb_Refused ?rt_Refused ?rs_Refused ?re_Refused ?ry_Refused ?ri_Refused ?rf_Refused ?rv_Refused ?rm_Refused ?ru_Refused ?rn_Refused ?rp_Refused ?rq_Refused ?rg_Refused ?rh_Refused ?rd_Refused ?rc_Refused ?rw_Refused ?rj_Refused ?ro_Refused ?rx_Refused ?r2_Refused ?rz_Refused ?r0_Refused ?r1_Refused ?rn_Refused_Malformed ?c_MOST_LISTED ?c_MOST_STEPS ?b_abs ?b_all ?b_bool ?b_int ?b_isinstance ?b_len ?b_list ?b_min ?b_range ?b_sorted ?b_str ?b_tuple
    (case a0 => k_is)
    (case l0 => k_is)
    (case e0 => k_is)
    (case k0 => k_is)
    (case a1 => k_is)
    (case l1 => k_is)
    (case e1 => k_is)
    (case k1 => k_is)
    (case a2 => k_is)
    (case l2 => k_is)
    (case e2 => k_is)
    (case k2 => k_is)
    (case a3 => k_is)
    (case l3 => k_is)
    (case e3 => k_is)
    (case k3 => k_is)
    (case a4 => k_is)
    (case l4 => k_is)
    (case e4 => k_is)
    (case k4 => k_is)
    (case a5 => k_is)
    (case l5 => k_is)
    (case e5 => k_is)
    (case k5 => k_is)
    (case a6 => k_is)
    (case l6 => k_is)
    (case e6 => k_is)
    (case k6 => k_is)
    (case a7 => k_is)
    (case l7 => k_is)
    (case e7 => k_is)
    (case k7 => k_is)
    (case a8 => k_is)
    (case l8 => k_is)
    (case e8 => k_is)
    (case k8 => k_is)
    (case a9 => k_is)
    (case l9 => k_is)
    (case e9 => k_is)
    (case k9 => k_is)
    (case a10 => k_is)
    (case l10 => k_is)
    (case e10 => k_is)
    (case k10 => k_is)
    (case a11 => k_is)
    (case l11 => k_is)
    (case e11 => k_is)
    (case k11 => k_is)
    (case a12 => k_is)
    (case l12 => k_is)
    (case e12 => k_is)
    (case k12 => k_is)
    (case a13 => k_is)
    (case l13 => k_is)
    (case e13 => k_is)
    (case k13 => k_is)
    (case a14 => k_is)
    (case l14 => k_is)
    (case e14 => k_is)
    (case k14 => k_is)
    (case a15 => k_is)
    (case l15 => k_is)
    (case e15 => k_is)
    (case k15 => k_is)
    (case a16 => k_is)
    (case l16 => k_is)
    (case e16 => k_is)
    (case k16 => k_is)
    (case a17 => k_is)
    (case l17 => k_is)
    (case e17 => k_is)
    (case k17 => k_is)
    (case a18 => k_is)
    (case l18 => k_is)
    (case e18 => k_is)
    (case k18 => k_is)
    (case a19 => k_is)
    (case l19 => k_is)
    (case e19 => k_is)
    (case k19 => k_is)
    (case a20 => k_is)
    (case l20 => k_is)
    (case e20 => k_is)
    (case k20 => k_is)
    (case xa_Malformed => k_is)
    (case xk_Malformed => k_is)
    (case xq_Malformed => k_exc)
    (case xs_Malformed => k_is)
    (case xt_Malformed => k_is)
    (case xi_Malformed => k_is)
    (case xf_Malformed => first | rfl | k_is)
    (case ra_Refused => k_is)
    (case rk_Refused => k_is)
    (case rl_Refused => k_is)
    (case rb_Refused => rfl)
    (case rt_Refused => first | rfl | kernel_rfl)
    (case rs_Refused => k_is)
    (case re_Refused => k_is)
    (case ry_Refused => k_is)
    (case ri_Refused => k_is)
    (case rf_Refused => first | rfl | k_is)
    (case rv_Refused => k_is)
    (case rm_Refused => k_is)
    (case ru_Refused => first | ks_is | kernel_rfl)
    (case rn_Refused => k_is)
    (case rp_Refused => k_is)
    (case rq_Refused => k_is)
    (case rg_Refused => k_is)
    (case rh_Refused => k_is)
    (case rd_Refused => k_is)
    (case rc_Refused => k_is)
    (case rw_Refused => k_is)
    (case rj_Refused => k_is)
    (case ro_Refused => k_is)
    (case rx_Refused => k_is)
    (case r2_Refused => rfl)
    (case rz_Refused => kernel_rfl)
    (case r0_Refused => k_is)
    (case r1_Refused => kernel_rfl)
    (case rn_Refused_Malformed => k_is)
    (case c_MOST_LISTED => k_is)
    (case c_MOST_STEPS => k_is)
    (case b_abs => k_is)
    (case b_all => k_is)
    (case b_bool => k_is)
    (case b_int => k_is)
    (case b_isinstance => k_is)
    (case b_len => k_is)
    (case b_list => k_is)
    (case b_min => k_is)
    (case b_range => k_is)
    (case b_sorted => k_is)
    (case b_str => k_is)
    (case b_tuple => k_is)
