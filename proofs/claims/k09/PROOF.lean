import PyProof.Rows.All
import Wide.All
import OpenK.AllK
import Wide.FinOn
import HandS.ForMost
import HandS.DictComp
import HandS.Property
import HandS.Codes
import HandS.IsInst
import KE.KDictKeyed
import HandS.TupSets
import KE.KSortTupG
import HandS.SortRule
import HandS.Conv
import HandS.Deep
import HandS.Text
import HandS.More
import HandS.SetKeys
import HandS.Zip
import HandS.Style
import HandS.SetBool
import HandS.Strs
import HandS.SortInts
import HandS.OwnEq
import HandS.TupLen
import HandS.TupLe
import PySem.Challenge.RW_factflows_k09_whole_no_lesser_program
set_option Elab.async false
set_option linter.all false
set_option maxRecDepth 100000
set_option maxHeartbeats 0
namespace FF
open PySem PySem.W PyProof.Rows
open_top hd for PySem.Challenge.rw_factflows_k09_whole_no_lesser_program
end FF
set_option maxHeartbeats 8000000
namespace FF
open PySem PySem.Spec PyProof.Rows L2

def hid (F : List Addr) (H : Hp) : Hp := fun a => if a ∈ F then none else H a
theorem hid_in {F : List Addr} {H : Hp} {a : Addr} (h : a ∈ F) : hid F H a = none := by unfold hid; rw [if_pos h]
theorem hid_out {F : List Addr} {H : Hp} {a : Addr} (h : a ∉ F) : hid F H a = H a := by unfold hid; rw [if_neg h]
theorem hid_some {F : List Addr} {H : Hp} {a : Addr} {o : HO} (h : hid F H a = some o) : a ∉ F ∧ H a = some o := by
  by_cases m : a ∈ F
  · rw [hid_in m] at h; cases h
  · rw [hid_out m] at h; exact ⟨m, h⟩
theorem hid_upd {F : List Addr} {H : Hp} {a : Addr} {o : HO} (h : a ∈ F) : hid F (upd H a o) = hid F H := by
  funext b
  by_cases m : b ∈ F
  · rw [hid_in m, hid_in m]
  · rw [hid_out m, hid_out m, upd_ne]
    rintro rfl; exact m h
theorem hid_cons_new {F : List Addr} {H : Hp} {p : Addr} {o : HO} (h : H p = none) : hid (p :: F) (upd H p o) = hid F H := by
  funext b
  by_cases m : b ∈ F
  · rw [hid_in (List.mem_cons_of_mem _ m), hid_in m]
  · by_cases e : b = p
    · subst e
      rw [hid_in List.mem_cons_self, hid_out m, h]
    · rw [hid_out (fun z => (List.mem_cons.mp z).elim e m), hid_out m, upd_ne e]
theorem hid_same {F : List Addr} {H : Hp} : Same (hid F H) H := fun a o e => (hid_some e).2
theorem hid_sub {F F' : List Addr} {H : Hp} (h : ∀ a ∈ F, a ∈ F') : Same (hid F' H) (hid F H) := fun a o e => by
  obtain ⟨m, e⟩ := hid_some e
  rw [hid_out (fun z => m (h a z))]; exact e
theorem same_new {H : Hp} {p : Addr} {o : HO} (h : H p = none) : Same H (upd H p o) := fun a u e => by
  rw [upd_ne (ne_of_none e h)]; exact e

/-- a dict -/
def DictO : HO → Prop
  | .dK _ => True
  | .dT _ => True
  | _ => False
/-- grown, dicts perhaps locked or unlocked -/
def Up (G G' : Hp) : Prop := ∀ a o, G a = some o → G' a = some o ∨ (DictO o ∧ ∃ od, G' a = some (.frz od o)) ∨ ∃ od u, o = .frz od u ∧ DictO u ∧ G' a = some u
theorem Same.toUp {G G' : Hp} (h : Same G G') : Up G G' := fun a o e => .inl (h a o e)
theorem Same.up {G G' : Hp} (h : Same G G') : Same G G' := h
theorem Up.refl (G : Hp) : Up G G := Same.toUp (Same.refl G)
theorem same_rd {G G' : Hp} (h : Same G G') {a : Addr} {o : HO} (e : Rd G a o) : Rd G' a o := e.imp (h _ _) fun ⟨od, e⟩ => ⟨od, h _ _ e⟩
theorem Up.at {G G' : Hp} (h : Up G G') {a : Addr} {o : HO} (e : G a = some o) (h1 : ¬ DictO o) (h2 : ∀ od u, o ≠ .frz od u) : G' a = some o := by
  rcases h a o e with q | ⟨q, _⟩ | ⟨od, u, q, _⟩
  · exact q
  · exact absurd q h1
  · exact absurd q (h2 od u)
theorem Up.lst {G G' : Hp} (h : Up G G') {a : Addr} {xs : List V} (e : G a = some (.lst xs)) : G' a = some (.lst xs) := h.at e (fun z => z) (fun _ _ z => by cases z)
theorem Up.tup {G G' : Hp} (h : Up G G') {a : Addr} {xs : List V} (e : G a = some (.tup xs)) : G' a = some (.tup xs) := h.at e (fun z => z) (fun _ _ z => by cases z)
theorem Up.ins {G G' : Hp} (h : Up G G') {a C dx : Addr} {fs : List (Str × V)} (e : G a = some (.ins C dx fs)) : G' a = some (.ins C dx fs) := h.at e (fun z => z) (fun _ _ z => by cases z)
theorem Up.rd {G G' : Hp} (h : Up G G') {a : Addr} {o : HO} (d : DictO o) (e : Rd G a o) : Rd G' a o := by
  have nf : ∀ od u, o ≠ .frz od u := by
    rintro od u rfl; exact d
  rcases e with e | ⟨od, e⟩
  · rcases h a o e with q | ⟨_, od, q⟩ | ⟨od, u, q, _⟩
    · exact .inl q
    · exact .inr ⟨od, q⟩
    · exact absurd q (nf od u)
  · rcases h a _ e with q | ⟨q, _⟩ | ⟨od', u, q, _, q2⟩
    · exact .inr ⟨od, q⟩
    · exact q.elim
    · cases q; exact .inl q2
theorem Up.hid {F : List Addr} {H H' : Hp} (h : Up H H') : Up (hid F H) (hid F H') := fun a o e => by
  obtain ⟨m, e⟩ := hid_some e
  rw [hid_out m]; exact h a o e
theorem Same.hid {F : List Addr} {H H' : Hp} (h : Same H H') : Same (hid F H) (hid F H') := fun a o e => by
  obtain ⟨m, e⟩ := hid_some e
  rw [hid_out m]; exact h a o e

def BagAt (H : Hp) (b c : Addr) : Prop := ∃ (i j k : Int) (ns : List Int), H b = some (.lst [.int i, .int j, .int k, .ref c]) ∧ H c = some (.lst (ns.map V.int)) ∧ b ≠ c ∧ 0 ≤ i ∧ 0 ≤ j ∧ j < 2147483647 ∧ 0 ≤ k ∧ ∀ n ∈ ns, 0 ≤ n
theorem BagAt.hid {L : List Addr} {H : Hp} {b c : Addr} (h : BagAt H b c) (hb : b ∉ L) (hc : c ∉ L) : BagAt (hid L H) b c := by
  obtain ⟨i, j, k, ns, h1, h2, r⟩ := h
  exact ⟨i, j, k, ns, by rw [hid_out hb]; exact h1, by rw [hid_out hc]; exact h2, r⟩
theorem BagAt.unhid {L : List Addr} {H : Hp} {b c : Addr} (h : BagAt (FF.hid L H) b c) : BagAt H b c ∧ b ∉ L ∧ c ∉ L := by
  obtain ⟨i, j, k, ns, h1, h2, r⟩ := h
  exact ⟨⟨i, j, k, ns, (hid_some h1).2, (hid_some h2).2, r⟩, (hid_some h1).1, (hid_some h2).1⟩
theorem BagAt.same {H H' : Hp} {b c : Addr} (h : BagAt H b c) (e : Same H H') : BagAt H' b c := by
  obtain ⟨i, j, k, ns, h1, h2, r⟩ := h
  exact ⟨i, j, k, ns, e _ _ h1, e _ _ h2, r⟩

/-- something is there, no tuple -/
def Loc (H : Hp) (a : Addr) : Prop := H a ≠ none ∧ ∀ xs, H a ≠ some (.tup xs)
theorem Loc.of {H : Hp} {a : Addr} {o : HO} (h : H a = some o) (n : ∀ xs, o ≠ .tup xs) : Loc H a := ⟨by rw [h]; exact fun z => (nomatch z), fun xs z => by
  rw [h] at z
  exact n xs (Option.some.inj z)⟩
theorem Loc.at {H H' : Hp} {a : Addr} (h : Loc H a) (e : ∀ o, H a = some o → H' a = some o) : Loc H' a := by
  cases q : H a with
  | none => exact absurd q h.1
  | some o => exact Loc.of (e o q) fun xs z => h.2 xs (by rw [q, z])
/-- what has happened: nothing changed but the bag -/
def re (b : Option Addr) (H H' : Hp) : Prop := (∀ a o, some a ≠ b → H a = some o → H' a = some o) ∧ ∀ a, b = some a → ((H a ≠ none → H' a ≠ none) ∧ (Loc H a → Loc H' a)) ∧ ∀ c, BagAt H a c → BagAt H' a c
theorem re.refl {b : Option Addr} (H : Hp) : re b H H := ⟨fun _ _ _ e => e, fun _ _ => ⟨⟨id, id⟩, fun _ e => e⟩⟩
theorem re.trans {b : Option Addr} {H H1 H2 : Hp} (x : re b H H1) (y : re b H1 H2) : re b H H2 :=
  ⟨fun a o n e => y.1 a o n (x.1 a o n e), fun a e => ⟨⟨fun z => (y.2 a e).1.1 ((x.2 a e).1.1 z), fun z => (y.2 a e).1.2 ((x.2 a e).1.2 z)⟩, fun c z => (y.2 a e).2 c ((x.2 a e).2 c z)⟩⟩
theorem re.same {b : Option Addr} {H H' : Hp} (h : Same H H') : re b H H' :=
  ⟨fun a o _ e => h a o e, fun a _ => ⟨⟨fun z => (by
    cases q : H a with
    | none => exact absurd q z
    | some o =>
      rw [h a o q]
      exact fun z => nomatch z), fun z => z.at (h a)⟩, fun c z => z.same h⟩⟩
theorem re.pure {H H' : Hp} (h : re none H H') : Same H H' := fun a o e => h.1 a o (fun z => nomatch z) e
theorem re.dom {b : Option Addr} {H H' : Hp} (h : re b H H') {a : Addr} (x : H a ≠ none) : H' a ≠ none := by
  by_cases e : some a = b
  · exact (h.2 a e.symm).1.1 x
  · cases q : H a with
    | none => exact absurd q x
    | some o => rw [h.1 a o e q]; exact fun z => nomatch z
theorem re.loc {b : Option Addr} {H H' : Hp} (h : re b H H') {a : Addr} (x : Loc H a) : Loc H' a := by
  by_cases e : some a = b
  · exact (h.2 a e.symm).1.2 x
  · exact x.at fun o q => h.1 a o e q
theorem re.hid {b : Option Addr} {H H' : Hp} (h : re b H H') {L : List Addr} (hL : ∀ a ∈ L, b ≠ some a) : re b (FF.hid L H) (FF.hid L H') := by
  refine ⟨fun a o n e => ?_, fun a e => ⟨⟨fun z => ?_, fun z => ?_⟩, fun c z => ?_⟩⟩
  · obtain ⟨m, e⟩ := hid_some e
    rw [hid_out m]; exact h.1 a o n e
  · have m : a ∉ L := fun m => hL a m e
    rw [hid_out m] at z ⊢
    exact (h.2 a e).1.1 z
  · have m : a ∉ L := fun m => hL a m e
    unfold Loc at z ⊢
    rw [hid_out m] at z ⊢
    exact (h.2 a e).1.2 z
  · obtain ⟨z, hb, hc⟩ := z.unhid
    exact ((h.2 a e).2 c z).hid hb hc
theorem re.keep {b : Option Addr} {H H' : Hp} (h : re b H H') {a : Addr} {o : HO} (n : b ≠ some a) (e : H a = some o) : H' a = some o := h.1 a o (fun z => n z.symm) e
theorem re.free {b : Option Addr} {H H' : Hp} (h : re b H H') {a : Addr} (n : H' a = none) : H a = none := by
  cases q : H a with
  | none => rfl
  | some o => exact absurd n (h.dom (by rw [q]; exact fun z => nomatch z))

/-- the frame of a piece of code: hidden places, the bag (one of them) -/
structure Fr where
  F : List Addr
  b : Option Addr
structure Dm (f : Fr) (H : Hp) : Prop where
  there : ∀ a ∈ f.F, Loc H a
  bag : ∀ a, f.b = some a → a ∈ f.F
theorem Dm.re {f : Fr} {H H' : Hp} (d : Dm f H) (h : FF.re f.b H H') : Dm f H' := ⟨fun a m => h.loc (d.there a m), d.bag⟩
theorem Dm.new {f : Fr} {H : Hp} (d : Dm f H) {p : Addr} (h : H p = none) : p ∉ f.F := fun m => (d.there p m).1 h
theorem re.known {f : Fr} {H H' : Hp} (h : re f.b H H') (d : ∀ a, f.b = some a → a ∈ f.F) : Same (FF.hid f.F H) (FF.hid f.F H') := fun a o e => by
  obtain ⟨m, e⟩ := hid_some e
  rw [hid_out m]
  exact h.1 a o (fun z => m (d a z.symm)) e
def Fr.add (f : Fr) (p : Addr) : Fr := ⟨p :: f.F, f.b⟩
theorem Dm.add {f : Fr} {H : Hp} {p : Addr} (d : Dm f H) (h : Loc H p) : Dm (f.add p) H := ⟨fun a m => (List.mem_cons.mp m).elim (fun e => by rw [e]; exact h) (d.there a), fun a e => List.mem_cons_of_mem _ (d.bag a e)⟩

class StH (K : Hp → Prop) : Prop where
  up : ∀ {G G' : Hp}, Same G G' → K G → K G'
class StP (Φ : Hp → V → Prop) : Prop where
  up : ∀ {G G' : Hp} {v : V}, Same G G' → Φ G v → Φ G' v
class StA (Ψ : Hp → List V → Prop) : Prop where
  up : ∀ {G G' : Hp} {vs : List V}, Same G G' → Ψ G vs → Ψ G' vs
abbrev Rep (α : Type) := Hp → V → α → Prop
class Stb {α : Type} (R : Rep α) : Prop where
  up : ∀ {G G' : Hp} {v : V} {x : α}, Same G G' → R G v x → R G' v x
def KT : Hp → Prop := fun _ => True
def KAnd (K L : Hp → Prop) : Hp → Prop := fun G => K G ∧ L G
def KV (Φ : Hp → V → Prop) (v : V) : Hp → Prop := fun G => Φ G v
def At {α : Type} (R : Rep α) (x : α) : Hp → V → Prop := fun G v => R G v x
def Som {α : Type} (R : Rep α) (P : α → Prop) : Hp → V → Prop := fun G v => ∃ x, P x ∧ R G v x
def IsV (w : V) : Hp → V → Prop := fun _ v => v = w
instance : StH KT := ⟨fun _ _ => trivial⟩
instance {K L : Hp → Prop} [StH K] [StH L] : StH (KAnd K L) := ⟨fun u h => ⟨StH.up u h.1, StH.up u h.2⟩⟩
instance {Φ : Hp → V → Prop} {v : V} [StP Φ] : StH (KV Φ v) := ⟨fun u h => StP.up (Φ := Φ) u h⟩
instance {α : Type} {R : Rep α} {x : α} [Stb R] : StP (At R x) := ⟨fun u h => Stb.up (R := R) u h⟩
instance {α : Type} {R : Rep α} {P : α → Prop} [Stb R] : StP (Som R P) := ⟨fun u ⟨x, p, h⟩ => ⟨x, p, Stb.up (R := R) u h⟩⟩
instance {w : V} : StP (IsV w) := ⟨fun _ h => h⟩
def ANil : Hp → List V → Prop := fun _ vs => vs = []
def ACons (Φ : Hp → V → Prop) (Ψ : Hp → List V → Prop) : Hp → List V → Prop := fun G vs => ∃ v r, vs = v :: r ∧ Φ G v ∧ Ψ G r
instance : StA ANil := ⟨fun _ h => h⟩
instance {Φ : Hp → V → Prop} {Ψ : Hp → List V → Prop} [StP Φ] [StA Ψ] : StA (ACons Φ Ψ) := ⟨fun u ⟨v, r, e, h1, h2⟩ => ⟨v, r, e, StP.up u h1, StA.up u h2⟩⟩

def zI : Rep Int := fun _ v x => v = .int x
def zS : Rep Str := fun _ v x => v = .str x
def zB : Rep Bool := fun _ v x => v = .bl x
def zT2 {α β : Type} (R : Rep α) (S : Rep β) : Rep (α × β) := fun G v x => ∃ a u w, v = .ref a ∧ G a = some (.tup [u, w]) ∧ R G u x.1 ∧ S G w x.2
def zT3 {α β γ : Type} (R : Rep α) (S : Rep β) (T : Rep γ) : Rep (α × β × γ) := fun G v x => ∃ a u w z, v = .ref a ∧ G a = some (.tup [u, w, z]) ∧ R G u x.1 ∧ S G w x.2.1 ∧ T G z x.2.2
def zL {α : Type} (R : Rep α) : Rep (List α) := fun G v l => ∃ a xs, v = .ref a ∧ G a = some (.lst xs) ∧ Paired (R G) xs l
def zO {α : Type} (R : Rep α) : Rep (Option α) := fun G v x => match x with
  | none => v = .non
  | some y => R G v y
/-- a dict; its kind by mk, its keys by enc -/
def zD {κ β γ : Type} (mk : List (κ × V) → HO) (enc : β → κ) (S : Rep γ) : Rep (List (β × γ)) := fun G v l => ∃ a kvs, v = .ref a ∧ Rd G a (mk kvs) ∧ Paired (fun (kv : κ × V) (p : β × γ) => kv.1 = enc p.1 ∧ S G kv.2 p.2) kvs l
def kI (i : Int) : Key := Sum.inl i
def kP (p : Int × Int) : List Key := [Sum.inl p.1, Sum.inl p.2]
class DMk {κ : Type} (mk : List (κ × V) → HO) : Prop where
  dict : ∀ kvs, DictO (mk kvs)
instance : DMk HO.dK := ⟨fun _ => trivial⟩
instance : DMk HO.dT := ⟨fun _ => trivial⟩
/-- a dict with whole numbers as keys, one with pairs of them -/
abbrev zDI {γ : Type} (S : Rep γ) : Rep (List (Int × γ)) := zD HO.dK kI S
abbrev zDP {γ : Type} (S : Rep γ) : Rep (List ((Int × Int) × γ)) := zD HO.dT kP S
/-- a thing of which nothing is said -/
def zAny : Rep Unit := fun _ _ _ => True
instance : Stb zI := ⟨fun _ h => h⟩
instance : Stb zS := ⟨fun _ h => h⟩
instance : Stb zB := ⟨fun _ h => h⟩
instance : Stb zAny := ⟨fun _ h => h⟩
instance {α β : Type} {R : Rep α} {S : Rep β} [Stb R] [Stb S] : Stb (zT2 R S) := ⟨fun u ⟨a, x, y, e, h, p, q⟩ => ⟨a, x, y, e, u _ _ h, Stb.up u p, Stb.up u q⟩⟩
instance {α β γ : Type} {R : Rep α} {S : Rep β} {T : Rep γ} [Stb R] [Stb S] [Stb T] : Stb (zT3 R S T) := ⟨fun u ⟨a, x, y, z, e, h, p, q, r⟩ => ⟨a, x, y, z, e, u _ _ h, Stb.up u p, Stb.up u q, Stb.up u r⟩⟩
instance {α : Type} {R : Rep α} [Stb R] : Stb (zL R) := ⟨fun u ⟨a, xs, e, h, p⟩ => ⟨a, xs, e, u _ _ h, Paired.mapP p fun _ _ q => Stb.up u q⟩⟩
instance {α : Type} {R : Rep α} [Stb R] : Stb (zO R) := ⟨fun {G G' v x} u h => by
  cases x with
  | none => exact h
  | some y => exact Stb.up (R := R) u h⟩
instance {κ β γ : Type} {mk : List (κ × V) → HO} [DMk mk] {enc : β → κ} {S : Rep γ} [Stb S] : Stb (zD mk enc S) := ⟨fun u ⟨a, kvs, e, h, p⟩ => ⟨a, kvs, e, same_rd u h, Paired.mapP p fun _ _ q => ⟨q.1, Stb.up u q.2⟩⟩⟩

class LkH (K : Hp → Prop) : Prop where
  up : ∀ {G G' : Hp}, Up G G' → K G → K G'
class LkP (Φ : Hp → V → Prop) : Prop where
  up : ∀ {G G' : Hp} {v : V}, Up G G' → Φ G v → Φ G' v
class LkA (Ψ : Hp → List V → Prop) : Prop where
  up : ∀ {G G' : Hp} {vs : List V}, Up G G' → Ψ G vs → Ψ G' vs
class Lkb {α : Type} (R : Rep α) : Prop where
  up : ∀ {G G' : Hp} {v : V} {x : α}, Up G G' → R G v x → R G' v x
instance : LkH KT := ⟨fun _ _ => trivial⟩
instance {K L : Hp → Prop} [LkH K] [LkH L] : LkH (KAnd K L) := ⟨fun u h => ⟨LkH.up u h.1, LkH.up u h.2⟩⟩
instance {Φ : Hp → V → Prop} {v : V} [LkP Φ] : LkH (KV Φ v) := ⟨fun u h => LkP.up (Φ := Φ) u h⟩
instance {α : Type} {R : Rep α} {x : α} [Lkb R] : LkP (At R x) := ⟨fun u h => Lkb.up (R := R) u h⟩
instance {α : Type} {R : Rep α} {P : α → Prop} [Lkb R] : LkP (Som R P) := ⟨fun u ⟨x, p, h⟩ => ⟨x, p, Lkb.up (R := R) u h⟩⟩
instance {w : V} : LkP (IsV w) := ⟨fun _ h => h⟩
instance : LkA ANil := ⟨fun _ h => h⟩
instance {Φ : Hp → V → Prop} {Ψ : Hp → List V → Prop} [LkP Φ] [LkA Ψ] : LkA (ACons Φ Ψ) := ⟨fun u ⟨v, r, e, h1, h2⟩ => ⟨v, r, e, LkP.up u h1, LkA.up u h2⟩⟩
instance : Lkb zI := ⟨fun _ h => h⟩
instance : Lkb zS := ⟨fun _ h => h⟩
instance : Lkb zB := ⟨fun _ h => h⟩
instance : Lkb zAny := ⟨fun _ h => h⟩
instance {α β : Type} {R : Rep α} {S : Rep β} [Lkb R] [Lkb S] : Lkb (zT2 R S) := ⟨fun u ⟨a, x, y, e, h, p, q⟩ => ⟨a, x, y, e, u.tup h, Lkb.up u p, Lkb.up u q⟩⟩
instance {α β γ : Type} {R : Rep α} {S : Rep β} {T : Rep γ} [Lkb R] [Lkb S] [Lkb T] : Lkb (zT3 R S T) := ⟨fun u ⟨a, x, y, z, e, h, p, q, r⟩ => ⟨a, x, y, z, e, u.tup h, Lkb.up u p, Lkb.up u q, Lkb.up u r⟩⟩
instance {α : Type} {R : Rep α} [Lkb R] : Lkb (zL R) := ⟨fun u ⟨a, xs, e, h, p⟩ => ⟨a, xs, e, u.lst h, Paired.mapP p fun _ _ q => Lkb.up u q⟩⟩
instance {α : Type} {R : Rep α} [Lkb R] : Lkb (zO R) := ⟨fun {G G' v x} u h => by
  cases x with
  | none => exact h
  | some y => exact Lkb.up (R := R) u h⟩
instance {κ β γ : Type} {mk : List (κ × V) → HO} [DMk mk] {enc : β → κ} {S : Rep γ} [Lkb S] : Lkb (zD mk enc S) := ⟨fun u ⟨a, kvs, e, h, p⟩ => ⟨a, kvs, e, u.rd (DMk.dict kvs) h, Paired.mapP p fun _ _ q => ⟨q.1, Lkb.up u q.2⟩⟩⟩

def EvP (f : Fr) (te : TE) (σ : L2.St) (H : Hp) (Φ : Hp → V → Prop) : Prop := ∀ H1, re f.b H H1 → Dm f H1 → ∀ Q : VK, (∀ v H2, re f.b H1 H2 → Φ (hid f.F H2) v → Q v H2) → te σ H1 Q
def EvA (f : Fr) (ta : TA) (σ : L2.St) (H : Hp) (Ψ : Hp → List V → Prop) : Prop := ∀ H1, re f.b H H1 → Dm f H1 → ∀ Q : List V → Hp → Prop, (∀ v H2, re f.b H1 H2 → Ψ (hid f.F H2) v → Q v H2) → ta σ H1 Q
def EvT (f : Fr) (tt : TT) (σ : L2.St) (H : Hp) (P : Bool → Prop) : Prop := ∀ H1, re f.b H H1 → Dm f H1 → ∀ Q : Bool → Hp → Prop, (∀ c H2, re f.b H1 H2 → P c → Q c H2) → tt σ H1 Q
/-- a rule by values -/
def Ru2 (f : Fr) (r : R2) (H : Hp) (Φ1 Φ2 Φ : Hp → V → Prop) : Prop := ∀ H1 u w, re f.b H H1 → Dm f H1 → Φ1 (hid f.F H1) u → Φ2 (hid f.F H1) w → ∀ Q : VK, (∀ v H2, re f.b H1 H2 → Φ (hid f.F H2) v → Q v H2) → r u w H1 Q
def Ru1 (f : Fr) (r : V → Hp → VK → Prop) (H : Hp) (Φ1 Φ : Hp → V → Prop) : Prop := ∀ H1 u, re f.b H H1 → Dm f H1 → Φ1 (hid f.F H1) u → ∀ Q : VK, (∀ v H2, re f.b H1 H2 → Φ (hid f.F H2) v → Q v H2) → r u H1 Q
def RuA (f : Fr) (r : List V → Hp → VK → Prop) (H : Hp) (Ψ : Hp → List V → Prop) (Φ : Hp → V → Prop) : Prop := ∀ H1 vs, re f.b H H1 → Dm f H1 → Ψ (hid f.F H1) vs → ∀ Q : VK, (∀ v H2, re f.b H1 H2 → Φ (hid f.F H2) v → Q v H2) → r vs H1 Q
section
variable {f : Fr} {σ : L2.St} {H H' : Hp} {Φ Φ' Φ1 Φ2 : Hp → V → Prop} {Ψ : Hp → List V → Prop} {ta tb te : TE} {r : R2} {tt tu : TT} {P P' : Bool → Prop}
theorem EvP.re (h : EvP f te σ H Φ) (e : FF.re f.b H H') : EvP f te σ H' Φ := fun H1 e1 d Q q => h H1 (e.trans e1) d Q q
theorem EvP.imp (h : EvP f te σ H Φ) (i : ∀ G v, Φ G v → Φ' G v) : EvP f te σ H Φ' := fun H1 e1 d Q q => h H1 e1 d Q fun v H2 e2 p => q v H2 e2 (i _ _ p)
theorem EvP.is {α : Type} {R : Rep α} {x y : α} (h : EvP f te σ H (At R x)) (e : x = y) : EvP f te σ H (At R y) := e ▸ h
theorem EvT.re (h : EvT f tt σ H P) (e : FF.re f.b H H') : EvT f tt σ H' P := fun H1 e1 d Q q => h H1 (e.trans e1) d Q q
theorem EvT.imp (h : EvT f tt σ H P) (i : ∀ c, P c → P' c) : EvT f tt σ H P' := fun H1 e1 d Q q => h H1 e1 d Q fun v H2 e2 p => q v H2 e2 (i _ p)
theorem known_up (e : FF.re f.b H H') (d : Dm f H') : Same (hid f.F H) (hid f.F H') := e.known d.bag

theorem ev_var [StP Φ] {i : Nat} {v : V} (h : σ[i]? = some (some v)) (k : Φ (hid f.F H) v) : EvP f (tVar i) σ H Φ := fun H1 e d Q q => ⟨v, h, q v H1 (re.refl _) (StP.up (known_up e d) k)⟩
theorem ev_c {v : V} (k : ∀ G, Φ G v) : EvP f (tC v) σ H Φ := fun H1 e d Q q => q v H1 (re.refl _) (k _)
theorem ev_int {i : Int} : EvP f (tC (.int i)) σ H (At zI i) := ev_c fun _ => rfl
theorem ev_bl {i : Bool} : EvP f (tC (.bl i)) σ H (At zB i) := ev_c fun _ => rfl
theorem ev_str {x : Str} : EvP f (tC (.str x)) σ H (At zS x) := ev_c fun _ => rfl
theorem ev_op [StP Φ1] (ha : EvP f ta σ H Φ1) (hb : EvP f tb σ H Φ2) (hr : Ru2 f r H Φ1 Φ2 Φ) : EvP f (tOp r ta tb) σ H Φ := fun H1 e d Q q =>
  ha H1 e d _ fun u H2 e2 p => hb H2 (e.trans e2) (d.re e2) _ fun w H3 e3 p' => hr H3 u w ((e.trans e2).trans e3) ((d.re e2).re e3) (StP.up (known_up e3 ((d.re e2).re e3)) p) p' Q fun v H4 e4 z => q v H4 ((e2.trans e3).trans e4) z
theorem ev_un {r : V → Hp → VK → Prop} (ha : EvP f ta σ H Φ1) (hr : Ru1 f r H Φ1 Φ) : EvP f (tUn r ta) σ H Φ := fun H1 e d Q q =>
  ha H1 e d _ fun u H2 e2 p => hr H2 u (e.trans e2) (d.re e2) p Q fun v H3 e3 z => q v H3 (e2.trans e3) z
theorem Ru2.ex1 {α : Type} {R : Rep α} {Pr : α → Prop} (h : ∀ x, Pr x → Ru2 f r H (At R x) Φ2 Φ) : Ru2 f r H (Som R Pr) Φ2 Φ := fun H1 u w e d ⟨x, p, k⟩ k2 Q q => h x p H1 u w e d k k2 Q q
theorem Ru2.ex2 {α : Type} {R : Rep α} {Pr : α → Prop} (h : ∀ x, Pr x → Ru2 f r H Φ1 (At R x) Φ) : Ru2 f r H Φ1 (Som R Pr) Φ := fun H1 u w e d k ⟨x, p, k2⟩ Q q => h x p H1 u w e d k k2 Q q
theorem Ru2.imp (h : Ru2 f r H Φ1 Φ2 Φ) (i : ∀ G v, Φ G v → Φ' G v) : Ru2 f r H Φ1 Φ2 Φ' := fun H1 u w e d k k2 Q q => h H1 u w e d k k2 Q fun v H2 e2 p => q v H2 e2 (i _ _ p)
theorem Ru1.ex {α : Type} {R : Rep α} {Pr : α → Prop} {r : V → Hp → VK → Prop} (h : ∀ x, Pr x → Ru1 f r H (At R x) Φ) : Ru1 f r H (Som R Pr) Φ := fun H1 u e d ⟨x, p, k⟩ Q q => h x p H1 u e d k Q q
theorem at_som {α : Type} {R : Rep α} {x : α} {Pr : α → Prop} (p : Pr x) (G : Hp) (v : V) (h : At R x G v) : Som R Pr G v := ⟨x, p, h⟩

theorem ea_nil : EvA f tNil σ H ANil := fun H1 e d Q q => q [] H1 (re.refl _) rfl
theorem ea_cons {tr : TA} [StP Φ] (h : EvP f ta σ H Φ) (hr : EvA f tr σ H Ψ) : EvA f (tCons ta tr) σ H (ACons Φ Ψ) := fun H1 e d Q q =>
  h H1 e d _ fun u H2 e2 p => hr H2 (e.trans e2) (d.re e2) _ fun vs H3 e3 ps => q (u :: vs) H3 (e2.trans e3) ⟨u, vs, rfl, StP.up (known_up e3 ((d.re e2).re e3)) p, ps⟩
theorem EvA.imp {tr : TA} {Ψ' : Hp → List V → Prop} (h : EvA f tr σ H Ψ) (i : ∀ G v, Ψ G v → Ψ' G v) : EvA f tr σ H Ψ' := fun H1 e1 d Q q => h H1 e1 d Q fun v H2 e2 p => q v H2 e2 (i _ _ p)
theorem hid_new {H1 : Hp} {p : Addr} {o : HO} (d : Dm f H1) (h : H1 p = none) : hid f.F (upd H1 p o) p = some o := by rw [hid_out (d.new h), upd_same]
theorem up_new {H1 : Hp} {p : Addr} {o : HO} (h : H1 p = none) : Same (hid f.F H1) (hid f.F (upd H1 p o)) := Same.hid (same_new h)
theorem ev_tup2 {α β : Type} {R : Rep α} {S : Rep β} [Stb R] [Stb S] {x : α} {y : β} (ha : EvP f ta σ H (At R x)) (hb : EvP f tb σ H (At S y)) : EvP f (tTup (tCons ta (tCons tb tNil))) σ H (At (zT2 R S) (x, y)) := fun H1 e d Q q =>
  ea_cons ha (ea_cons hb ea_nil) H1 e d _ fun vs H2 e2 ⟨u, r1, e3, p1, w, r2, e4, p2, e5⟩ => by
    obtain rfl : r2 = [] := e5
    subst e4; subst e3
    refine ⟨by show 2 ≤ sizeLine; decide, fun p hp => q _ _ (e2.trans (re.same (same_new hp))) ?_⟩
    exact ⟨p, u, w, rfl, hid_new (d.re e2) hp, Stb.up (up_new hp) p1, Stb.up (up_new hp) p2⟩
theorem ev_tup3 {α β γ : Type} {R : Rep α} {S : Rep β} {T : Rep γ} [Stb R] [Stb S] [Stb T] {x : α} {y : β} {z : γ} {tc : TE} (ha : EvP f ta σ H (At R x)) (hb : EvP f tb σ H (At S y)) (hc : EvP f tc σ H (At T z)) :
    EvP f (tTup (tCons ta (tCons tb (tCons tc tNil)))) σ H (At (zT3 R S T) (x, y, z)) := fun H1 e d Q q =>
  ea_cons ha (ea_cons hb (ea_cons hc ea_nil)) H1 e d _ fun vs H2 e2 ⟨u, r1, e3, p1, w, r2, e4, p2, t, r3, e5, p3, e6⟩ => by
    obtain rfl : r3 = [] := e6
    subst e5; subst e4; subst e3
    refine ⟨by show 3 ≤ sizeLine; decide, fun p hp => q _ _ (e2.trans (re.same (same_new hp))) ?_⟩
    exact ⟨p, u, w, t, rfl, hid_new (d.re e2) hp, Stb.up (up_new hp) p1, Stb.up (up_new hp) p2, Stb.up (up_new hp) p3⟩
/-- a list written item by item -/
def AEach {α : Type} (R : Rep α) (l : List α) : Hp → List V → Prop := fun G vs => Paired (R G) vs l
instance {α : Type} {R : Rep α} {l : List α} [Stb R] : StA (AEach R l) := ⟨fun u h => Paired.mapP h fun _ _ q => Stb.up u q⟩
theorem ee_nil {α : Type} {R : Rep α} : EvA f tNil σ H (AEach R []) := fun H1 e d Q q => q [] H1 (re.refl _) .nil
theorem ee_cons {α : Type} {R : Rep α} [Stb R] {x : α} {l : List α} {tr : TA} (h : EvP f ta σ H (At R x)) (hr : EvA f tr σ H (AEach R l)) : EvA f (tCons ta tr) σ H (AEach R (x :: l)) :=
  (ea_cons h hr).imp fun G vs ⟨u, r1, e, p, q⟩ => by subst e; exact .cons p q
theorem ev_lst {α : Type} {R : Rep α} [Stb R] {l : List α} {tr : TA} (h : EvA f tr σ H (AEach R l)) (hl : l.length ≤ 100000) : EvP f (tLst tr) σ H (At (zL R) l) := fun H1 e d Q q =>
  h H1 e d _ fun vs H2 e2 ps => ⟨by rw [Paired.length ps]; exact Nat.le_trans hl (by decide), fun p hp => q _ _ (e2.trans (re.same (same_new hp))) ⟨p, vs, rfl, hid_new (d.re e2) hp, Paired.mapP ps fun _ _ z => Stb.up (up_new hp) z⟩⟩
theorem ev_cb {r : List V → Hp → VK → Prop} {tr : TA} (h : EvA f tr σ H Ψ) (hr : RuA f r H Ψ Φ) : EvP f (tCB r tr) σ H Φ := fun H1 e d Q q =>
  h H1 e d _ fun vs H2 e2 p => hr H2 vs (e.trans e2) (d.re e2) p Q fun v H3 e3 z => q v H3 (e2.trans e3) z

theorem et_test (h : EvP f te σ H (Som zB P)) : EvT f (tTest te) σ H P := fun H1 e d Q q => h H1 e d _ fun v H2 e2 ⟨c, p, k⟩ => ⟨c, k, q c H2 e2 p⟩
theorem et_B (h : EvP f te σ H (Som zB P)) : EvT f (tB te) σ H P := fun H1 e d Q q => h H1 e d _ fun v H2 e2 ⟨c, p, k⟩ => ⟨c, k, q c H2 e2 p⟩
theorem bl_som {c : Bool} (h : EvP f te σ H (At zB c)) : EvP f te σ H (Som zB (· = c)) := h.imp fun _ _ k => ⟨c, rfl, k⟩
theorem et_B1 {c : Bool} (h : EvP f te σ H (At zB c)) : EvT f (tB te) σ H (· = c) := et_B (bl_som h)
theorem et_test1 {c : Bool} (h : EvP f te σ H (At zB c)) : EvT f (tTest te) σ H (· = c) := et_test (bl_som h)
theorem et_and {a b : Bool} (h1 : EvT f tt σ H (· = a)) (h2 : a = true → EvT f tu σ H (· = b)) : EvT f (tAnd tt tu) σ H (· = (a && b)) := fun H1 e d Q q => h1 H1 e d _ fun c H2 e2 k => by
  subst k
  cases c with
  | true =>
    show tu σ H2 Q
    exact h2 rfl H2 (e.trans e2) (d.re e2) Q fun c' H3 e3 k' => q c' H3 (e2.trans e3) (by rw [k']; rfl)
  | false => exact q false H2 e2 rfl
theorem et_or {a b : Bool} (h1 : EvT f tt σ H (· = a)) (h2 : a = false → EvT f tu σ H (· = b)) : EvT f (tOr tt tu) σ H (· = (a || b)) := fun H1 e d Q q => h1 H1 e d _ fun c H2 e2 k => by
  subst k
  cases c with
  | false =>
    show tu σ H2 Q
    exact h2 rfl H2 (e.trans e2) (d.re e2) Q fun c' H3 e3 k' => q c' H3 (e2.trans e3) (by rw [k']; rfl)
  | true => exact q true H2 e2 rfl
theorem et_not {a : Bool} (h1 : EvT f tt σ H (· = a)) : EvT f (tNot tt) σ H (· = (!a)) := fun H1 e d Q q => h1 H1 e d _ fun c H2 e2 k => q (!c) H2 e2 (by rw [k])
theorem et_yes : EvT f tYes σ H (· = true) := fun H1 e d Q q => q true H1 (re.refl _) rfl
theorem et_is {a b : Bool} (h : EvT f tt σ H (· = a)) (e : a = b) : EvT f tt σ H (· = b) := e ▸ h
theorem ev_andV {a b : Bool} (h1 : EvP f ta σ H (At zB a)) (h2 : a = true → EvP f tb σ H (At zB b)) : EvP f (tAndV ta tb) σ H (At zB (a && b)) := fun H1 e d Q q => h1 H1 e d _ fun v H2 e2 k => ⟨a, k, by
  cases a with
  | true =>
    show tb σ H2 Q
    exact h2 rfl H2 (e.trans e2) (d.re e2) Q fun v' H3 e3 k' => q v' H3 (e2.trans e3) k'
  | false => exact q (.bl false) H2 e2 rfl⟩
theorem ev_orV {a b : Bool} (h1 : EvP f ta σ H (At zB a)) (h2 : a = false → EvP f tb σ H (At zB b)) : EvP f (tOrV ta tb) σ H (At zB (a || b)) := fun H1 e d Q q => h1 H1 e d _ fun v H2 e2 k => ⟨a, k, by
  cases a with
  | false =>
    show tb σ H2 Q
    exact h2 rfl H2 (e.trans e2) (d.re e2) Q fun v' H3 e3 k' => q v' H3 (e2.trans e3) k'
  | true => exact q (.bl true) H2 e2 rfl⟩
theorem ev_notV {a : Bool} (h1 : EvP f ta σ H (At zB a)) : EvP f (tNotV ta) σ H (At zB (!a)) := fun H1 e d Q q => h1 H1 e d _ fun v H2 e2 k => ⟨a, k, q _ H2 e2 rfl⟩
end
end FF
namespace FF
open PySem PySem.Spec PyProof.Rows L2

/-- nothing changes -/
def SpP {ι : Type} (Arg : ι → Hp → List V → Prop) (Res : ι → Hp → V → Prop) : Sp := fun vs H Q _ => ∃ (x : ι) (F : List Addr), (∀ a ∈ F, Loc H a) ∧ Arg x (hid F H) vs ∧ ∀ v H2, Same H H2 → Res x (hid F H2) v → Q v H2
/-- the bag alone changes -/
def SpB {ι : Type} (Arg : ι → Hp → List V → Prop) (Res : ι → Hp → V → Prop) : Sp := fun vs H Q _ => ∃ (x : ι) (F : List Addr) (b c : Addr) (rest : List V), vs = .ref b :: rest ∧ b ∈ F ∧ (∀ a ∈ F, Loc H a) ∧ BagAt H b c ∧ Arg x (hid F H) rest ∧
  ∀ v H2, re (some b) H H2 → Res x (hid F H2) v → Q v H2
section
variable {f : Fr} {σ : L2.St} {H H' : Hp} {Φ Φ' Φ1 Φ2 : Hp → V → Prop} {Ψ : Hp → List V → Prop} {ta tb te : TE} {r : R2} {tt : TT} {P : Bool → Prop} {ι : Type} {Arg : ι → Hp → List V → Prop} {Res : ι → Hp → V → Prop} {E : XK} {tr : TA}
theorem ev_call {x : ι} (h : EvA f tr σ H (Arg x)) : EvP f (tCall (SpP Arg Res) [] E tr) σ H (Res x) := fun H1 e d Q q => h H1 e d _ fun vs H2 e2 p => by
  show SpP Arg Res (vs ++ []) H2 Q E
  rw [List.append_nil]
  exact ⟨x, f.F, (d.re e2).there, p, fun v H3 s k => q v H3 (e2.trans (re.same s)) k⟩
theorem ev_callB {x : ι} {i : Nat} {b c : Addr} (hb : f.b = some b) (hB : BagAt H b c) (hi : σ[i]? = some (some (.ref b))) (h : EvA f tr σ H (Arg x)) : EvP f (tCall (SpB Arg Res) [] E (tCons (tVar i) tr)) σ H (Res x) := fun H1 e d Q q => by
  show ∃ v, σ[i]? = some (some v) ∧ _
  refine ⟨.ref b, hi, h H1 e d _ fun vs H2 e2 p => ?_⟩
  show SpB Arg Res ((.ref b :: vs) ++ []) H2 Q E
  rw [List.append_nil]
  refine ⟨x, f.F, b, c, vs, rfl, d.bag b hb, (d.re e2).there, ((e.trans e2).2 b hb).2 c hB, p, fun v H3 s k => q v H3 (e2.trans ?_) k⟩
  rw [hb]; exact s
/-- a method -/
theorem ev_meth {C : Addr} {m : Str} {x : ι} [StP Φ] (ho : EvP f ta σ H Φ) (hi : ∀ G v, Φ G v → ∃ a dx fs, v = .ref a ∧ G a = some (.ins C dx fs) ∧ fs.lookup m = none) (h : EvA f tr σ H Ψ) (hA : ∀ G v vs, Φ G v → Ψ G vs → Arg x G (v :: vs)) :
    EvP f (tMeth C m (SpP Arg Res) [] E ta tr) σ H (Res x) := fun H1 e d Q q => ho H1 e d _ fun v H2 e2 p => by
  obtain ⟨a, dx, fs, e3, ea, hl⟩ := hi _ _ p
  refine ⟨a, dx, fs, e3, hid_same _ _ ea, hl, h H2 (e.trans e2) (d.re e2) _ fun vs H3 e4 p4 => ?_⟩
  show SpP Arg Res (v :: (vs ++ [])) H3 Q E
  rw [List.append_nil]
  exact ⟨x, f.F, ((d.re e2).re e4).there, hA _ _ _ (StP.up (known_up e4 ((d.re e2).re e4)) p) p4, fun v H4 s k => q v H4 ((e2.trans e4).trans (re.same s)) k⟩
/-- a property -/
theorem ev_prop {C : Addr} {x : ι} (ho : EvP f ta σ H Φ) (hi : ∀ G v, Φ G v → ∃ a dx fs, v = .ref a ∧ G a = some (.ins C dx fs)) (hA : ∀ G v, Φ G v → Arg x G [v]) :
    EvP f (tProp C (SpP Arg Res) [] E ta) σ H (Res x) := fun H1 e d Q q => ho H1 e d _ fun v H2 e2 p => by
  obtain ⟨a, dx, fs, e3, ea⟩ := hi _ _ p
  refine ⟨a, dx, fs, e3, hid_same _ _ ea, ?_⟩
  subst e3
  exact ⟨x, f.F, (d.re e2).there, hA _ _ p, fun v H4 s k => q v H4 (e2.trans (re.same s)) k⟩
end

structure Now (f : Fr) (L : List Addr) (H0 : Hp) (K : Hp → Prop) (H : Hp) : Prop where
  rel : re f.b H0 (hid L H)
  dm : Dm f H
  lf : ∀ a ∈ L, a ∈ f.F ∧ f.b ≠ some a
  kn : K (hid f.F H)
section
variable {f : Fr} {L : List Addr} {H0 : Hp} {K K' : Hp → Prop} {H H1 : Hp}
theorem hid_nil (H : Hp) : hid [] H = H := by
  funext a
  exact hid_out (fun h => by cases h)
theorem Now.start (d : Dm f H) (k : K (hid f.F H)) : Now f [] H K H := ⟨by rw [hid_nil]; exact re.refl _, d, fun a h => (by cases h), k⟩
theorem Now.go [StH K] (n : Now f L H0 K H) (e : re f.b H H1) : Now f L H0 K H1 :=
  ⟨n.rel.trans (e.hid fun a m => (n.lf a m).2), n.dm.re e, n.lf, StH.up (known_up e (n.dm.re e)) n.kn⟩
theorem Now.know (n : Now f L H0 K H) (k : K' (hid f.F H)) : Now f L H0 K' H := ⟨n.rel, n.dm, n.lf, k⟩
theorem Now.out (n : Now f L H0 K H) : re f.b H0 H := n.rel.trans (re.same hid_same)
/-- a local thing is changed -/
theorem Now.upd {p : Addr} {o : HO} (n : Now f L H0 K H) (h : p ∈ L) (no : ∀ xs, o ≠ .tup xs := by intro _ z; cases z) : Now f L H0 K (L2.upd H p o) :=
  ⟨by rw [hid_upd h]; exact n.rel, ⟨fun a m => (by
      by_cases e : a = p
      · rw [e]; exact Loc.of upd_same no
      · exact (n.dm.there a m).at fun o q => by rw [upd_ne e]; exact q), n.dm.bag⟩, n.lf, by rw [hid_upd (n.lf p h).1]; exact n.kn⟩
/-- a new local thing -/
theorem Now.new {p : Addr} {o : HO} (n : Now f L H0 K H) (h : H p = none) (no : ∀ xs, o ≠ .tup xs := by intro _ z; cases z) : Now (f.add p) (p :: L) H0 K (L2.upd H p o) where
  rel := by rw [hid_cons_new h]; exact n.rel
  dm := (n.dm.re (re.same (same_new h))).add (Loc.of upd_same no)
  lf := fun a m => (List.mem_cons.mp m).elim (fun e => by
    subst e
    exact ⟨List.mem_cons_self, fun z => n.dm.new h (n.dm.bag _ z)⟩) fun m => ⟨List.mem_cons_of_mem _ (n.lf a m).1, (n.lf a m).2⟩
  kn := by
    show K (hid (p :: f.F) _)
    rw [hid_cons_new h]; exact n.kn
/-- a thing made on the way becomes a local one -/
theorem Now.own {p : Addr} [StH K] (n : Now f L H0 K H) (h : H p = none) (e : re f.b H H1) (h1 : Loc H1 p) : Now (f.add p) (p :: L) H0 K H1 where
  rel := by
    refine n.rel.trans ?_
    have e1 : re f.b (hid (p :: L) H) (hid (p :: L) H1) := e.hid fun a m => (List.mem_cons.mp m).elim (fun z => by
      subst z
      exact fun z => n.dm.new h (n.dm.bag _ z)) fun m => (n.lf a m).2
    have e2 : hid (p :: L) H = hid L H := by
      funext a
      by_cases m : a ∈ L
      · rw [hid_in m, hid_in (List.mem_cons_of_mem _ m)]
      · by_cases z : a = p
        · subst z; rw [hid_in List.mem_cons_self, hid_out m, h]
        · rw [hid_out m, hid_out (fun y => (List.mem_cons.mp y).elim z m)]
    rw [e2] at e1
    exact e1
  dm := (n.dm.re e).add h1
  lf := fun a m => (List.mem_cons.mp m).elim (fun e => by
    subst e
    exact ⟨List.mem_cons_self, fun z => n.dm.new h (n.dm.bag _ z)⟩) fun m => ⟨List.mem_cons_of_mem _ (n.lf a m).1, (n.lf a m).2⟩
  kn := by
    refine StH.up (Same.up fun a o z => ?_) n.kn
    show hid (p :: f.F) H1 a = some o
    obtain ⟨m, z⟩ := hid_some z
    have ne : a ≠ p := by
      rintro rfl; rw [h] at z; cases z
    rw [hid_out (fun y => (List.mem_cons.mp y).elim ne m)]
    exact e.keep (fun y => m (n.dm.bag a y)) z
theorem StP.sub {Φ : Hp → V → Prop} [StP Φ] {F F' : List Addr} {H : Hp} {v : V} (h : ∀ a ∈ F, a ∈ F') (k : Φ (hid F' H) v) : Φ (hid F H) v := StP.up (Same.up (hid_sub h)) k
end
section
variable {f : Fr} {L : List Addr} {H0 : Hp} {K K' : Hp → Prop} {H H1 : Hp} {σ : L2.St} {D : Ends} {te : TE} {tt : TT} {Φ : Hp → V → Prop} {P : Bool → Prop} {tu tw : TS} {g : TG} {tb : TS}
theorem seq_ (h : tu { D with nx := tw D } σ H) : tSeq tu tw D σ H := h
theorem s_set {i : Nat} [StH K] (n : Now f L H0 K H) (h : EvP f te σ H Φ) (k : ∀ v H1, re f.b H H1 → Now f L H0 (KAnd K (KV Φ v)) H1 → D.nx (σ.set i (some v)) H1) : tAsg te (gName i) D σ H :=
  h H (re.refl _) n.dm _ fun v H1 e p => k v H1 e ((n.go e).know ⟨(n.go e).kn, p⟩)
theorem s_ret [StH K] (n : Now f L H0 K H) (h : EvP f te σ H Φ) (k : ∀ v H1, re f.b H H1 → Now f L H0 (KAnd K (KV Φ v)) H1 → D.rt v H1) : tRet te D σ H :=
  h H (re.refl _) n.dm _ fun v H1 e p => k v H1 e ((n.go e).know ⟨(n.go e).kn, p⟩)
theorem s_if [StH K] (n : Now f L H0 K H) (h : EvT f tt σ H P) (h1 : P true → ∀ H1, re f.b H H1 → Now f L H0 K H1 → tu D σ H1) (h2 : P false → ∀ H1, re f.b H H1 → Now f L H0 K H1 → tw D σ H1) : tIfS tt tu tw D σ H :=
  h H (re.refl _) n.dm _ fun c H1 e p => by
    cases c with
    | true => exact h1 p H1 e (n.go e)
    | false => exact h2 p H1 e (n.go e)
theorem s_expr [StH K] (n : Now f L H0 K H) (h : EvP f te σ H Φ) (k : ∀ H1, re f.b H H1 → Now f L H0 K H1 → D.nx σ H1) : tDrop te D σ H :=
  h H (re.refl _) n.dm _ fun v H1 e p => k H1 e (n.go e)
theorem s_newL {i : Nat} (n : Now f L H0 K H) (k : ∀ p, H p = none → Now (f.add p) (p :: L) H0 K (upd H p (.lst [])) → D.nx (σ.set i (some (.ref p))) (upd H p (.lst []))) : tAsg (tLst tNil) (gName i) D σ H :=
  ⟨Nat.zero_le _, fun p hp => k p hp (n.new hp)⟩
theorem s_newDK {i : Nat} (n : Now f L H0 K H) (k : ∀ p, H p = none → Now (f.add p) (p :: L) H0 K (upd H p (.dK [])) → D.nx (σ.set i (some (.ref p))) (upd H p (.dK []))) : tAsg tDNewK (gName i) D σ H :=
  fun p hp => k p hp (n.new hp)
theorem s_newDT {i : Nat} (n : Now f L H0 K H) (k : ∀ p, H p = none → Now (f.add p) (p :: L) H0 K (upd H p (.dT [])) → D.nx (σ.set i (some (.ref p))) (upd H p (.dT []))) : tAsg tDNewT (gName i) D σ H :=
  fun p hp => k p hp (n.new hp)
end

/-- J yields the things of l in order, as long as Kn is known -/
structure Walk (J : It) {α : Type} (R : Rep α) (l : List α) (Kn : Hp → Prop) : Prop where
  go : ∀ (F : List Addr) (H : Hp) (i : Nat), Kn (hid F H) → i < l.length → J.go i H
  stop : ∀ (F : List Addr) (H : Hp) (i : Nat), Kn (hid F H) → l.length ≤ i → J.stop i H
  yld : ∀ (F : List Addr) (H : Hp) (i : Nat) (x : V) (H' : Hp), (∀ a ∈ F, Loc H a) → Kn (hid F H) → i < l.length → J.yld i H x H' → ∃ z, l[i]? = some z ∧ Same H H' ∧ R (hid F H') x z
def EvI (f : Fr) (wi : TI) (σ : L2.St) (H : Hp) {α : Type} (R : Rep α) (l : List α) : Prop := ∀ H1, re f.b H H1 → Dm f H1 → ∀ Q : It → Hp → Prop, (∀ J Kn H2, re f.b H1 H2 → StH Kn → Walk J R l Kn → Kn (hid f.F H2) → Q J H2) → wi σ H1 Q
section
variable {f : Fr} {σ : L2.St} {H : Hp} {te : TE} {α β : Type} {R : Rep α} {l : List α}
theorem ei_list {Kf : PySem.W.Frag} [Stb R] (h : EvP f te σ H (At (zL R) l)) : EvI f (iList Kf te) σ H R l := fun H1 e d Q q => h H1 e d _ fun v H2 e2 p => by
  obtain ⟨a, xs, e3, ha, hp⟩ : zL R (hid f.F H2) v l := p
  subst e3
  have rec_ : ∀ (F : List Addr) (H : Hp), KV (At (zL R) l) (.ref a) (hid F H) → ∃ xs, SqL Kf H a xs ∧ Paired (R (hid F H)) xs l := fun F H ⟨a', xs', e4, ha', hp'⟩ => by
    obtain rfl : a = a' := by injection e4
    exact ⟨xs', SqL.of (hid_same _ _ ha'), hp'⟩
  refine ⟨a, rfl, ⟨xs, SqL.of (hid_same _ _ ha)⟩, q _ (KV (At (zL R) l) (.ref a)) H2 e2 inferInstance ⟨fun F H i k hi => ?_, fun F H i k hi => ?_, fun F H i x H' _ k _ y => ?_⟩ ⟨a, xs, rfl, ha, hp⟩⟩
  · obtain ⟨xs, h1, h2⟩ := rec_ F H k
    have hlen := Paired.length h2
    exact ⟨xs, xs[i]'(by omega), h1, List.getElem?_eq_getElem (by omega)⟩
  · obtain ⟨xs, h1, h2⟩ := rec_ F H k
    have hlen := Paired.length h2
    exact ⟨xs, h1, by omega⟩
  · obtain ⟨xs, h1, h2⟩ := rec_ F H k
    obtain ⟨rfl, y⟩ := y
    obtain ⟨z, hz, hr⟩ := paired_get h2 (y xs h1)
    exact ⟨z, hz, Same.refl _, hr⟩
theorem ei_tup2 {Kf : PySem.W.Frag} [Stb R] {x y : α} (h : EvP f te σ H (At (zT2 R R) (x, y))) : EvI f (iTup Kf te) σ H R [x, y] := fun H1 e d Q q => h H1 e d _ fun v H2 e2 p => by
  obtain ⟨a, u, w, e3, ha, p1, p2⟩ : zT2 R R (hid f.F H2) v (x, y) := p
  subst e3
  have rec_ : ∀ (F : List Addr) (H : Hp), KV (At (zT2 R R) (x, y)) (.ref a) (hid F H) → ∃ xs, SqT Kf H a xs ∧ Paired (R (hid F H)) xs [x, y] := fun F H ⟨a', u', w', e4, ha', p1', p2'⟩ => by
    obtain rfl : a = a' := by injection e4
    exact ⟨[u', w'], SqT.of (hid_same _ _ ha'), .cons p1' (.cons p2' .nil)⟩
  refine ⟨a, rfl, ⟨_, SqT.of (hid_same _ _ ha)⟩, q _ (KV (At (zT2 R R) (x, y)) (.ref a)) H2 e2 inferInstance ⟨fun F H i k hi => ?_, fun F H i k hi => ?_, fun F H i x H' _ k _ y => ?_⟩ ⟨a, u, w, rfl, ha, p1, p2⟩⟩
  · obtain ⟨xs, h1, h2⟩ := rec_ F H k
    have hlen := Paired.length h2
    exact ⟨xs, xs[i]'(by omega), h1, List.getElem?_eq_getElem (by omega)⟩
  · obtain ⟨xs, h1, h2⟩ := rec_ F H k
    have hlen := Paired.length h2
    exact ⟨xs, h1, by omega⟩
  · obtain ⟨xs, h1, h2⟩ := rec_ F H k
    obtain ⟨rfl, y⟩ := y
    obtain ⟨z, hz, hr⟩ := paired_get h2 (y xs h1)
    exact ⟨z, hz, Same.refl _, hr⟩
/-- 0, 1, .. below n -/
def upto (n : Nat) : List Int := (List.range n).map fun i => Int.ofNat i
theorem upto_length (n : Nat) : (upto n).length = n := by unfold upto; rw [List.length_map, List.length_range]
theorem upto_get {n i : Nat} (h : i < n) : (upto n)[i]? = some (i : Int) := by unfold upto; rw [List.getElem?_map, List.getElem?_range h]; rfl
theorem mem_upto {n : Nat} {x : Int} : x ∈ upto n ↔ 0 ≤ x ∧ x < n := by
  unfold upto
  rw [List.mem_map]
  constructor
  · rintro ⟨i, hi, rfl⟩
    have := List.mem_range.mp hi
    have e : Int.ofNat i = (i : Int) := rfl
    omega
  · rintro ⟨h1, h2⟩
    refine ⟨x.toNat, List.mem_range.mpr (by omega), ?_⟩
    have e : Int.ofNat x.toNat = ((x.toNat : Nat) : Int) := rfl
    omega
theorem walk_range {n : Nat} : Walk (Itr 0 n) zI (upto n) KT where
  go := fun F H i _ hi => by rw [upto_length] at hi; exact hi
  stop := fun F H i _ hi => by rw [upto_length] at hi; exact hi
  yld := fun F H i x H' _ _ hi y => by
    obtain ⟨rfl, rfl⟩ := y
    rw [upto_length] at hi
    refine ⟨(i : Int), upto_get hi, Same.refl _, ?_⟩
    show V.int (0 + (i : Int)) = V.int (i : Int)
    rw [Int.zero_add]
theorem ei_range {n : Nat} {ta : TA} (hn : n ≤ 100000) (h : EvA f ta σ H (ACons (At zI (n : Int)) ANil)) : EvI f (iRng1 ta) σ H zI (upto n) := fun H1 e d Q q => h H1 e d _ fun vs H2 e2 ⟨v, r, e3, p, e4⟩ => by
  obtain rfl : r = [] := e4
  obtain rfl : v = .int (n : Int) := p
  refine ⟨(n : Int), e3, by omega, by omega, ?_⟩
  have e5 : ((n : Int)).toNat = n := by omega
  rw [e5]
  exact q _ KT H2 e2 inferInstance walk_range trivial
theorem ei_rangeS {ta : TA} {Pr : Int → Prop} (h : EvA f ta σ H (ACons (Som zI Pr) ANil)) {N : Nat} (hN : N ≤ 100000) (hP : ∀ i, Pr i → 0 ≤ i ∧ i ≤ N) {wi : TI} {Q : It → Hp → Prop} :
    ∀ H1, re f.b H H1 → Dm f H1 → (∀ (n : Nat) H2, Pr n → re f.b H1 H2 → Q (Itr 0 n) H2) → iRng1 ta σ H1 Q := fun H1 e d q => h H1 e d _ fun vs H2 e2 ⟨v, r, e3, p, e4⟩ => by
  obtain rfl : r = [] := e4
  obtain ⟨i, hi, rfl⟩ := p
  have := hP i hi
  refine ⟨i, e3, by omega, by omega, q i.toNat H2 (by rw [show ((i.toNat : Nat) : Int) = i by omega]; exact hi) e2⟩
end

def Bnd (g : TG) (u : V) (σ : L2.St) (H : Hp) (Θ : L2.St → Prop) : Prop := ∀ Q : L2.St → Hp → Prop, (∀ σ2, Θ σ2 → Q σ2 H) → g u σ H Q
section
variable {f : Fr} {σ : L2.St} {H : Hp} {Θ : L2.St → Prop} {u : V}
theorem bnd_name {i : Nat} (h : Θ (σ.set i (some u))) : Bnd (gName i) u σ H Θ := fun Q q => q _ h
theorem bnd_tup2 {Kf : PySem.W.Frag} {α β : Type} {R : Rep α} {S : Rep β} {x : α × β} {F : List Addr} {i j : Nat} (h : zT2 R S (hid F H) u x) (k : ∀ a u1 u2, u = .ref a → H a = some (.tup [u1, u2]) → R (hid F H) u1 x.1 → S (hid F H) u2 x.2 → Θ ((σ.set i (some u1)).set j (some u2))) :
    Bnd (gTup Kf 2 (gCons (gName i) (gCons (gName j) gNil))) u σ H Θ := fun Q q => by
  obtain ⟨a, u1, u2, e, ha, h1, h2⟩ := h
  exact ⟨a, _, e, SqT.of (hid_same _ _ ha), rfl, u1, _, rfl, u2, _, rfl, rfl, q _ (k a u1 u2 e (hid_same _ _ ha) h1 h2)⟩
theorem bnd_tup3 {Kf : PySem.W.Frag} {α β γ : Type} {R : Rep α} {S : Rep β} {T : Rep γ} {x : α × β × γ} {F : List Addr} {i j k' : Nat} (h : zT3 R S T (hid F H) u x) (k : ∀ u1 u2 u3, R (hid F H) u1 x.1 → S (hid F H) u2 x.2.1 → T (hid F H) u3 x.2.2 → Θ (((σ.set i (some u1)).set j (some u2)).set k' (some u3))) :
    Bnd (gTup Kf 3 (gCons (gName i) (gCons (gName j) (gCons (gName k') gNil)))) u σ H Θ := fun Q q => by
  obtain ⟨a, u1, u2, u3, e, ha, h1, h2, h3⟩ := h
  exact ⟨a, _, e, SqT.of (hid_same _ _ ha), rfl, u1, _, rfl, u2, _, rfl, u3, _, rfl, rfl, q _ (k u1 u2 u3 h1 h2 h3)⟩
end

section
variable {f : Fr} {L : List Addr} {H0 : Hp} {K K' : Hp → Prop} {H H1 : Hp} {σ : L2.St} {D : Ends} {wi : TI} {g : TG} {tb : TS} {α : Type} {R : Rep α} {l : List α}
theorem s_for [StH K] (n : Now f L H0 K H) (h : EvI f wi σ H R l)
    (k : ∀ Kn H1, StH Kn → re f.b H H1 → Now f L H0 (KAnd K Kn) H1 → ∃ Inv : Nat → L2.St → Hp → Prop, Inv 0 σ H1 ∧ (∀ i σ' H', Inv i σ' H' → Dm f H' ∧ Kn (hid f.F H')) ∧
      (∀ i x u σ' H' H'', l[i]? = some x → Inv i σ' H' → Same H' H'' → R (hid f.F H'') u x → g u σ' H'' fun σ2 H2 => tb { D with nx := Inv (i + 1), ct := Inv (i + 1), bk := D.nx } σ2 H2) ∧ (∀ σ' H', Inv l.length σ' H' → D.nx σ' H')) :
    tFor wi g tb D σ H :=
  h H (re.refl _) n.dm _ fun J Kn H1 e sk wk p => by
    obtain ⟨Inv, i0, il, is, id⟩ := k Kn H1 sk e ((n.go e).know ⟨(n.go e).kn, p⟩)
    refine ⟨fun i m σ H => m = l.length - i ∧ i ≤ l.length ∧ Inv i σ H, ⟨l.length, by simp, Nat.zero_le _, i0⟩, ?_⟩
    rintro i m σ' H' ⟨rfl, hi, q⟩
    obtain ⟨d, kn⟩ := il i σ' H' q
    by_cases hlt : i < l.length
    · refine .inr ⟨wk.go _ _ _ kn hlt, Inv (i + 1), fun σ2 H2 q2 => ⟨l.length - (i + 1), by omega, rfl, hlt, q2⟩, fun x H2 y => ?_⟩
      obtain ⟨z, hz, sm, hr⟩ := wk.yld _ _ _ _ _ d.there kn hlt y
      exact is i z x σ' H' H2 hz q sm hr
    · have e3 : i = l.length := by omega
      subst e3
      exact .inl ⟨wk.stop _ _ _ kn (Nat.le_refl _), id σ' H' q⟩
end

theorem pair_app {α β : Type} {G : α → β → Prop} : ∀ {a : List α} {b : List β} {c : List α} {d : List β}, Paired G a b → Paired G c d → Paired G (a ++ c) (b ++ d)
  | _, _, _, _, .nil, s => s
  | _, _, _, _, .cons r t, s => .cons r (pair_app t s)
section
variable {f : Fr} {K : Hp → Prop} {H : Hp} {σ : L2.St} {wi : TI} {g : TG} {tt : TT} {te : TE} {vs : List Nat} {α β : Type} {R : Rep α} {S : Rep β} {l : List α}
/-- a turn of a comprehension: what is bound, tested, made -/
def Turn1 (f : Fr) (g : TG) (tt : TT) (te : TE) (vs : List Nat) (σ : L2.St) (H : Hp) (u : V) (P : Bool → Prop) (Φ : Hp → V → Prop) : Prop :=
  Bnd g u (wipe σ vs) H fun σ2 => wipe σ2 vs = wipe σ vs ∧ EvT f tt σ2 H P ∧ (P true → EvP f te σ2 H Φ)
theorem ev_lc [StH K] [Stb S] (k : K (hid f.F H)) (hs : EvI f wi σ H R l) (hl : l.length ≤ 100000) (J : Nat → List β → Prop) (J0 : J 0 [])
    (body : ∀ i x out f' H' u, l[i]? = some x → J i out → f'.b = f.b → Dm f' H' → re f.b H H' → K (hid f'.F H') → R (hid f'.F H') u x →
      ∃ P, Turn1 f' g tt te vs σ H' u P (Som S fun y => J (i + 1) (out ++ [y])) ∧ (P false → J (i + 1) out)) :
    EvP f (tLc wi g tt te vs) σ H (Som (zL S) fun out => J l.length out) := fun H1 e d Q q => hs H1 e d _ fun Jt Kn H2 e2 sk wk kn D hD => by
  have d2 := d.re e2
  have e02 := e.trans e2
  have nD : f.b ≠ some D := fun z => d2.new hD (d2.bag _ z)
  have k2 : K (hid f.F H2) := StH.up (known_up e02 d2) k
  refine ⟨fun i m H' => m = l.length - i ∧ i ≤ l.length ∧ ∃ out acc, J i out ∧ out.length ≤ i ∧ H' D = some (.lst acc) ∧ Paired (S (hid (D :: f.F) H')) acc out ∧ re f.b H2 (hid [D] H') ∧ Dm (f.add D) H' ∧ Kn (hid (D :: f.F) H') ∧ K (hid (D :: f.F) H'),
    ⟨l.length, by simp, Nat.zero_le _, [], [], J0, Nat.le_refl _, upd_same, .nil, ?_, ?_, ?_, ?_⟩, ?_⟩
  · have z := hid_cons_new (F := []) (o := .lst []) hD
    rw [z, hid_nil]; exact re.refl _
  · exact (d2.re (re.same (same_new hD))).add (Loc.of upd_same fun _ z => by cases z)
  · rw [hid_cons_new hD]; exact kn
  · rw [hid_cons_new hD]; exact k2
  · rintro i m H3 ⟨rfl, hi, out, acc, hJ, hlen, hacc, hp, e3, d3, kn3, k3⟩
    by_cases hlt : i < l.length
    · refine .inr ⟨wk.go _ _ _ kn3 hlt, fun H' => (∃ out acc, J (i + 1) out ∧ out.length ≤ i + 1 ∧ H' D = some (.lst acc) ∧ Paired (S (hid (D :: f.F) H')) acc out ∧ re f.b H2 (hid [D] H') ∧ Dm (f.add D) H' ∧ Kn (hid (D :: f.F) H') ∧ K (hid (D :: f.F) H')), fun H' z => ⟨l.length - (i + 1), by omega, rfl, hlt, z⟩, fun x H4 y => ?_⟩
      obtain ⟨z, hz, sm, hr⟩ := wk.yld _ _ _ _ _ d3.there kn3 hlt y
      -- the state at H4
      have step : ∀ {Ha Hb : Hp}, re f.b Ha Hb → (∃ acc, Ha D = some (.lst acc) ∧ Paired (S (hid (D :: f.F) Ha)) acc out) ∧ re f.b H2 (hid [D] Ha) ∧ Dm (f.add D) Ha ∧ Kn (hid (D :: f.F) Ha) ∧ K (hid (D :: f.F) Ha) →
          (∃ acc, Hb D = some (.lst acc) ∧ Paired (S (hid (D :: f.F) Hb)) acc out) ∧ re f.b H2 (hid [D] Hb) ∧ Dm (f.add D) Hb ∧ Kn (hid (D :: f.F) Hb) ∧ K (hid (D :: f.F) Hb) := fun {Ha Hb} ee ⟨⟨acc, a1, a2⟩, b, c, k1, k2⟩ => by
        have up : Same (hid (D :: f.F) Ha) (hid (D :: f.F) Hb) := Same.up (re.known (f := f.add D) ee c.bag)
        exact ⟨⟨acc, ee.keep nD a1, Paired.mapP a2 fun _ _ q => Stb.up up q⟩, b.trans (ee.hid fun a m => by rw [List.mem_singleton.mp m]; exact nD), Dm.re (f := f.add D) c ee, StH.up up k1, StH.up up k2⟩
      have st4 := step (re.same sm) ⟨⟨acc, hacc, hp⟩, e3, d3, kn3, k3⟩
      obtain ⟨_, b4, d4, kn4, k4⟩ := id st4
      have eH4 : re f.b H H4 := e02.trans (b4.trans (re.same hid_same))
      obtain ⟨P, tn, pf⟩ := body i z out (f.add D) H4 x hz hJ rfl d4 eH4 k4 hr
      refine tn _ fun σ2 ⟨w2, ht, he⟩ => ⟨w2, ht H4 (re.refl _) d4 _ fun c H5 e5 pc => ?_⟩
      have e5 : re f.b H4 H5 := e5
      have st5 := step e5 st4
      cases c with
      | false =>
        rw [if_neg Bool.false_ne_true]
        obtain ⟨⟨acc5, a1, a2⟩, r⟩ := st5
        exact ⟨out, acc5, pf pc, by omega, a1, a2, r⟩
      | true =>
        rw [if_pos rfl]
        refine he pc H5 e5 st5.2.2.1 _ fun v H6 e6 ⟨y6, j6, s6⟩ => ?_
        have e6 : re f.b H5 H6 := e6
        obtain ⟨⟨acc6, a1, a2⟩, b6, d6, kn6, k6⟩ := step e6 st5
        have la := Paired.length a2
        have hh : ∀ o, hid (D :: f.F) (upd H6 D o) = hid (D :: f.F) H6 := fun o => hid_upd List.mem_cons_self
        refine ⟨acc6, a1, Nat.lt_of_le_of_lt (by omega : acc6.length ≤ 100000) (by decide), out ++ [y6], acc6 ++ [v], j6, by rw [List.length_append]; simp; omega, upd_same, ?_, ?_, ?_, ?_, ?_⟩
        · rw [hh]
          exact pair_app a2 (.cons s6 .nil)
        · rw [hid_upd (List.mem_singleton.mpr rfl)]; exact b6
        · refine ⟨fun a m => ?_, d6.bag⟩
          by_cases ea : a = D
          · rw [ea]; exact Loc.of upd_same fun _ z => by cases z
          · exact (d6.there a m).at fun o q => by rw [upd_ne ea]; exact q
        · rw [hh]; exact kn6
        · rw [hh]; exact k6
    · have e4 : i = l.length := by omega
      subst e4
      refine .inl ⟨wk.stop _ _ _ kn3 (Nat.le_refl _), q _ _ (e2.trans (e3.trans (re.same hid_same))) ⟨out, hJ, D, acc, rfl, ?_, Paired.mapP hp fun _ _ z => Stb.up (Same.up (hid_sub fun a m => List.mem_cons_of_mem _ m)) z⟩⟩
      rw [hid_out (d2.new hD)]; exact hacc
/-- .. with one outcome -/
theorem ev_lcD [StH K] [Stb S] (k : K (hid f.F H)) (hs : EvI f wi σ H R l) (hl : l.length ≤ 100000) (p : α → Bool) (fn : α → β)
    (body : ∀ x f' H' u, x ∈ l → f'.b = f.b → Dm f' H' → re f.b H H' → K (hid f'.F H') → R (hid f'.F H') u x → Bnd g u (wipe σ vs) H' fun σ2 => wipe σ2 vs = wipe σ vs ∧ EvT f' tt σ2 H' (· = p x) ∧ (p x = true → EvP f' te σ2 H' (At S (fn x)))) :
    EvP f (tLc wi g tt te vs) σ H (At (zL S) ((l.filter p).map fn)) := by
  refine EvP.imp (ev_lc (S := S) k hs hl (fun i out => out = ((l.take i).filter p).map fn) rfl fun i x out f' H' u hx hJ hb d e k' hr => ?_) fun G v ⟨out, h1, h2⟩ => ?_
  · have tk : l.take (i + 1) = l.take i ++ [x] := by
      rw [List.take_add_one, hx]; rfl
    refine ⟨(· = p x), fun Q q => body x f' H' u (List.mem_of_getElem? hx) hb d e k' hr Q fun σ2 ⟨w, t, y⟩ => q σ2 ⟨w, t, fun pt => (y pt.symm).imp fun G v z => ⟨_, ?_, z⟩⟩, fun pf => ?_⟩
    · show out ++ [fn x] = ((l.take (i + 1)).filter p).map fn
      rw [tk, List.filter_append, List.map_append, hJ, List.filter_cons_of_pos pt.symm]
      rfl
    · show out = ((l.take (i + 1)).filter p).map fn
      rw [tk, List.filter_append, List.map_append, hJ, List.filter_cons_of_neg (by rw [← pf]; exact Bool.false_ne_true)]
      simp
  · rw [List.take_length] at h1
    rw [h1] at h2
    exact h2
theorem wipe_set {σ : L2.St} {vs : List Nat} {i : Nat} {x : Option V} (h : i ∈ vs) : wipe (σ.set i x) vs = wipe σ vs := by
  induction vs with
  | nil => cases h
  | cons j vs ih =>
    unfold wipe
    by_cases e : i ∈ vs
    · rw [ih e]
    · obtain rfl : i = j := (List.mem_cons.mp h).elim id fun z => absurd z e
      have key : ∀ (ws : List Nat) (τ : L2.St), (wipe (τ.set i x) ws).set i none = (wipe τ ws).set i none := by
        intro ws
        induction ws with
        | nil => intro τ; show (τ.set i x).set i none = τ.set i none; rw [List.set_set]
        | cons k ws ih2 =>
          intro τ
          unfold wipe
          by_cases z : k = i
          · subst z; rw [List.set_set, List.set_set]; exact ih2 τ
          · rw [List.set_comm _ _ z, ih2 τ, List.set_comm _ _ (Ne.symm z)]
      exact key vs σ
theorem wipe_wipe {σ : L2.St} {vs : List Nat} : wipe (wipe σ vs) vs = wipe σ vs := by
  have key : ∀ (ws : List Nat) (τ : L2.St) , (∀ j ∈ ws, j ∈ vs) → wipe (wipe τ ws) vs = wipe τ vs := by
    intro ws
    induction ws with
    | nil => intro τ _; rfl
    | cons k ws ih =>
      intro τ h
      show wipe ((wipe τ ws).set k none) vs = wipe τ vs
      rw [wipe_set (h k List.mem_cons_self), ih τ fun j m => h j (List.mem_cons_of_mem _ m)]
  exact key vs σ fun _ m => m
end
end FF
namespace FF
open PySem PySem.Spec PyProof.Rows L2
def topS (i : Nat) : Stmt := PySem.Challenge.pw_factflows_k09_whole_no_lesser_program.main.body.getD i (.Pass ⟨0, 0, 0, 0⟩)
def inCls (s : Stmt) (j : Nat) : Stmt := (C8.clsBody s).getD j (.Pass ⟨0, 0, 0, 0⟩)
/-- names of the module, of the built-ins -/
structure Txt (K : PySem.W.Frag) (mg : Str → Option Value) (C : Addr) : Prop where
  m_isinstance : mg "isinstance" = none
  m_int : mg "int" = none
  m_bool : mg "bool" = none
  m_str : mg "str" = none
  m_list : mg "list" = none
  m_tuple : mg "tuple" = none
  m_len : mg "len" = none
  m_all : mg "all" = none
  m_any : mg "any" = none
  m_min : mg "min" = none
  m_max : mg "max" = none
  m_sorted : mg "sorted" = none
  m_set : mg "set" = none
  m_dict : mg "dict" = none
  m_range : mg "range" = none
  m_zip : mg "zip" = none
  m_enumerate : mg "enumerate" = none
  m_abs : mg "abs" = none
  g_MOST_PLACES : ∃ u, mg "MOST_PLACES" = some u ∧ RelV (.int 2000) u
  g_MOST_LETTERS : ∃ u, mg "MOST_LETTERS" = some u ∧ RelV (.int 8) u
  g_LETTERS : ∃ u, mg "LETTERS" = some u ∧ RelV (.str "abcdefghijklmnopqrstuvwxyz") u
  g_Program : ∃ u, mg "Program" = some u ∧ RelV (.ref C) u
  cl : Cls K C
  nP : NoAttr K C "its_places"
  nB : NoAttr K C "its_begins"
  nE : NoAttr K C "its_edges"
  isC : C8.InsC K C

section
variable {f : Fr} {σ : L2.St} {H : Hp} {i j : Int} {X : Cx}
theorem ru_I0 {g : Int → Int → V} {Φ : Hp → V → Prop} (k : ∀ G, Φ G (g i j)) : Ru2 f (rI0 g) H (At zI i) (At zI j) Φ := fun H1 u w e d p p' Q q => ⟨i, j, p, p', q _ H1 (re.refl _) (k _)⟩
theorem ru_I {C : Int → Int → Prop} {g : Int → Int → V} {Φ : Hp → V → Prop} (hc : C i j) (k : ∀ G, Φ G (g i j)) : Ru2 f (rI C g) H (At zI i) (At zI j) Φ := fun H1 u w e d p p' Q q => ⟨i, j, p, p', hc, q _ H1 (re.refl _) (k _)⟩
theorem ru_add : Ru2 f (rI0 fun i j => .int (i + j)) H (At zI i) (At zI j) (At zI (i + j)) := ru_I0 fun _ => rfl
theorem ru_sub : Ru2 f (rI0 fun i j => .int (i - j)) H (At zI i) (At zI j) (At zI (i - j)) := ru_I0 fun _ => rfl
theorem ru_lt : Ru2 f (rI0 fun i j => .bl (decide (i < j))) H (At zI i) (At zI j) (At zB (decide (i < j))) := ru_I0 fun _ => rfl
theorem ru_le : Ru2 f (rI0 fun i j => .bl (decide (i ≤ j))) H (At zI i) (At zI j) (At zB (decide (i ≤ j))) := ru_I0 fun _ => rfl
/-- a call of a built-in on one thing -/
theorem scal_ii (i j : Int) : scal (.int i) (.int j) = true := rfl
theorem ru_eqI : Ru2 f rEq H (At zI i) (At zI j) (At zB (decide (i = j))) := fun H1 u w e d p p' Q q => by
  obtain rfl : u = .int i := p
  obtain rfl : w = .int j := p'
  refine ⟨rfl, q _ H1 (re.refl _) ?_⟩
  show V.bl _ = V.bl _
  congr 1
  exact decide_eq_decide.mpr ⟨fun h => by injection h, fun h => by rw [h]⟩
theorem ru_eqS {x y : Str} : Ru2 f rEq H (At zS x) (At zS y) (At zB (decide (x = y))) := fun H1 u w e d p p' Q q => by
  obtain rfl : u = .str x := p
  obtain rfl : w = .str y := p'
  refine ⟨rfl, q _ H1 (re.refl _) ?_⟩
  show V.bl _ = V.bl _
  congr 1
  exact decide_eq_decide.mpr ⟨fun h => by injection h, fun h => by rw [h]⟩
theorem ru_neI : Ru2 f rNe H (At zI i) (At zI j) (At zB (!decide (i = j))) := fun H1 u w e d p p' Q q => by
  obtain rfl : u = .int i := p
  obtain rfl : w = .int j := p'
  refine ⟨rfl, q _ H1 (re.refl _) ?_⟩
  show V.bl _ = V.bl _
  congr 2
  exact decide_eq_decide.mpr ⟨fun h => by injection h, fun h => by rw [h]⟩
theorem ru_neS {x y : Str} : Ru2 f rNe H (At zS x) (At zS y) (At zB (!decide (x = y))) := fun H1 u w e d p p' Q q => by
  obtain rfl : u = .str x := p
  obtain rfl : w = .str y := p'
  refine ⟨rfl, q _ H1 (re.refl _) ?_⟩
  show V.bl _ = V.bl _
  congr 2
  exact decide_eq_decide.mpr ⟨fun h => by injection h, fun h => by rw [h]⟩
/-- a chain of comparisons -/
theorem ev_chain {ta tb tc : TE} {r r' : R2} {Φ1 Φ2 Φ3 : Hp → V → Prop} [StP Φ1] [StP Φ2] {a b : Bool} (h1 : EvP f ta σ H Φ1) (h2 : EvP f tb σ H Φ2) (hr : Ru2 f r H Φ1 Φ2 (At zB a)) (h3 : EvP f tc σ H Φ3) (hr' : Ru2 f r' H Φ2 Φ3 (At zB b)) :
    EvP f (tChain r r' ta tb tc) σ H (At zB (a && b)) := fun H1 e d Q q => h1 H1 e d _ fun u H2 e2 p => h2 H2 (e.trans e2) (d.re e2) _ fun w H3 e3 p2 => by
  have d3 := (d.re e2).re e3
  have e03 := (e.trans e2).trans e3
  refine hr H3 u w e03 d3 (StP.up (known_up e3 d3) p) p2 _ fun v H4 e4 pv => ⟨a, pv, ?_⟩
  have d4 := d3.re e4
  cases a with
  | true =>
    rw [if_pos rfl]
    exact h3 H4 (e03.trans e4) d4 _ fun z H5 e5 p5 => hr' H5 w z ((e03.trans e4).trans e5) (d4.re e5) (StP.up (known_up (e4.trans e5) (d4.re e5)) p2) p5 Q fun v' H6 e6 p6 => q v' H6 ((((e2.trans e3).trans e4).trans e5).trans e6) p6
  | false =>
    rw [if_neg Bool.false_ne_true]
    exact q _ H4 ((e2.trans e3).trans e4) rfl
end
end FF

namespace FF
open PySem PySem.Spec PyProof.Rows L2
theorem spP_len {ι : Type} {Arg : ι → Hp → List V → Prop} {Res : ι → Hp → V → Prop} {n : Nat} (h : ∀ x G vs, Arg x G vs → vs.length = n) : ∀ vs H Q E, SpP Arg Res vs H Q E → vs.length = n :=
  fun vs H Q E ⟨x, F, _, a, _⟩ => h x _ vs a
theorem spB_len {ι : Type} {Arg : ι → Hp → List V → Prop} {Res : ι → Hp → V → Prop} {n : Nat} (h : ∀ x G vs, Arg x G vs → vs.length = n) : ∀ vs H Q E, SpB Arg Res vs H Q E → vs.length = n + 1 :=
  fun vs H Q E ⟨x, F, b, c, rest, e, _, _, _, a, _⟩ => by rw [e, List.length_cons, h x _ rest a]
theorem al0 {G : Hp} {vs : List V} (h : ANil G vs) : vs.length = 0 := by
  obtain rfl : vs = [] := h
  rfl
theorem alS {Φ : Hp → V → Prop} {Ψ : Hp → List V → Prop} {G : Hp} {vs : List V} {n : Nat} (h : ACons Φ Ψ G vs) (k : ∀ vs, Ψ G vs → vs.length = n) : vs.length = n + 1 := by
  obtain ⟨v, r, rfl, _, z⟩ := h
  rw [List.length_cons, k r z]
theorem Now.pure {F : List Addr} {L : List Addr} {H0 H : Hp} {K : Hp → Prop} (n : Now ⟨F, none⟩ L H0 K H) : Same H0 H := n.out.pure
theorem dmP {F : List Addr} {H : Hp} (h : ∀ a ∈ F, Loc H a) : Dm ⟨F, none⟩ H := ⟨h, fun a z => nomatch z⟩
theorem dmB {F : List Addr} {H : Hp} {b : Addr} (h : ∀ a ∈ F, Loc H a) (hb : b ∈ F) : Dm ⟨F, some b⟩ H := ⟨h, fun a z => by
  cases z
  exact hb⟩
section
variable {f : Fr} {σ : L2.St} {H : Hp} {Kf : PySem.W.Frag} {X : Cx}
theorem ra_isi {Φ : Hp → V → Prop} {T : String} {b : Bool} {T' : String} (ht : ∀ G H v, Same G H → Φ G v → TyX Kf H v (.type T')) (hk : kitB T' T = some b) : RuA f (rIsi Kf) H (ACons Φ (ACons (IsV (.ty T)) ANil)) (At zB b) := fun H1 vs e d ⟨v, r, e1, p, w, r2, e2, p2, e3⟩ Q q => by
  obtain rfl : r2 = [] := e3
  obtain rfl : w = .ty T := p2
  subst e2
  subst e1
  exact ⟨v, _, _, _, b, rfl, .ty T, ht _ _ _ hid_same p, kit_ty hk, q _ H1 (re.refl _) rfl⟩
theorem ev_ty {T : String} : EvP f (tC (.ty T)) σ H (IsV (.ty T)) := ev_c fun _ => rfl
end
end FF
namespace FF
open PySem PySem.Spec PyProof.Rows L2

/-- what dictSet does, by the layer's DPut -/
theorem dict_put {X : Cx} {pins : List (Addr × Obj)} {τ : L2.St} {G G' : Hp} {z : Shared} {Er : Value → Shared → Prop} {D : Addr} {y v : V} {yu vu : Value} {Q : Unit → Shared → Prop} (room : X.A.units + 1 < cLine) (J : Inv X pins τ G z) (put : DPut G D y v G')
    (ry : RelV y yu) (rv : RelV v vu) (fin : ∀ z', Inv X pins τ G' z' → Q () z') : wpAny (model X.prog X.w) X.A (dictSet D yu vu) Q Er z := by
  rcases put with ⟨l, k, e, rfl, few, rfl⟩ | ⟨l, k, t, e, rfl, et, few, rfl⟩
  · obtain ⟨big, notS, us, rl, at_⟩ := dk_of J.hok e
    have few' : (putK l k v).length ≤ sizeLine := Nat.le_trans (length_putK l k v) few
    have bigU : us.length ≤ sizeLine := rl.length ▸ big
    refine wpAny_dictSet_pairs (hsz := bigU) (kV_is ry) at_ fun g at' but => fin _ ?_
    obtain ⟨q, es, ep, hq, r⟩ := at'
    exact d_write J (by rw [e]; trivial) but ⟨q, hq⟩ (dk_new few' notS (rl.put k rv) ⟨q, es, ep, hq, r⟩)
  · obtain rfl : yu = Value.ref t := ry
    obtain ⟨big, notS, us, rl, at_⟩ := dt_of J.hok e
    have few' : (putK l k v).length ≤ sizeLine := Nat.le_trans (length_putK l k v) few
    have bigU : us.length ≤ sizeLine := Paired.length rl ▸ big
    refine wpAny_dictSet_heap (hsz := bigU) (knd := tupleKind (mixKind X.prog X.w)) (show X.A.units < cLine by omega) (key_of J.hok et) at_ fun g at' but => fin _ ?_
    obtain ⟨q, es, ep, hq, r2, r3, r4, _, r5⟩ := at'
    refine d_write J (by rw [e]; trivial) but ⟨q, hq⟩ ⟨few', notS, _, (rl.put k et rv).keeps fun c ys ec => ?_, q, es, ep, hq, r2, r3, r4, r5⟩
    rw [upd_ne (ne_of ec e fun z => nomatch z)]
    exact ec

/-- {k: v for target in iter if ..}; o0: the empty dict, as one with keys of either kind -/
def tDcG (o0 : HO) (wi : TI) (g : TG) (tt : TT) (tk tv : TE) (vs : List Nat) : TE := fun σ H Q => wi σ H fun J H1 => ∀ D, H1 D = none → ∃ W : Nat → Nat → Hp → Prop, (∃ m, W 0 m (upd H1 D o0)) ∧ ∀ i m H, W i m H →
  (J.stop i H ∧ Q (.ref D) H) ∨ (J.go i H ∧ ∃ Nx : Hp → Prop, (∀ H', Nx H' → ∃ m', m' < m ∧ W (i + 1) m' H') ∧ ∀ x H', J.yld i H x H' → g x (wipe σ vs) H' fun σ2 H2 => wipe σ2 vs = wipe σ vs ∧ tt σ2 H2 fun b H3 =>
    if b = true then tk σ2 H3 fun y H4 => tv σ2 H4 fun z H5 => ∃ H6, DPut H5 D y z H6 ∧ Nx H6 else Nx H3)
def Emp (o : HO) : Prop := o = .dK [] ∨ o = .dT []
theorem emp_ok {P : Program} {w : World} {H : Hp} {o : HO} (he : Emp o) (h : Heap) (big : sysModules < h.objs.size) : ObjOk P w H (h.push { cls := .type "dict", data := .dict #[] }) h.objs.size o := by
  rcases he with rfl | rfl
  · exact dk_empty h big
  · exact dt_empty h big
section
variable {X : Cx} {o0 : HO}
theorem dcG_core {pins : List (Addr × Obj)} {z : Shared} {σ : L2.St} {G : Hp} {Q : VK} {ke ve tg iter : Expr} {ifs : List Expr} {scope : Scope} {own : List (Str × Nat)} {pos pos' : Pos} {wi : TI} {g : TG} {tt : TT} {tk tv : TE} {use : Option (Value → Sem Unit)} {Qf : Value → Shared → Prop}
    (he0 : Emp o0) (room : X.A.units + 1 < cLine) (calm : X.calm = true) (ndN : X.N.Nodup) (J : Inv X pins σ G z) (pI : PI X tg iter wi) (blk : BlkOk X.N X.env.scope scope own)
    (pG : ∀ (s : Shared) (H : Hp) (C : Addr) (cl : List (Str × Addr)) (fp : List Addr), PG (X.blk s H scope (compEnvC scope cl C X.env) fp) tg g) (pT : ∀ (s : Shared) (H : Hp) (C : Addr) (cl : List (Str × Addr)) (fp : List Addr), PTs (X.blk s H scope (compEnvC scope cl C X.env) fp) ifs tt)
    (pK : ∀ (s : Shared) (H : Hp) (C : Addr) (cl : List (Str × Addr)) (fp : List Addr), PE (X.blk s H scope (compEnvC scope cl C X.env) fp) ke tk)
    (pV : ∀ (s : Shared) (H : Hp) (C : Addr) (cl : List (Str × Addr)) (fp : List Addr), PE (X.blk s H scope (compEnvC scope cl C X.env) fp) ve tv) (unf : ∀ x, foldedSetIterable iter X.env x = pure x)
    (want : tDcG o0 wi g tt tk tv (own.map (·.2)) σ G Q)
    (fin : ∀ D C z' m G', Inv X pins σ G' z' → Q (.ref D) G' → z'.heap.Ns C m → FpOk X pins G' C → compPost (model X.prog X.w) X.A X.xe use Qf (.ref D) C (.ok .next) z') :
    wpAny (model X.prog X.w) X.A (comprehension (.DictComp ke ve [⟨tg, iter, ifs, 0⟩] scope pos) scope X.env pos' newDict false (eval iter X.env) use) Qf X.xe z := by
  have cap : ∀ y ∈ scope.names, y.2 = .free → ∃ c, X.env.cells.lookup y.1 = some c := fun y hy e => (blk.free y hy e).elim (fun k => J.ok.has _ (.inl k)) fun k => J.ok.has _ (.inr k)
  refine wpAny_comprehension_free (use := use) rfl unf (closure_ok cap) blk.kind (fun y hy e => (blk.uniq y hy).trans (by rw [e])) (thn (pI.run pins z σ G _ J want) fun xv z1 hx => thn hx fun itv z2 h2 => ?_)
  obtain ⟨it, fp, tn, Jt, G2, rfl, J2, Tn, st2, f2, q⟩ := h2
  refine wpAny_newObj_type (newEnv_comp ?_)
  obtain ⟨D, hD⟩ : ∃ D, z2.heap.objs.size = D := ⟨_, rfl⟩
  have freeD : G2 D = none := J2.hok.fresh (Nat.le_of_eq hD)
  obtain ⟨W, ⟨m0, w0⟩, turn⟩ := q D freeD
  obtain ⟨z3, hz3⟩ : ∃ z3 : Shared, ({ z2 with heap := z2.heap.push { cls := .type "dict", data := .dict #[] } } : Shared) = z3 := ⟨_, rfl⟩
  have hp3 : z3.heap = z2.heap.push { cls := .type "dict", data := .dict #[] } := by rw [← hz3]
  have J3 : Inv X pins σ (upd G2 D o0) z3 := by
    rw [← hz3]
    refine J2.laid (t' := z2.toks) (fun b o e => Heap.get?_push_of_some _ e) (Nat.le_of_eq hD) ?_
    rw [← hD]
    exact emp_ok he0 z2.heap J2.big
  have small : ∀ b ∈ fp, b < z2.heap.objs.size := fun b hb => let ⟨o, e, _⟩ := Tn.obj _ _ st2 b hb; Heap.lt_size e
  have f3 : ∀ b ∈ fp, FpOk X pins (upd G2 D o0) b ∧ b < z3.heap.objs.size := fun b hb => by
    refine ⟨⟨?_, (f2 b hb).2⟩, by rw [hp3, Heap.size_push]; exact Nat.lt_succ_of_lt (small b hb)⟩
    rw [upd_ne (hD ▸ Nat.ne_of_lt (small b hb))]
    exact (f2 b hb).1
  have st3 : tn 0 z3.heap := Tn.keep _ _ _ st2 fun b _ o e => by rw [hp3]; exact Heap.get?_push_of_some _ e
  have J4 := block_start J3 blk ndN f3
  have g3 := pG z3 (upd G2 D o0) z3.heap.objs.size (cellsFrom (z3.heap.objs.size + 1) scope.names (cloFrom X.env.cells scope.names [])) fp
  have t3 := pT z3 (upd G2 D o0) z3.heap.objs.size (cellsFrom (z3.heap.objs.size + 1) scope.names (cloFrom X.env.cells scope.names [])) fp
  have k3 := pK z3 (upd G2 D o0) z3.heap.objs.size (cellsFrom (z3.heap.objs.size + 1) scope.names (cloFrom X.env.cells scope.names [])) fp
  have v3 := pV z3 (upd G2 D o0) z3.heap.objs.size (cellsFrom (z3.heap.objs.size + 1) scope.names (cloFrom X.env.cells scope.names [])) fp
  obtain ⟨z4, hz4⟩ : ∃ z4 : Shared, ({ z3 with heap := pushCells (z3.heap.push { cls := .type "dict", data := .dict #[] }) scope.names } : Shared) = z4 := ⟨_, rfl⟩
  obtain ⟨ce, hce⟩ : ∃ ce, compEnvC scope (cellsFrom (z3.heap.objs.size + 1) scope.names (cloFrom X.env.cells scope.names [])) z3.heap.objs.size X.env = ce := ⟨_, rfl⟩
  rw [hz4] at J4
  rw [hce] at J4 g3 t3 k3 v3
  rw [hD] at *
  rw [hz3]
  show codeAny _ _ (.compStart (.DictComp ke ve [⟨tg, iter, ifs, 0⟩] scope pos) 0 (.ref it) (.ref D) (compEnvC scope (cellsFrom (z3.heap.objs.size + 1) scope.names (cloFrom X.env.cells scope.names [])) z3.heap.objs.size X.env)) (compPost (model X.prog X.w) X.A X.xe use Qf (.ref D) z3.heap.objs.size)
    ({ z3 with heap := pushCells (z3.heap.push { cls := .type "dict", data := .dict #[] }) scope.names } : Shared)
  rw [hz4, hce]
  have cL : ce.locals = z3.heap.objs.size := by rw [← hce]; rfl
  have none3 : ∀ b ∈ fp, (upd G2 D o0) b = none := fun b hb => (f3 b hb).1.1
  have st4 : tn 0 z4.heap := Tn.keep _ _ _ st3 fun b _ o e => by rw [← hz4]; exact pushCells_keeps _ _ _ _ (Heap.get?_push_of_some _ e)
  have fpB : ∀ {τ : L2.St} {G' : Hp} {z' : Shared}, Inv (X.blk z3 (upd G2 D o0) scope ce fp) [] τ G' z' → (∀ b ∈ fp, G' b = none) → ∀ b ∈ fp, FpOk (X.blk z3 (upd G2 D o0) scope ce fp) [] G' b := fun {τ G' z'} J' hn b hb =>
    ⟨hn b hb, (J'.ok.exf b hb).1, J'.ok.exfs b hb, .inl hb, fun x c e => (J'.ok.exf b hb).2 x c e, fun p hp => absurd (show p ∈ ([] : List (Addr × Obj)) ++ [] from hp) (by simp)⟩
  have loop : codeAny (model X.prog X.w) X.A (.compLoop (.DictComp ke ve [⟨tg, iter, ifs, 0⟩] scope pos) 0 (.ref it) (.ref D) ce) (compPost (model X.prog X.w) X.A X.xe use Qf (.ref D) z3.heap.objs.size) z4 := by
    refine compLoop_anyD (fun n z' => ∃ i G', Inv (X.blk z3 (upd G2 D o0) scope ce fp) [] (wipe σ (own.map (·.2))) G' z' ∧ tn i z'.heap ∧ (∀ b ∈ fp, G' b = none) ∧ W i n G') ?_ m0 ⟨0, _, J4, st4, none3, w0⟩
    rintro n z5 ⟨i, G5, J5, st5, n5, w5⟩
    rcases turn i n G5 w5 with ⟨stop, qq⟩ | ⟨go, Nx, less, step⟩
    · refine thnF (Tn.done (X.blk z3 (upd G2 D o0) scope ce fp) rfl rfl rfl calm i [] z5 _ G5 (fun _ _ => False) J5 (fpB J5 n5) st5 stop) fun r z6 ⟨hr, J6⟩ => ?_
      subst hr
      have J7 : Inv X pins σ G5 z6 := J3.call' (ch := fp) J6.os J6.base J6.hok J6.bare fun b hb => let y := (f3 b hb).1.2; ⟨y.2.2.1, y.1, y.2.2.2.1, y.2.2.2.2⟩
      obtain ⟨m, hn, _⟩ := J6.loc
      have fr := J6.free
      rw [show (X.blk z3 (upd G2 D o0) scope ce fp).env.locals = z3.heap.objs.size from cL] at fr hn
      exact fin D z3.heap.objs.size z6 m G5 J7 qq hn (J3.fpOk (Nat.le_refl _) fr)
    · refine thnF (Tn.item (X.blk z3 (upd G2 D o0) scope ce fp) rfl rfl rfl calm i [] z5 _ G5 (fun _ _ => False) J5 (fpB J5 n5) st5 go) fun r z6 ⟨u, hr, h6⟩ => ?_
      subst hr
      refine thnF h6 fun _ z7 ⟨x, G7, J7, r7, y7, st7, n7⟩ => ?_
      have back : ∀ {z' : Shared} {G' : Hp} {τ : L2.St}, wipe τ (own.map (·.2)) = wipe σ (own.map (·.2)) → Inv (X.blk z3 (upd G2 D o0) scope ce fp) ([] ++ pinsAt fp z7.heap) τ G' z' → Nx G' →
          ∃ m, m < n ∧ ∃ i G', Inv (X.blk z3 (upd G2 D o0) scope ce fp) [] (wipe σ (own.map (·.2))) G' z' ∧ tn i z'.heap ∧ (∀ b ∈ fp, G' b = none) ∧ W i m G' := fun {z' G' τ} hw J' nx => by
        obtain ⟨m', hm, w'⟩ := less G' nx
        have pinned : ∀ b ∈ fp, ∀ o, z7.heap.get? b = some o → z'.heap.get? b = some o ∧ G' b = none := fun b hb o e =>
          let y := J'.pin (b, o) (List.mem_append_right _ (List.mem_append_right _ (mem_pinsAt hb e)))
          ⟨y.1, y.2.1⟩
        refine ⟨m', hm, i + 1, G', (J'.unpinned (pins := [])).weak (by rw [← hw, wipe_length]) (fun j v e => ?_), Tn.keep _ _ _ st7 fun b hb o e => (pinned b hb o e).1, fun b hb => ?_, w'⟩
        · rw [← hw] at e
          exact (wipe_some e).1
        · obtain ⟨o, e, _⟩ := Tn.obj _ _ st7 b hb
          exact (pinned b hb o e).2
      refine thnF (g3.run _ z7 _ G7 x u _ (J7.pinned (fpB J7 n7) (Tn.obj _ _ st7)) r7 (step x G7 y7)) fun _ z8 ⟨τ, G8, J8, hw8, q8⟩ => ?_
      refine thnF (t3.run _ z8 τ G8 _ J8 q8) fun b z9 ⟨G9, J9, q9⟩ => ?_
      cases b with
      | false =>
        rw [if_neg Bool.false_ne_true] at q9 ⊢
        exact back hw8 J9 q9
      | true =>
        rw [if_pos rfl] at q9 ⊢
        refine thnF (k3.run _ z9 τ G9 _ J9 q9) fun y z10 ⟨yk, G10, J10, r10, q10⟩ => thnF (v3.run _ z10 τ G10 _ J10 q10) fun y2 z11 ⟨yv, G11, J11, r11, G12, put, nx⟩ => ?_
        exact dict_put (X := X.blk z3 (upd G2 D o0) scope ce fp) room J11 put r10 r11 fun z12 J12 => back hw8 J12 nx
  exact codeAny_compStart_dict loop (Tn.self X.A 0 _ _ _ st4 loop)
theorem pe_dcG {ke ve tg iter : Expr} {ifs : List Expr} {scope : Scope} {own : List (Str × Nat)} {pos : Pos} {wi : TI} {g : TG} {tt : TT} {tk tv : TE} (he0 : Emp o0) (room : X.A.units + 1 < cLine) (calm : X.calm = true) (ndN : X.N.Nodup) (pI : PI X tg iter wi) (blk : BlkOk X.N X.env.scope scope own)
    (pG : ∀ (s : Shared) (H : Hp) (C : Addr) (cl : List (Str × Addr)) (fp : List Addr), PG (X.blk s H scope (compEnvC scope cl C X.env) fp) tg g) (pT : ∀ (s : Shared) (H : Hp) (C : Addr) (cl : List (Str × Addr)) (fp : List Addr), PTs (X.blk s H scope (compEnvC scope cl C X.env) fp) ifs tt)
    (pK : ∀ (s : Shared) (H : Hp) (C : Addr) (cl : List (Str × Addr)) (fp : List Addr), PE (X.blk s H scope (compEnvC scope cl C X.env) fp) ke tk)
    (pV : ∀ (s : Shared) (H : Hp) (C : Addr) (cl : List (Str × Addr)) (fp : List Addr), PE (X.blk s H scope (compEnvC scope cl C X.env) fp) ve tv) (unf : ∀ x, foldedSetIterable iter X.env x = pure x := by intro _; rfl) :
    PE X (.DictComp ke ve [⟨tg, iter, ifs, 0⟩] scope pos) (tDcG o0 wi g tt tk tv (own.map (·.2))) := by
  refine ⟨fun pins z σ G Q J want => ?_⟩
  rw [arm_eval_DictComp]
  refine dcG_core he0 room calm ndN J pI blk pG pT pK pV unf want fun D C z' m G' J' q hn fp => ⟨m, hn, fun g' but => ⟨.ref D, G', J'.turned (t' := z'.toks) (fun b o hb e => (but.2 b hb).trans e) fp.1 fp.2.1 fp.2.2.2.1 fp.2.2.2.2.1 fp.2.2.2.2.2, rfl, q⟩⟩
/-- name = {..} on one line, the name a local -/
theorem ps_setDcG {i : Nat} {y : Str} {py : Pos} {ke ve tg iter : Expr} {ifs : List Expr} {scope : Scope} {own : List (Str × Nat)} {pos spos : Pos} {wi : TI} {g : TG} {tt : TT} {tk tv : TE} (he0 : Emp o0) (room : X.A.units + 1 < cLine) (calm : X.calm = true) (ndN : X.N.Nodup)
    (hy : X.N[i]? = some y) (loc : X.env.scope.names.lookup y = some .local) (sw : swapsWith (.DictComp ke ve [⟨tg, iter, ifs, 0⟩] scope pos) (some (.Name y py)) spos.line X.env = pure true) (pI : PI X tg iter wi) (blk : BlkOk X.N X.env.scope scope own)
    (pG : ∀ (s : Shared) (H : Hp) (C : Addr) (cl : List (Str × Addr)) (fp : List Addr), PG (X.blk s H scope (compEnvC scope cl C X.env) fp) tg g) (pT : ∀ (s : Shared) (H : Hp) (C : Addr) (cl : List (Str × Addr)) (fp : List Addr), PTs (X.blk s H scope (compEnvC scope cl C X.env) fp) ifs tt)
    (pK : ∀ (s : Shared) (H : Hp) (C : Addr) (cl : List (Str × Addr)) (fp : List Addr), PE (X.blk s H scope (compEnvC scope cl C X.env) fp) ke tk)
    (pV : ∀ (s : Shared) (H : Hp) (C : Addr) (cl : List (Str × Addr)) (fp : List Addr), PE (X.blk s H scope (compEnvC scope cl C X.env) fp) ve tv) (unf : ∀ x, foldedSetIterable iter X.env x = pure x := by intro _; rfl) :
    PS X (.Assign [.Name y py] (.DictComp ke ve [⟨tg, iter, ifs, 0⟩] scope pos) spos) (tAsg (tDcG o0 wi g tt tk tv (own.map (·.2))) (gName i)) := by
  refine ⟨fun pins z σ G D J want => ?_⟩
  rw [exec_Assign_Name_used _ _ _ _ sw]
  refine wpAny_bind (wpAny_standAt (wpAny_bind ?_))
  show wpAny _ X.A (do let _ ← comprehension (.DictComp ke ve [⟨tg, iter, ifs, 0⟩] scope pos) scope X.env (firstIterPos [⟨tg, iter, ifs, 0⟩] pos) newDict false (eval iter X.env) (some (assign (.Name y py) X.env))) _ _ z
  have want : tDcG o0 wi g tt tk tv (own.map (·.2)) σ G (fun x G1 => gName i x σ G1 D.nx) := want
  refine wpAny_bind (thn (dcG_core (Qf := fun _ z' => SP X pins D .next z') he0 room calm ndN J pI blk pG pT pK pV unf want fun L C z' m G' J' q hn fp => ?_) fun _ z' hq => wpAny_pure (wpAny_pure hq))
  show wpAny _ _ (assign (.Name y py) X.env (.ref L)) _ _ _
  refine wpAny_assign_Name (store_ok2 (v := V.ref L) J' ndN hy (.inl loc) rfl (fun z2 J2 ⟨a, but, ha⟩ => ?_) (.inr loc))
  have apart : C ≠ a := ha.elim (fun e => e ▸ fp.2.1) fun e c => fp.2.2.2.2.1 y a e c.symm
  exact ⟨m, hn.sameBut but apart, fun g3 but3 => ⟨_, G', J2.turned (t' := z2.toks) (fun b o hb e => (but3.2 b hb).trans e) fp.1 fp.2.1 fp.2.2.2.1 fp.2.2.2.2.1 fp.2.2.2.2.2, q⟩⟩
end

theorem sw_trueD {ke ve : Expr} {gs : List Comprehension} {scope : Scope} {pos py : Pos} {y : Str} {l : Nat} {env : Env} (hk : env.scope.kind = .function) (hy : env.scope.names.lookup y = some .local) (hl : (py.line == pos.line) = true)
    (ha : (scope.names.any fun (n, k) => n == y && (k == .local || k == .cell)) = false) : swapsWith (.DictComp ke ve gs scope pos) (some (.Name y py)) l env = pure true := by
  have k1 : env.kindOf y = some .local := hy
  have k2 : env.blockKind = .function := by
    unfold Env.blockKind
    rw [hk]
    rfl
  unfold swapsWith
  simp only [k2, k1, ha, Expr.pos, hl]
  rfl

/-- te makes a new dict that holds l; the values are known beside it -/
def EvD {κ β γ : Type} (f : Fr) (te : TE) (σ : L2.St) (H : Hp) (mk : List (κ × V) → HO) (enc : β → κ) (S : Rep γ) (l : List (β × γ)) : Prop := ∀ H1, re f.b H H1 → Dm f H1 → ∀ Q : VK,
  (∀ D H2 kvs, H1 D = none → re f.b H1 H2 → H2 D = some (mk kvs) → Paired (fun (kv : κ × V) (p : β × γ) => kv.1 = enc p.1 ∧ S (hid (D :: f.F) H2) kv.2 p.2) kvs l → Q (.ref D) H2) → te σ H1 Q
theorem EvD.evP {κ β γ : Type} {f : Fr} {te : TE} {σ : L2.St} {H : Hp} {mk : List (κ × V) → HO} {enc : β → κ} {S : Rep γ} [Stb S] {l : List (β × γ)} (h : EvD f te σ H mk enc S l) : EvP f te σ H (At (zD mk enc S) l) := fun H1 e d Q q =>
  h H1 e d Q fun D H2 kvs hD e2 h2 hp => q _ H2 e2 ⟨D, kvs, rfl, .inl (by rw [hid_out (d.new hD)]; exact h2), Paired.mapP hp fun _ _ z => ⟨z.1, Stb.up (Same.up (hid_sub fun a m => List.mem_cons_of_mem _ m)) z.2⟩⟩
/-- how a key is put -/
structure Put {κ β : Type} [DecidableEq κ] (mk : List (κ × V) → HO) (enc : β → κ) (KR : Rep β) : Prop where
  put : ∀ (F : List Addr) (H : Hp) (D : Addr) (y z : V) (kvs : List (κ × V)) (b : β), KR (hid F H) y b → H D = some (mk kvs) → kvs.length < sizeLine → DPut H D y z (upd H D (mk (putK kvs (enc b) z)))
  inj : ∀ a b, enc a = enc b → a = b
theorem put_I : Put HO.dK kI zI where
  put := fun F H D y z kvs b hy hD hl => by
    obtain rfl : y = .int b := hy
    exact DPut.k (k := kI b) hD hl
  inj := fun a b e => by
    injection e
theorem put_P : Put HO.dT kP (zT2 zI zI) where
  put := fun F H D y z kvs b hy hD hl => by
    obtain ⟨a, u, w, rfl, ha, hu, hw⟩ := hy
    obtain rfl : u = .int b.1 := hu
    obtain rfl : w = .int b.2 := hw
    exact DPut.t (k := kP b) hD (hid_same _ _ ha) hl
  inj := fun a b e => by
    injection e with e1 e2
    injection e2 with e2
    injection e1 with e1
    injection e2 with e2
    exact Prod.ext e1 e2
theorem valV_none {κ : Type} [DecidableEq κ] {kvs : List (κ × V)} {k : κ} (h : ∀ p ∈ kvs, p.1 ≠ k) : valV kvs k = none := by
  unfold valV
  rw [List.find?_eq_none.mpr fun p hp => by simpa using h p hp]
  rfl
section
variable {κ β γ α : Type} [DecidableEq κ] {f : Fr} {K : Hp → Prop} {H : Hp} {σ : L2.St} {wi : TI} {g : TG} {tt : TT} {tk tv : TE} {vs : List Nat} {R : Rep α} {l : List α} {mk : List (κ × V) → HO} {enc : β → κ} {KR : Rep β} {S : Rep γ}
theorem dict_no [DMk mk] (kvs : List (κ × V)) : ∀ xs, mk kvs ≠ .tup xs := fun xs z => by
  have h := DMk.dict (mk := mk) kvs
  rw [z] at h
  exact h
theorem ed_dc [DMk mk] [StH K] [Stb S] [Stb KR] (pu : Put mk enc KR) (k : K (hid f.F H)) (hs : EvI f wi σ H R l) (hl : l.length ≤ 100000) (p : α → Bool) (ky : α → β) (fn : α → γ) (nd : ((l.filter p).map ky).Nodup)
    (body : ∀ x f' H' u, x ∈ l → f'.b = f.b → Dm f' H' → re f.b H H' → K (hid f'.F H') → R (hid f'.F H') u x → Bnd g u (wipe σ vs) H' fun σ2 => wipe σ2 vs = wipe σ vs ∧ EvT f' tt σ2 H' (· = p x) ∧
      (p x = true → EvP f' tk σ2 H' (At KR (ky x)) ∧ EvP f' tv σ2 H' (At S (fn x)))) :
    EvD f (tDcG (mk []) wi g tt tk tv vs) σ H mk enc S ((l.filter p).map fun x => (ky x, fn x)) := fun H1 e d Q q => hs H1 e d _ fun Jt Kn H2 e2 sk wk kn D hD => by
  have d2 := d.re e2
  have e02 := e.trans e2
  have nD : f.b ≠ some D := fun z => d2.new hD (d2.bag _ z)
  have k2 : K (hid f.F H2) := StH.up (known_up e02 d2) k
  -- what holds behind the first i things
  let I : Nat → Hp → Prop := fun i H' => (∃ kvs, H' D = some (mk kvs) ∧ Paired (fun (kv : κ × V) (p : β × γ) => kv.1 = enc p.1 ∧ S (hid (D :: f.F) H') kv.2 p.2) kvs (((l.take i).filter p).map fun x => (ky x, fn x))) ∧
    re f.b H2 (hid [D] H') ∧ Dm (f.add D) H' ∧ Kn (hid (D :: f.F) H') ∧ K (hid (D :: f.F) H')
  have step : ∀ {i : Nat} {Ha Hb : Hp}, re f.b Ha Hb → I i Ha → I i Hb := fun {i Ha Hb} ee ⟨⟨kvs, a1, a2⟩, b, c, k1, k2⟩ => by
    have up : Same (hid (D :: f.F) Ha) (hid (D :: f.F) Hb) := Same.up (re.known (f := f.add D) ee c.bag)
    exact ⟨⟨kvs, ee.keep nD a1, Paired.mapP a2 fun _ _ q => ⟨q.1, Stb.up up q.2⟩⟩, b.trans (ee.hid fun a m => by rw [List.mem_singleton.mp m]; exact nD), Dm.re (f := f.add D) c ee, StH.up up k1, StH.up up k2⟩
  have start : I 0 (upd H2 D (mk [])) := by
    refine ⟨⟨[], upd_same, .nil⟩, ?_, (d2.re (re.same (same_new hD))).add (Loc.of upd_same (dict_no _)), ?_, ?_⟩
    · have z := hid_cons_new (F := []) (o := mk []) hD
      rw [z, hid_nil]; exact re.refl _
    · rw [hid_cons_new hD]; exact kn
    · rw [hid_cons_new hD]; exact k2
  refine ⟨fun i m H' => m = l.length - i ∧ i ≤ l.length ∧ I i H', ⟨l.length, by simp, Nat.zero_le _, start⟩, ?_⟩
  rintro i m H3 ⟨rfl, hi, st⟩
  obtain ⟨_, e3, d3, kn3, k3⟩ := id st
  by_cases hlt : i < l.length
  · refine .inr ⟨wk.go _ _ _ kn3 hlt, I (i + 1), fun H' z => ⟨l.length - (i + 1), by omega, rfl, hlt, z⟩, fun x H4 y => ?_⟩
    obtain ⟨z, hz, sm, hr⟩ := wk.yld _ _ _ _ _ d3.there kn3 hlt y
    have st4 := step (re.same sm) st
    obtain ⟨_, b4, d4, kn4, k4⟩ := id st4
    have eH4 : re f.b H H4 := e02.trans (b4.trans (re.same hid_same))
    have tk1 : l.take (i + 1) = l.take i ++ [z] := by
      rw [List.take_add_one, hz]; rfl
    refine body z (f.add D) H4 x (List.mem_of_getElem? hz) rfl d4 eH4 k4 hr _ fun σ2 ⟨w2, ht, he⟩ => ⟨w2, ht H4 (re.refl _) d4 _ fun c H5 e5 pc => ?_⟩
    have e5 : re f.b H4 H5 := e5
    have st5 := step e5 st4
    cases c with
    | false =>
      rw [if_neg Bool.false_ne_true]
      have en : ((l.take (i + 1)).filter p).map (fun x => (ky x, fn x)) = ((l.take i).filter p).map fun x => (ky x, fn x) := by
        rw [tk1, List.filter_append, List.map_append, List.filter_cons_of_neg (by rw [← pc]; exact Bool.false_ne_true)]
        simp
      show I (i + 1) H5
      obtain ⟨⟨kvs, a1, a2⟩, r⟩ := st5
      exact ⟨⟨kvs, a1, en ▸ a2⟩, r⟩
    | true =>
      rw [if_pos rfl]
      obtain ⟨h1, h2⟩ := he pc.symm
      refine h1 H5 e5 st5.2.2.1 _ fun yv H6 e6 ky6 => ?_
      have e6 : re f.b H5 H6 := e6
      have st6 := step e6 st5
      refine h2 H6 (e5.trans e6) st6.2.2.1 _ fun zv H7 e7 zv7 => ?_
      have e7 : re f.b H6 H7 := e7
      have st7 := step e7 st6
      obtain ⟨⟨kvs, a1, a2⟩, b7, d7, kn7, k7⟩ := st7
      have ky7 : KR (hid (D :: f.F) H7) yv (ky z) := Stb.up (Same.up (re.known (f := f.add D) e7 st6.2.2.1.bag)) ky6
      have la := Paired.length a2
      have lb : (((l.take i).filter p).map fun x => (ky x, fn x)).length ≤ 100000 := by
        rw [List.length_map]
        exact Nat.le_trans (List.length_filter_le _ _) (by rw [List.length_take]; omega)
      have hh : ∀ o, hid (D :: f.F) (upd H7 D o) = hid (D :: f.F) H7 := fun o => hid_upd List.mem_cons_self
      have en : ((l.take (i + 1)).filter p).map (fun x => (ky x, fn x)) = ((l.take i).filter p).map (fun x => (ky x, fn x)) ++ [(ky z, fn z)] := by
        rw [tk1, List.filter_append, List.map_append, List.filter_cons_of_pos pc.symm]
        rfl
      have fresh : valV kvs (enc (ky z)) = none := by
        refine valV_none fun kv hkv heq => ?_
        -- the key would stand twice
        have hx : ∃ b ∈ ((l.take i).filter p).map ky, enc b = enc (ky z) := by
          have aux : ∀ {ks : List (κ × V)} {ls : List (β × γ)}, Paired (fun (kv : κ × V) (p : β × γ) => kv.1 = enc p.1 ∧ S (hid (D :: f.F) H7) kv.2 p.2) ks ls → kv ∈ ks → ∃ b ∈ ls.map Prod.fst, enc b = enc (ky z) := by
            intro ks ls hp hm
            induction hp with
            | nil => cases hm
            | cons r t ih =>
              rcases List.mem_cons.mp hm with rfl | hm
              · exact ⟨_, List.mem_map.mpr ⟨_, List.mem_cons_self, rfl⟩, r.1.symm.trans heq⟩
              · obtain ⟨b, hb, eb⟩ := ih hm
                exact ⟨b, by rw [List.map_cons]; exact List.mem_cons_of_mem _ hb, eb⟩
          obtain ⟨b, hb, eb⟩ := aux a2 hkv
          rw [List.map_map] at hb
          exact ⟨b, hb, eb⟩
        obtain ⟨b, hb, eb⟩ := hx
        obtain rfl := pu.inj _ _ eb
        have nd' : ((((l.take i).filter p).map ky) ++ ([ky z] ++ ((l.drop (i + 1)).filter p).map ky)).Nodup := by
          have : l = l.take i ++ ([z] ++ l.drop (i + 1)) := by
            rw [← List.append_assoc, ← tk1, List.take_append_drop]
          rw [this, List.filter_append, List.map_append, List.filter_append, List.map_append, List.filter_cons_of_pos pc.symm] at nd
          exact nd
        exact (List.nodup_append.mp nd').2.2 _ hb _ (List.mem_append_left _ (List.mem_singleton.mpr rfl)) rfl
      refine ⟨_, pu.put _ _ D yv zv kvs (ky z) ky7 a1 (Nat.lt_of_le_of_lt (by omega : kvs.length ≤ 100000) (by decide)), ⟨⟨_, upd_same, ?_⟩, ?_, ?_, ?_, ?_⟩⟩
      · rw [en, putK_new zv fresh, hh]
        exact pair_app a2 (.cons ⟨rfl, zv7⟩ .nil)
      · rw [hid_upd (List.mem_singleton.mpr rfl)]; exact b7
      · refine ⟨fun a m => ?_, d7.bag⟩
        by_cases ea : a = D
        · rw [ea]; exact Loc.of upd_same (dict_no _)
        · exact (d7.there a m).at fun o q => by rw [upd_ne ea]; exact q
      · rw [hh]; exact kn7
      · rw [hh]; exact k7
  · have e4 : i = l.length := by omega
    subst e4
    obtain ⟨⟨kvs, a1, a2⟩, b3, _⟩ := st
    rw [List.take_length] at a2
    refine .inl ⟨wk.stop _ _ _ kn3 (Nat.le_refl _), q D _ kvs ?_ (e2.trans (b3.trans (re.same hid_same))) a1 a2⟩
    exact e2.free hD
end
end FF
namespace FF
open PySem PySem.Spec PyProof.Rows L2

section
variable {κ : Type} [DecidableEq κ]
theorem atKey_none {xs : List (κ × Addr × Value)} {k : κ} (h : k ∉ xs.map (·.1)) : atKey xs k = none := by
  unfold atKey
  rw [List.find?_eq_none.mpr fun p hp => by
    have : p.1 ≠ k := fun e => h (List.mem_map.mpr ⟨p, hp, e⟩)
    simpa using this]
  rfl
theorem storedAll_new : ∀ (ps xs : List (κ × Addr × Value)), ((xs ++ ps).map (·.1)).Nodup → storedAllH xs ps = xs ++ ps
  | [], xs, _ => (List.append_nil xs).symm
  | p :: ps, xs, nd => by
    have n1 : p.1 ∉ xs.map (·.1) := fun m => by
      rw [List.map_append] at nd
      exact (List.nodup_append.mp nd).2.2 _ m _ (by rw [List.map_cons]; exact List.mem_cons_self) rfl
    show storedAllH (storedH xs p.1 p.2.1 p.2.2) ps = xs ++ p :: ps
    rw [storedH_new (atKey_none n1), storedAll_new ps (xs ++ [(p.1, p.2.1, p.2.2)]) (by rw [List.append_assoc]; exact nd), List.append_assoc]
    rfl
end

section
variable {X : Cx} {pins : List (Addr × Obj)} {σ : L2.St} {H : Hp} {s : Shared}
/-- a row of a list of pairs: its tuple's place, the key, the key's place, the value -/
abbrev PRow := Addr × List Key × Addr × V
/-- the rows' entries as the machine has them -/
theorem rows_at (I : Inv X pins σ H s) : ∀ (rows : List PRow), (∀ r ∈ rows, SqT X.K H r.1 [.ref r.2.2.1, r.2.2.2]) →
    ∃ ps : List (List Key × Addr × Value), Paired (fun (r : PRow) (p : List Key × Addr × Value) => p.1 = r.2.1 ∧ p.2.1 = r.2.2.1 ∧ RelV r.2.2.2 p.2.2 ∧ IsTup s.heap r.1 #[.ref r.2.2.1, p.2.2]) rows ps
  | [], _ => ⟨[], .nil⟩
  | r :: rows, h => by
    obtain ⟨ps, hp⟩ := rows_at I rows fun x m => h x (List.mem_cons_of_mem _ m)
    obtain ⟨its, rv, ht, _⟩ := I.tuple (h r List.mem_cons_self)
    obtain ⟨u, y, rfl, ru, ry⟩ := vals2 rv
    obtain rfl : u = Value.ref r.2.2.1 := ru
    exact ⟨(r.2.1, r.2.2.1, y) :: ps, .cons ⟨rfl, rfl, ry, ht⟩ hp⟩
/-- dict(xs), xs a list of pairs (tuple, value), no key twice -/
def rDictT (K : PySem.W.Frag) : List V → Hp → VK → Prop := fun xs H Q => ∃ (a : Addr) (rows : List PRow), xs = [.ref a] ∧ SqL K H a (rows.map fun r => V.ref r.1) ∧ (∀ r ∈ rows, SqT K H r.1 [.ref r.2.2.1, r.2.2.2]) ∧ (∀ r ∈ rows, H r.2.2.1 = some (.tup (r.2.1.map kV))) ∧
  (rows.map (·.2.1)).Nodup ∧ ∀ p, H p = none → Q (.ref p) (upd H p (.dT (rows.map fun r => (r.2.1, r.2.2.2))))
theorem cr_dictT (calm : X.calm = true) (room : X.A.units + 64 < cLine) : CallR X (.type "dict") (rDictT X.K) := by
  intro pins z σ G xs us Q J rel want
  obtain ⟨a, rows, rfl, la, tu, ke, nd, q⟩ := want
  obtain ⟨u, rfl, rx⟩ := vals1 rel
  obtain rfl : u = Value.ref a := rx
  obtain ⟨its, rv, pl, big⟩ := J.list la
  rw [List.length_map] at big
  obtain ⟨ps, hp⟩ := rows_at J rows tu
  have hlen := Paired.length hp
  have eI : its = (rows.map (·.1)).map Value.ref := refs_at (by rw [List.map_map]; exact rv)
  have nd' : (ps.map (·.1)).Nodup := by
    have : ps.map (·.1) = rows.map (·.2.1) := by
      clear nd ke tu la q rv pl big hlen eI
      induction hp with
      | nil => rfl
      | cons r t ih => rw [List.map_cons, List.map_cons, ih, r.1]
    rw [this]; exact nd
  obtain ⟨o, n, ho, hc, hd, hdat⟩ := pl
  have key : ∀ x ∈ ps, (tupleKind (mixKind X.prog X.w)).is z.heap x.1 x.2.1 := fun x hx => by
    obtain ⟨i, hi, rfl⟩ := List.getElem_of_mem hx
    obtain ⟨r, hr, e1, e2, _⟩ : ∃ r ∈ rows, (ps[i]).1 = r.2.1 ∧ (ps[i]).2.1 = r.2.2.1 ∧ True := by
      have aux : ∀ {rows : List PRow} {ps : List (List Key × Addr × Value)}, Paired (fun (r : PRow) (p : List Key × Addr × Value) => p.1 = r.2.1 ∧ p.2.1 = r.2.2.1 ∧ RelV r.2.2.2 p.2.2 ∧ IsTup z.heap r.1 #[.ref r.2.2.1, p.2.2]) rows ps → ∀ x ∈ ps, ∃ r ∈ rows, x.1 = r.2.1 ∧ x.2.1 = r.2.2.1 ∧ True := by
        intro rows ps hp
        induction hp with
        | nil => intro x hx; cases hx
        | cons r t ih =>
          intro x hx
          rcases List.mem_cons.mp hx with rfl | hx
          · exact ⟨_, List.mem_cons_self, r.1, r.2.1, trivial⟩
          · obtain ⟨r', m, q⟩ := ih x hx
            exact ⟨r', List.mem_cons_of_mem _ m, q⟩
      exact aux hp _ hx
    rw [e1, e2]
    exact key_of J.hok (ke r hr)
  have hok : ∀ (j : Nat) (k v : Value), (ps.map fun p => (Value.ref p.2.1, p.2.2))[j]? = some (k, v) → its.toArray[j]? = some (.ref ((rows.map (·.1)).getD j 0)) ∧ PairAt z.heap ((rows.map (·.1)).getD j 0) k v := fun j k v hj => by
    rw [List.getElem?_map] at hj
    obtain ⟨p, hp1, hp2⟩ := Option.map_eq_some_iff.mp hj
    injection hp2 with e1 e2
    have hjl : j < rows.length := by
      have := (List.getElem?_eq_some_iff.mp hp1).1
      omega
    obtain ⟨p', hp', g1, g2, g3, g4⟩ := paired_get hp (List.getElem?_eq_getElem hjl)
    rw [hp1] at hp'
    obtain rfl : p = p' := Option.some.inj hp'
    have eg : (rows.map (·.1)).getD j 0 = rows[j].1 := by
      rw [List.getD_eq_getElem?_getD, List.getElem?_map, List.getElem?_eq_getElem hjl]; rfl
    rw [eg]
    refine ⟨?_, .inl ?_⟩
    · rw [eI]
      simp [hjl]
    · rw [← e1, ← e2, g2]
      exact g4
  refine call_dict_pairsH (knd := tupleKind (mixKind X.prog X.w)) (ps := ps) (PairArg.list a its.toArray (fun j => (rows.map (·.1)).getD j 0) (ps.map fun p => (Value.ref p.2.1, p.2.2))) (J.ok.hd calm) (show X.A.in1.in1.units < cLine from (show X.A.units + 2 < cLine by omega)) ⟨⟨o, n, ho, hc, hd, hdat⟩, ?_, hok⟩
    ⟨by rw [List.length_map], fun i k v hi => ?_⟩ (fun h' hk x hx => tupleKind_stays.stays (fun b o _ _ e _ => hk b o (Nat.ne_of_lt (Heap.lt_size e)) (fun m => nomatch m) e) (key x hx)) (by rw [List.length_map, ← hlen]; exact big) fun h' tk hd' hk => ?_
  · rw [List.length_map, eI]; simp [hlen]
  · have hi : (ps.map fun p => (Value.ref p.2.1, p.2.2))[i]? = some (k, v) := hi
    rw [List.getElem?_map] at hi
    obtain ⟨p, hp1, hp2⟩ := Option.map_eq_some_iff.mp hi
    injection hp2 with e1 e2
    exact ⟨p.1, p.2.1, by rw [hp1, ← e2], e1.symm⟩
  · rw [storedAll_new ps [] nd', List.nil_append] at hd'
    have free : G z.heap.objs.size = none := J.hok.fresh (Nat.le_refl _)
    have notS : (z.heap.objs.size == sysModules) = false := beq_eq_false_iff_ne.mpr (Nat.ne_of_gt J.big)
    obtain ⟨o', es, ep, q1, q2, q3, q4, _, q6⟩ := hd'
    refine ⟨.ref z.heap.objs.size, _, J.laid (t' := tk) (fun b o e => hk b o (fun m => nomatch m) e) (Nat.le_refl _) (show ObjOk X.prog X.w _ _ _ (.dT (rows.map fun r => (r.2.1, r.2.2.2))) from ⟨by rw [List.length_map]; exact big, notS, ps, ?_, o', es, ep, q1, q2, q3, q4, q6⟩), rfl, q _ free⟩
    have aux : ∀ {rows : List PRow} {ps : List (List Key × Addr × Value)}, (∀ r ∈ rows, G r.2.2.1 = some (.tup (r.2.1.map kV))) → Paired (fun (r : PRow) (p : List Key × Addr × Value) => p.1 = r.2.1 ∧ p.2.1 = r.2.2.1 ∧ RelV r.2.2.2 p.2.2 ∧ IsTup z.heap r.1 #[.ref r.2.2.1, p.2.2]) rows ps →
        ∀ o, Paired (fun (p : List Key × V) (q : List Key × Addr × Value) => p.1 = q.1 ∧ upd G z.heap.objs.size o q.2.1 = some (.tup (p.1.map kV)) ∧ RelV p.2 q.2.2) (rows.map fun r => (r.2.1, r.2.2.2)) ps := by
      intro rows ps ke hp o
      induction hp with
      | nil => exact .nil
      | cons r t ih =>
        refine .cons ⟨r.1.symm, ?_, r.2.2.1⟩ (ih fun r' m => ke r' (List.mem_cons_of_mem _ m))
        rw [r.2.1, upd_ne (ne_of_none (ke _ List.mem_cons_self) free)]
        exact ke _ List.mem_cons_self
    exact aux ke hp _

/-- d.update(e), the keys tuples, no key in both -/
def rUpdT (P : Program) (w : World) : V → List V → Hp → VK → Prop := fun x xs H Q => ∃ (d o : Addr) (ks ls : List (List Key × V)), x = .ref d ∧ xs = [.ref o] ∧ d ≠ o ∧ H d = some (.dT ks) ∧ H o = some (.dT ls) ∧ ((ks ++ ls).map (·.1)).Nodup ∧ ks.length + ls.length ≤ sizeLine ∧
  (ks ≠ [] ∨ (ls.map fun p => (tupleKind (mixKind P w)).hash p.1).Nodup) ∧ Q .non (upd H d (.dT (ks ++ ls)))
theorem mt_updT (room : X.A.units + 64 < cLine) : MtR X "dict.update" (rUpdT X.prog X.w) := by
  intro pins z σ G x xs v us Q J rx rel want
  obtain ⟨d, o, ks, ls, rfl, rfl, ne, hd, ho, nd, few, hash, q⟩ := want
  obtain ⟨u, rfl, ru⟩ := vals1 rel
  obtain rfl : u = Value.ref o := ru
  obtain rfl : v = Value.ref d := rx
  obtain ⟨z1, n1, as, ra, da⟩ := dt_of J.hok hd
  obtain ⟨z2, n2, bs, rb, db⟩ := dt_of J.hok ho
  have ea : ks.map (·.1) = as.map (·.1) := by
    clear hd ho nd few hash q z1 da
    induction ra with
    | nil => rfl
    | cons r t ih => rw [List.map_cons, List.map_cons, ih, r.1]
  have eb : ls.map (·.1) = bs.map (·.1) := by
    clear hd ho nd few hash q z2 db
    induction rb with
    | nil => rfl
    | cons r t ih => rw [List.map_cons, List.map_cons, ih, r.1]
  have la := Paired.length ra
  have lb := Paired.length rb
  refine call_update_dictH (show X.A.in1.units < cLine from (show X.A.units + 1 < cLine by omega)) ne n2 da db ?_ (by omega) fun h' ha' _ but => ?_
  · rcases hash with h | h
    · refine .inl fun e => h ?_
      rw [e] at la
      exact List.eq_nil_of_length_eq_zero la
    · refine .inr ⟨fun x hx => ?_, ?_⟩
      · obtain ⟨_, _, _, _, _, _, _, is, _⟩ := db
        exact IsTupleKey.typeIs (is x hx)
      · have e1 : bs.map (fun x => (tupleKind (mixKind X.prog X.w)).hash x.1) = (bs.map (·.1)).map (tupleKind (mixKind X.prog X.w)).hash := by rw [List.map_map]; rfl
        have e2 : ls.map (fun x => (tupleKind (mixKind X.prog X.w)).hash x.1) = (ls.map (·.1)).map (tupleKind (mixKind X.prog X.w)).hash := by rw [List.map_map]; rfl
        rw [e1, ← eb, ← e2]
        exact h
  · rw [storedAll_new bs as (by rw [List.map_append, ← ea, ← eb, ← List.map_append]; exact nd)] at ha'
    obtain ⟨o', es, ep, q1, q2, q3, q4, _, q6⟩ := ha'
    have app : ∀ {a b : List (List Key × V)} {c e : List (List Key × Addr × Value)}, L2.KT G a c → L2.KT G b e → L2.KT G (a ++ b) (c ++ e) := fun h1 h2 => pair_app h1 h2
    refine ⟨.non, upd G d (.dT (ks ++ ls)), d_write J (by rw [hd]; trivial) but ⟨o', q1⟩ ⟨by rw [List.length_append]; exact few, n1, as ++ bs, (app ra rb).keeps fun c ys ec => ?_, o', es, ep, q1, q2, q3, q4, q6⟩, rfl, q⟩
    rw [upd_ne (ne_of ec hd fun z => nomatch z)]
    exact ec
end

def hashPair (i j : Nat) : Int := reduceHash (Builtin.Tuple.tupleHashOf [hashInt (i : Int), hashInt (j : Int)])
theorem hash_apart : ((List.range 100).map fun k => hashPair (k / 10) (k % 10)).Nodup := by decide +kernel
theorem hash_inj {i j i' j' : Nat} (h1 : i < 10) (h2 : j < 10) (h3 : i' < 10) (h4 : j' < 10) (e : hashPair i j = hashPair i' j') : i = i' ∧ j = j' := by
  have a : i * 10 + j < 100 := by omega
  have b : i' * 10 + j' < 100 := by omega
  have nd := List.pairwise_iff_getElem.mp hash_apart
  have g : ∀ k (hk : k < 100), ((List.range 100).map fun k => hashPair (k / 10) (k % 10))[k]'(by simpa using hk) = hashPair (k / 10) (k % 10) := fun k hk => by simp
  have d1 : (i * 10 + j) / 10 = i ∧ (i * 10 + j) % 10 = j := by omega
  have d2 : (i' * 10 + j') / 10 = i' ∧ (i' * 10 + j') % 10 = j' := by omega
  rcases Nat.lt_trichotomy (i * 10 + j) (i' * 10 + j') with c | c | c
  · exfalso
    refine nd (i * 10 + j) (i' * 10 + j') (by simpa using a) (by simpa using b) c ?_
    rw [g _ a, g _ b, d1.1, d1.2, d2.1, d2.2]
    exact e
  · omega
  · exfalso
    refine nd (i' * 10 + j') (i * 10 + j) (by simpa using b) (by simpa using a) c ?_
    rw [g _ a, g _ b, d1.1, d1.2, d2.1, d2.2]
    exact e.symm
theorem pair_hashes {P : Program} {w : World} {ps : List (Int × Int)} (nd : ps.Nodup) (h : ∀ p ∈ ps, (0 ≤ p.1 ∧ p.1 < 10) ∧ 0 ≤ p.2 ∧ p.2 < 10) : (ps.map fun p => (tupleKind (mixKind P w)).hash (kP p)).Nodup := by
  refine List.pairwise_map.mpr (List.Pairwise.imp_of_mem (fun {p q} hp hq ne e => ne ?_) nd)
  obtain ⟨⟨a1, a2⟩, a3, a4⟩ := h p hp
  obtain ⟨⟨b1, b2⟩, b3, b4⟩ := h q hq
  have eh : ∀ p : Int × Int, 0 ≤ p.1 → 0 ≤ p.2 → (tupleKind (mixKind P w)).hash (kP p) = hashPair p.1.toNat p.2.toNat := fun p h1 h2 => by
    unfold hashPair
    rw [show ((p.1.toNat : Nat) : Int) = p.1 by omega, show ((p.2.toNat : Nat) : Int) = p.2 by omega]
    rfl
  rw [eh p a1 a3, eh q b1 b3] at e
  have := hash_inj (by omega) (by omega) (by omega) (by omega) e
  exact Prod.ext (by omega) (by omega)
end FF
namespace FF
open PySem PySem.Spec PyProof.Rows L2

section
variable {P : Program} {w : World}
abbrev mKnd (P : Program) (w : World) : KeyKind P w Key := mixKind P w
/-- the hash of a tuple of such keys -/
abbrev mHash (P : Program) (w : World) (k : List Key) : Int := tupleKeyHash (mixKind P w) k
abbrev IsM (P : Program) (w : World) (h : Heap) (k : List Key) (a : Addr) : Prop := IsTupleKey (mixKind P w) h k a
/-- the items of such a tuple are whole numbers and texts -/
theorem mItems {k : List Key} {vs : List Value} (h : ItemsAre (mixKind P w) k vs) : ∀ v ∈ vs, (∀ n, ofAClassStatement n v = pure false) ∧ ∀ n, ∃ c, hashByValue n v = pure c := by
  induction h with
  | nil => intro v hv; cases hv
  | cons h1 _ ih =>
    intro v hv
    rcases List.mem_cons.mp hv with rfl | hv
    · rcases keyIs_shape h1 with ⟨i, t, _, rfl⟩ | ⟨x, t, _, rfl⟩
      · exact ⟨fun n => by cases n <;> rfl, fun n => ⟨_, hashByValue_scannable n rfl⟩⟩
      · exact ⟨fun n => by cases n <;> rfl, fun n => ⟨_, hashByValue_scannable n rfl⟩⟩
    · exact ih v hv
variable {A : Around} {E : Value → Shared → Prop} {s : Shared}
/-- a loop that asks each item a question and leaves at the first «no» -/
theorem noClass {k : List Key} {b : Addr} {Q : Bool → Shared → Prop} (hk : IsM P w s.heap k b) (q : Q false s) : wpAny (model P w) A (ofAClassStatement 8 (.ref b)) Q E s := by
  have ty := hk.typeIs
  obtain ⟨ob, items, n, ho, _, hd, hi⟩ := hk
  have each := mItems hi
  unfold ofAClassStatement
  refine wpAny_bind (wpAny_typeOf ty ?_)
  dsimp only
  simp only [show (("tuple" : String) == "tuple") = true by decide, if_true, Bool.not_true, Bool.false_eq_true, if_false]
  try refine wpAny_bind (wpAny_pure ?_)
  try simp only [Bool.not_true, Bool.false_eq_true, if_false]
  show wpAny _ _ (seqItems? (.ref b) >>= _) _ _ s
  refine wpAny_bind (wpAny_seqItems ho hd ?_)
  dsimp only
  refine wpAny_bind ?_
  show wpAny _ _ (forIn items _ _) _ _ s
  rw [← Array.forIn_toList]
  refine wpAny_forIn_list _ (fun left r s' => r.1 = none ∧ s' = s ∧ ∀ v ∈ left, ∀ n, ofAClassStatement n v = pure false) _ ?_ ?_ _ _ ⟨rfl, rfl, fun v hv => (each v hv).1⟩
  · rintro v left r s' ⟨hr, rfl, all⟩
    rw [all v List.mem_cons_self]
    refine wpAny_bind (wpAny_pure ?_)
    simp only [Bool.false_eq_true, if_false]
    exact wpAny_pure ⟨rfl, rfl, fun u hu => all u (List.mem_cons_of_mem _ hu)⟩
  · rintro ⟨r1, r2⟩ s' ⟨hr, rfl, _⟩
    obtain rfl : r1 = none := hr
    exact wpAny_pure q
theorem byVal {k : List Key} {b : Addr} {Q : Bool → Shared → Prop} (hk : IsM P w s.heap k b) (q : ∀ c, Q c s) : wpAny (model P w) A (hashByValue 8 (.ref b)) Q E s := by
  have ty := hk.typeIs
  obtain ⟨ob, items, n, ho, _, hd, hi⟩ := hk
  have each := mItems hi
  unfold hashByValue
  refine wpAny_bind (wpAny_specialOf ty F.slot_tuple_hash.lookup ?_)
  show wpAny _ _ (seqItems? (.ref b) >>= _) _ _ s
  refine wpAny_bind (wpAny_seqItems ho hd ?_)
  refine wpAny_bind ?_
  show wpAny _ _ (forIn items _ _) _ _ s
  rw [← Array.forIn_toList]
  refine wpAny_forIn_list _ (fun left r s' => r.1 = none ∧ s' = s ∧ ∀ v ∈ left, ∀ n, ∃ c, hashByValue n v = pure c) _ ?_ ?_ _ _ ⟨rfl, rfl, fun v hv => (each v hv).2⟩
  · rintro v left r s' ⟨hr, rfl, all⟩
    obtain ⟨c, hc⟩ := all v List.mem_cons_self 7
    rw [hc]
    refine wpAny_bind (wpAny_pure ?_)
    cases c with
    | true =>
      simp only [Bool.not_true, Bool.false_eq_true, if_false]
      exact wpAny_pure ⟨rfl, rfl, fun u hu => all u (List.mem_cons_of_mem _ hu)⟩
    | false =>
      simp only [Bool.not_false, if_true]
      exact wpAny_pure (wpAny_pure (q false))
  · rintro ⟨r1, r2⟩ s' ⟨hr, rfl, _⟩
    obtain rfl : r1 = none := hr
    exact wpAny_pure (q true)
/-- a search among such tuples shows nothing of the table -/
theorem unseen {k : List Key} {b : Addr} {Q : Bool → Shared → Prop} (hk : IsM P w s.heap k b) {ys : List Value} (hy : ∀ y ∈ ys, ∃ k' c, y = Value.ref c ∧ IsM P w s.heap k' c) (q : Q false s) : wpAny (model P w) A (searchCouldBeSeen (.ref b) ys) Q E s := by
  unfold searchCouldBeSeen
  refine wpAny_bind ?_
  refine wpAny_forIn_list _ (fun left r s' => r.1 = none ∧ s' = s ∧ ∀ y ∈ left, ∃ k' c, y = Value.ref c ∧ IsM P w s.heap k' c) _ ?_ ?_ _ _ ⟨rfl, rfl, hy⟩
  · rintro v left r s' ⟨hr, rfl, all⟩
    obtain ⟨k', c, rfl, hc⟩ := all v List.mem_cons_self
    have more : (none : Option Bool) = none ∧ s' = s' ∧ ∀ y ∈ left, ∃ k' c, y = Value.ref c ∧ IsM P w s'.heap k' c := ⟨rfl, rfl, fun u hu => all u (List.mem_cons_of_mem _ hu)⟩
    dsimp only
    by_cases same : (b == c || (carriedByValue (.ref b) && carriedByValue (.ref c))) = true
    · exact wp_if_pos same (wpAny_pure more)
    · refine wp_if_neg same (wpAny_bind (wpAny_eqIsQuiet_tuple hk ?_))
      simp only [Bool.not_true, Bool.false_eq_true, if_false]
      refine wpAny_bind (wpAny_eqIsQuiet_tuple hc ?_)
      simp only [Bool.not_true, Bool.false_eq_true, if_false]
      refine wpAny_bind (noClass hk ?_)
      simp only [Bool.false_eq_true, if_false]
      refine wpAny_bind (noClass hc ?_)
      simp only [Bool.false_eq_true, if_false]
      exact wpAny_pure more
  · rintro ⟨r1, r2⟩ s' ⟨hr, rfl, _⟩
    obtain rfl : r1 = none := hr
    exact wpAny_pure q

abbrev MRows := List (Addr × List Key)
def entries (P : Program) (w : World) (L : MRows) : List (Int × Value) := L.map fun p => (mHash P w p.2, Value.ref p.1)
def hashes (P : Program) (w : World) (L : MRows) : List Int := L.map fun p => mHash P w p.2
/-- the table says the rows L, whatever else -/
structure TabM (P : Program) (w : World) (L : MRows) (es : Array (Int × Value)) (t : SetTable) : Prop where
  rows : es.toList = entries P w L
  tab : TabOk t (hashes P w L)
  nd : (L.map (·.2)).Nodup
  led : w.params.followText "set-order" = true ∨ t.led = true
  room : L.length * 5 < t.mask * 3
  few : L.length < 64
def ObM (h : Heap) (a : Addr) (es : Array (Int × Value)) (ep : Nat) (t : SetTable) : Prop := ∃ o, h.get? a = some o ∧ o.ExactSet ∧ o.data = .set es ep t
def KeysM (P : Program) (w : World) (h : Heap) (L : MRows) : Prop := ∀ p ∈ L, IsM P w h p.2 p.1
variable {a : Addr} {L : MRows} {es : Array (Int × Value)} {ep : Nat} {t : SetTable}
theorem entries_len (L : MRows) : (entries P w L).length = L.length := List.length_map _
theorem hashes_len (L : MRows) : (hashes P w L).length = L.length := List.length_map _
theorem size_of {L : MRows} {es : Array (Int × Value)} (h : es.toList = entries P w L) : es.size = L.length := by
  rw [← Array.length_toList, h, entries_len]
theorem TabM.size (R : TabM P w L es t) : es.size = L.length := size_of R.rows
theorem fits_by {n : Nat} (hs : t.place.size = es.size) (hd : t.dummies = #[]) (hm : es.size ≤ t.mask) : t.fits es.size = true := by
  unfold SetTable.fits SetTable.fill
  rw [hd, Bool.and_eq_true, beq_iff_eq, decide_eq_true_eq]
  exact ⟨hs, by simpa [hs] using hm⟩
theorem TabM.psz (R : TabM P w L es t) : t.place.size = es.size := by rw [R.tab.sz, hashes_len, R.size]
theorem TabM.fits (R : TabM P w L es t) : t.fits es.size = true := fits_by (n := 0) R.psz R.tab.dm (by rw [R.size]; have := R.room; omega)
theorem TabM.at (R : TabM P w L es t) {i : Nat} {p : Addr × List Key} (h : L[i]? = some p) : es[i]? = some (mHash P w p.2, Value.ref p.1) := by
  rw [← Array.getElem?_toList, R.rows]
  unfold entries
  rw [List.getElem?_map, h]
  rfl
theorem TabM.ok (R : TabM P w L es t) : ¬ t.gaveWay = true := by
  unfold SetTable.gaveWay
  rw [mask_odd R.tab.mok]
  decide
/-- the n-th probe for a hash -/
abbrev prb (t : SetTable) (h : Int) (n : Nat) : SetTable.Probe := nth t.mask (runAt t.mask (SetTable.bits h % (t.mask + 1)) (SetTable.bits h)) n
theorem prb_more (t : SetTable) (h : Int) (n q : Nat) : nth t.mask (prb t h n) q = prb t h (n + q) := (nth_add t.mask n _ q).symm
theorem prb_dummy (t : SetTable) (h : Int) (n : Nat) : (prb t h n).dummy = none := by
  have key : ∀ (m : Nat) (p : SetTable.Probe), p.dummy = none → (nth t.mask p m).dummy = none := by
    intro m
    induction m with
    | zero => exact fun p h => h
    | succ m ih => exact fun p h => ih (adv t.mask p) (by unfold adv; split <;> exact h)
  exact key n _ rfl

/-- THE SEARCH for the tuple at x, from the c-th probe on; K: the first free place of its way -/
theorem seek (ob : ObM s.heap a es ep t) (R : TabM P w L es t) (ks : KeysM P w s.heap L) {x : Addr} {k : List Key} (hx : IsM P w s.heap k x) (hu : A.units < cLine) {K : Nat} (bound : K < 10 * SetTable.turns t.mask)
    (gap : way t.mask (mHash P w k) K ∉ t.place.toList) (full : ∀ c, c < K → way t.mask (mHash P w k) c ∈ t.place.toList) {Q : SetFound → Shared → Prop}
    (yes : k ∈ L.map (·.2) → Q (.there none) s) (no : k ∉ L.map (·.2) → Q (.free (way t.mask (mHash P w k) K) false) s) :
    ∀ (fuel c : Nat) (stand : Option SetTable.Probe), stand.getD (t.probeStart (mHash P w k)) = prb t (mHash P w k) c → c ≤ K → K - c < fuel →
      (∀ (i : Nat) p, L[i]? = some p → p.2 = k → ∃ c', c ≤ c' ∧ c' < K ∧ t.place.toList[i]? = some (way t.mask (mHash P w k) c')) →
      wpAny (model P w) A (setSearchFrom a (.ref x) (mHash P w k) true fuel stand) Q E s := by
  intro fuel
  induction fuel with
  | zero => intro c stand _ _ hf _; exact absurd hf (Nat.not_lt_zero _)
  | succ fuel ih =>
    intro c stand hst hc hf ahead
    obtain ⟨o, ho, hex, hd⟩ := id ob
    rw [setSearchFrom_succ]
    refine wpAny_bind (wpAny_setState_of ho hd R.fits ?_)
    dsimp only
    refine wp_if_neg R.ok ?_
    try refine wpAny_bind (wpAny_pure ?_)
    have jAt : ∀ q, (nth t.mask (prb t (mHash P w k) c) q).j = way t.mask (mHash P w k) (c + q) := fun q => congrArg SetTable.Probe.j (prb_more t _ c q)
    have hashAt : ∀ (i : Nat) p, L[i]? = some p → (es[i]?.map (·.1)).getD 0 = mHash P w p.2 := fun i p hp => by
      rw [R.at hp]
      rfl
    have toK : c + (K - c) = K := by omega
    have spec := go_spec t R.tab.ris R.tab.dm (fun i => (es[i]?.map (·.1)).getD 0) (mHash P w k) (10 * SetTable.turns t.mask) (K - c) _ (prb_dummy t (mHash P w k) c) (by omega)
      (fun q hq => by rw [jAt]; exact full (c + q) (by omega)) (by rw [jAt, toK]; exact gap)
    rcases spec with ⟨q, i, hq, hi, _, none_before, found⟩ | ⟨none_before, found⟩
    · -- an entry of that hash
      rw [jAt] at hi found
      rw [prb_more] at found
      rw [hst]
      have found : t.probe (fun i => (es[i]?.map (·.1)).getD 0) (mHash P w k) (prb t (mHash P w k) c) = some (.candidate (way t.mask (mHash P w k) (c + q)) i (prb t (mHash P w k) (c + (q + 1)))) := found
      rw [found]
      dsimp only
      have il : i < L.length := by
        have h1 : i < t.place.toList.length := (List.getElem?_eq_some_iff.mp hi).1
        have h2 := R.tab.sz
        rw [hashes_len] at h2
        rw [Array.length_toList] at h1
        omega
      obtain ⟨p, hp⟩ : ∃ p, L[i]? = some p := ⟨_, List.getElem?_eq_getElem il⟩
      have mem : p ∈ L := List.mem_of_getElem? hp
      have live : t.slot (way t.mask (mHash P w k) (c + q)) = .live i := slot_live R.tab.ris hi
      have rest_ : wpAny (model P w) A (searchRest a (.ref x) (mHash P w k) true fuel es t (way t.mask (mHash P w k) (c + q)) i (prb t (mHash P w k) (c + (q + 1)))) Q E s := by
        unfold searchRest
        rw [R.at hp]
        dsimp only
        refine wpAny_bind (wpAny_holding (wpAny_eqBool_tuple hu (ks p mem) hx ?_))
        refine wpAny_bind (wpAny_setState_of ho hd R.fits ?_)
        dsimp only
        by_cases eq : p.2 = k
        · exact wp_if_pos (by simp [eq]) (wpAny_pure (yes (List.mem_map.mpr ⟨p, mem, eq⟩)))
        · refine wp_if_neg (by simp [eq]) ?_
          try refine wpAny_bind (wpAny_pure ?_)
          rw [sameMem]
          dsimp only
          simp only [if_true, live, R.at hp]
          refine wpAny_bind (wpAny_isSame_ref_self (wpAny_bind (wpAny_pure ?_)))
          simp only [if_true]
          refine wp_if_neg (by simp [eq]) (ih (c + (q + 1)) _ rfl (by omega) (by omega) fun i0 p0 h0 hk0 => ?_)
          obtain ⟨c', l1, l2, l3⟩ := ahead i0 p0 h0 hk0
          refine ⟨c', ?_, l2, l3⟩
          rcases Nat.lt_trichotomy c' (c + q) with z | z | z
          · exact (none_before (c' - c) i0 (by omega) (by rw [jAt, show c + (c' - c) = c' by omega]; exact l3) ((hashAt i0 p0 h0).trans (congrArg (mHash P w) hk0))).elim
          · rw [z] at l3
            have s0 := slot_live R.tab.ris l3
            rw [live] at s0
            injection s0 with s0
            rw [← s0, hp] at h0
            exact (eq ((congrArg Prod.snd (Option.some.inj h0)).trans hk0)).elim
          · omega
      by_cases led : t.led = true
      · refine wp_if_neg (by simp [led]) ?_
        try refine wpAny_bind (wpAny_pure ?_)
        exact rest_
      · refine wp_if_pos (by simp [led]) (wpAny_bind (unseen hx (fun y hy => ?_) ?_))
        · obtain ⟨e, he, rfl⟩ := List.mem_map.mp hy
          have he2 : e ∈ es ∧ e.1 = mHash P w k := by simpa using he
          have he3 : e ∈ es.toList := by simpa using he2.1
          rw [R.rows] at he3
          obtain ⟨p2, hp2, rfl⟩ := List.mem_map.mp he3
          exact ⟨p2.2, p2.1, rfl, ks p2 hp2⟩
        · refine wp_if_neg (by decide) ?_
          try refine wpAny_bind (wpAny_pure ?_)
          exact rest_
    · -- a free place
      rw [jAt, toK] at found
      rw [hst]
      have found : t.probe (fun i => (es[i]?.map (·.1)).getD 0) (mHash P w k) (prb t (mHash P w k) c) = some (.empty (way t.mask (mHash P w k) K) none) := found
      rw [found]
      dsimp only
      refine wpAny_pure (no fun hm => ?_)
      obtain ⟨p0, h0, hk0⟩ := List.mem_map.mp hm
      obtain ⟨i0, hi0, e0⟩ := List.getElem_of_mem h0
      have h00 : L[i0]? = some p0 := by rw [List.getElem?_eq_getElem hi0, e0]
      obtain ⟨c', l1, l2, l3⟩ := ahead i0 p0 h00 hk0
      exact none_before (c' - c) i0 (by omega) (by rw [jAt, show c + (c' - c) = c' by omega]; exact l3) ((hashAt i0 p0 h00).trans (congrArg (mHash P w) hk0))
theorem seek_all (ob : ObM s.heap a es ep t) (R : TabM P w L es t) (ks : KeysM P w s.heap L) {x : Addr} {k : List Key} (hx : IsM P w s.heap k x) (hu : A.units < cLine) {Q : SetFound → Shared → Prop} (yes : k ∈ L.map (·.2) → Q (.there none) s)
    (no : ∀ K, k ∉ L.map (·.2) → way t.mask (mHash P w k) K ∉ t.place.toList → (∀ c, c < K → way t.mask (mHash P w k) c ∈ t.place.toList) → Q (.free (way t.mask (mHash P w k) K) false) s) : wpAny (model P w) A (setSearch a (.ref x) (mHash P w k) true) Q E s := by
  have room := R.room
  obtain ⟨K, bound, gap, full⟩ := R.tab.first (by rw [hashes_len]; omega) (mHash P w k)
  have small : K < 100000 := by
    have : 10 * SetTable.turns t.mask ≤ 1420 := by
      unfold SetTable.turns
      rcases R.tab.mok with e | e | e <;> omega
    omega
  unfold setSearch
  refine seek ob R ks hx hu bound gap full yes (fun n => no K n gap full) 100000 0 none rfl (Nat.zero_le _) (by omega) fun i p hp hk => ?_
  have hi : (hashes P w L)[i]? = some (mHash P w k) := by
    unfold hashes
    rw [List.getElem?_map, hp, ← hk]
    rfl
  have il : i < t.place.toList.length := by
    have h1 : i < L.length := (List.getElem?_eq_some_iff.mp hp).1
    have h2 := R.tab.sz
    rw [hashes_len] at h2
    rw [Array.length_toList]
    omega
  obtain ⟨c, hc, e⟩ := R.tab.before gap hi (List.getElem?_eq_getElem il)
  exact ⟨c, Nat.zero_le _, hc, by rw [e]; exact List.getElem?_eq_getElem il⟩
end
end FF
namespace FF
open PySem PySem.Spec PyProof.Rows L2
section
variable {P : Program} {w : World} {A : Around} {E : Value → Shared → Prop} {s : Shared} {a : Addr} {L : MRows} {es : Array (Int × Value)} {ep : Nat} {t : SetTable}
/-- a key's tuple isn't the set -/
theorem isM_same {h h' : Heap} {k : List Key} {b : Addr} (kb : IsM P w h k b) (ob : ObM h a es ep t) (but : Heap.SameBut a h h') : IsM P w h' k b := by
  obtain ⟨o, items, n, ho, hc, hd, hi⟩ := kb
  obtain ⟨o', ho', _, hd'⟩ := ob
  refine ⟨o, items, n, (but.2 b ?_).trans ho, hc, hd, hi⟩
  rintro rfl
  obtain rfl : o = o' := Option.some.inj (ho.symm.trans ho')
  rw [hd'] at hd
  cases hd
theorem KeysM.same {h h' : Heap} (ks : KeysM P w h L) (ob : ObM h a es ep t) (but : Heap.SameBut a h h') : KeysM P w h' L := fun p m => isM_same (ks p m) ob but
/-- entries picked by an order of all places are entries of rows in that order -/
theorem picked (hr : es.toList = entries P w L) {order : List Nat} (hp : order.Perm (List.range L.length)) :
    ∃ L2 : MRows, order.filterMap (fun i => es[i]?) = entries P w L2 ∧ L2.Perm L ∧ hashes P w L2 = order.map fun i => (es.map (·.1)).getD i 0 := by
  have at_ : ∀ i (h : i < L.length), es[i]? = some (mHash P w (L[i]).2, Value.ref (L[i]).1) := fun i h => by
    rw [← Array.getElem?_toList, hr]
    unfold entries
    rw [List.getElem?_map, List.getElem?_eq_getElem h]
    rfl
  have key : ∀ l : List Nat, (∀ i ∈ l, i < L.length) → l.filterMap (fun i => es[i]?) = entries P w (l.filterMap fun i => L[i]?) ∧ hashes P w (l.filterMap fun i => L[i]?) = l.map fun i => (es.map (·.1)).getD i 0 := by
    intro l
    induction l with
    | nil => exact fun _ => ⟨rfl, rfl⟩
    | cons i l ih =>
      intro hl
      have hi := hl i List.mem_cons_self
      obtain ⟨e1, e2⟩ := ih fun j hj => hl j (List.mem_cons_of_mem _ hj)
      have e3 : (es.map (·.1)).getD i 0 = mHash P w (L[i]).2 := by
        have : (es.map (·.1))[i]? = some (mHash P w (L[i]).2) := by
          rw [Array.getElem?_map, at_ i hi]
          rfl
        rw [Array.getD_eq_getD_getElem?, this]
        rfl
      rw [List.filterMap_cons_some (at_ i hi), List.filterMap_cons_some (List.getElem?_eq_getElem hi)]
      refine ⟨by rw [e1]; rfl, ?_⟩
      rw [List.map_cons, e3, ← e2]
      rfl
  obtain ⟨e1, e2⟩ := key order fun i hi => List.mem_range.mp (hp.mem_iff.mp hi)
  refine ⟨_, e1, ?_, e2⟩
  have all : (List.range L.length).filterMap (fun i => L[i]?) = L := by
    refine List.ext_getElem? fun j => ?_
    have aux : ∀ n, n ≤ L.length → (List.range n).filterMap (fun i => L[i]?) = L.take n := by
      intro n
      induction n with
      | zero => exact fun _ => rfl
      | succ n ih =>
        intro hn
        rw [List.range_succ, List.filterMap_append, ih (Nat.le_of_lt hn), List.filterMap_cons_some (List.getElem?_eq_getElem hn), List.take_add_one, List.getElem?_eq_getElem hn]
        rfl
    rw [aux L.length (Nat.le_refl _), List.take_length]
  have := hp.filterMap fun i => L[i]?
  rw [all] at this
  exact this
/-- the table is laid anew, larger -/
theorem relayM (ob : ObM s.heap a es ep t) (hr : es.toList = entries P w L) (psz : t.place.size = es.size) (dm : t.dummies = #[]) (fl : es.size ≤ t.mask) (nd : (L.map (·.2)).Nodup) (led : w.params.followText "set-order" = true ∨ t.led = true) (few : L.length < 64)
    {wanted M : Nat} (hw : SetTable.sizeAbove wanted - 1 = M) (hM : MaskOk M) (hw2 : SetTable.sizeAbove wanted ≤ 128) (room : L.length * 5 < M * 3) {Q : Unit → Shared → Prop}
    (q : ∀ h' L' es' ep' t', Heap.SameBut a s.heap h' → ObM h' a es' ep' t' → TabM P w L' es' t' → L'.Perm L → Q () { s with heap := h' }) : wpAny (model P w) A (setRelay a wanted) Q E s := by
  obtain ⟨o, ho, hex, hd⟩ := ob
  have n := size_of hr
  obtain ⟨t', order, e, hp, T, em, el, _, ed⟩ := relaid_ok t (hs := es.map (·.1)) (wanted := wanted) hw hM (by rw [Array.size_map, n]; omega)
  rw [Array.size_map, n] at hp
  obtain ⟨L2, r1, r2, r3⟩ := picked hr hp
  rw [← r3] at T
  have r1' : (order.filterMap (es[·]?)).toList = entries P w L2 := by
    rw [← r1]
    simp
  have n2 : (order.filterMap (es[·]?)).size = es.size := by rw [size_of r1', r2.length_eq, n]
  rw [setRelay_eq]
  refine wpAny_bind (wpAny_setState_of ho hd (fits_by (n := 0) psz dm fl) ?_)
  dsimp only
  refine wp_if_neg (by rw [sizeLine_eq]; omega) ?_
  try refine wpAny_bind (wpAny_pure ?_)
  rw [e]
  dsimp only
  refine wpAny_bind ?_
  refine wp_if_neg (by rw [n2]; simp) ?_
  try refine wpAny_bind (wpAny_pure ?_)
  refine wpAny_pure ?_
  dsimp only
  refine wpAny_storeSet_of ho hd ?_ (by rw [n2, n, sizeLine_eq]; omega)
  refine q _ L2 (order.filterMap (es[·]?)) (ep + 1) t' (Heap.SameBut.update ..) ⟨_, store_at ho hd, ⟨hex.1, hex.2.1, hex.2.2⟩, rfl⟩ ⟨r1', T, ?_, by rw [el]; exact led, ?_, by rw [r2.length_eq]; exact few⟩ r2
  · exact (r2.map (·.2)).nodup_iff.mpr nd
  · rw [r2.length_eq, em]; exact room
/-- ADDING the tuple at x -/
theorem addM (ob : ObM s.heap a es ep t) (R : TabM P w L es t) (ks : KeysM P w s.heap L) {x : Addr} {k : List Key} (hx : IsM P w s.heap k x) (hu : A.units < cLine) (few : L.length + 1 < 64) {Q : Bool → Shared → Prop}
    (q : ∀ b h' L' es' ep' t', Heap.SameBut a s.heap h' → ObM h' a es' ep' t' → TabM P w L' es' t' → (k ∈ L.map (·.2) → L' = L) → (k ∉ L.map (·.2) → L'.Perm ((x, k) :: L)) → Q b { s with heap := h' }) :
    wpAny (model P w) A (setAddHashed a (.ref x) (mHash P w k)) Q E s := by
  obtain ⟨o, ho, hex, hd⟩ := id ob
  have n := R.size
  have room := R.room
  unfold setAddHashed
  refine wpAny_holding ?_
  rw [show (100000 : Nat) = 99999 + 1 from rfl, setAddHashedIn_succ]
  refine wpAny_bind (wpAny_setState_of ho hd R.fits ?_)
  dsimp only
  refine wp_if_neg (by simp [byScan, Value.scannable]) ?_
  try refine wpAny_bind (wpAny_pure ?_)
  refine wpAny_bind (seek_all ob R ks hx hu (fun hm => ?_) fun K hm gap full => ?_)
  · dsimp only
    exact wpAny_pure (q false s.heap L es ep t (Heap.SameBut.refl a s.heap) ob R (fun _ => rfl) fun z => absurd hm z)
  · dsimp only
    refine wpAny_bind (wpAny_setState_of ho hd R.fits ?_)
    dsimp only
    obtain ⟨p1, p2, p3, p4, p5, _, _, _, p9⟩ := R.tab.put gap full
    generalize ht1 : t.put (way t.mask (mHash P w k) K) = both at p1 p3 p4 p5 p9 ⊢
    obtain ⟨t1, at_⟩ := both
    dsimp only at p1 p3 p4 p5 p9 ⊢
    subst p1
    have rowsP : (SetTable.insertAt es (SetTable.below t.place (way t.mask (mHash P w k) K)) (mHash P w k, Value.ref x)).toList = entries P w (L.take (SetTable.below t.place (way t.mask (mHash P w k) K)) ++ (x, k) :: L.drop (SetTable.below t.place (way t.mask (mHash P w k) K))) := by
      rw [SetTable.toList_insertAt, R.rows]
      unfold entries
      rw [List.map_append, List.map_cons, List.map_take, List.map_drop]
    have hashP : hashes P w (L.take (SetTable.below t.place (way t.mask (mHash P w k) K)) ++ (x, k) :: L.drop (SetTable.below t.place (way t.mask (mHash P w k) K))) = (hashes P w L).take (SetTable.below t.place (way t.mask (mHash P w k) K)) ++ mHash P w k :: (hashes P w L).drop (SetTable.below t.place (way t.mask (mHash P w k) K)) := by
      unfold hashes
      rw [List.map_append, List.map_cons, List.map_take, List.map_drop]
    rw [← hashP] at p3
    generalize SetTable.below t.place (way t.mask (mHash P w k) K) = pl at p3 rowsP ⊢
    have pm : (L.take pl ++ (x, k) :: L.drop pl).Perm ((x, k) :: L) := put_perm L pl (x, k)
    have nd1 : ((L.take pl ++ (x, k) :: L.drop pl).map (·.2)).Nodup := by
      refine (pm.map (·.2)).nodup_iff.mpr ?_
      rw [List.map_cons]
      exact List.nodup_cons.mpr ⟨hm, R.nd⟩
    have n1 := size_of rowsP
    generalize SetTable.insertAt es pl (mHash P w k, Value.ref x) = es1 at rowsP n1 ⊢
    generalize L.take pl ++ (x, k) :: L.drop pl = L1 at pm p3 nd1 rowsP n1
    have len1 : L1.length = L.length + 1 := pm.length_eq
    -- behind the question whether all is by value
    have rest_ : ∀ t2 : SetTable, t2.place = t1.place → t2.dummies = t1.dummies → t2.mask = t1.mask → t2.led = t1.led → wpAny (model P w) A (do
        storeSet a es1 t2
        if (!false && t2.tooFull) = true then setRelay a (SetTable.grown (es.size + 1))
        return true) Q E s := by
      intro t2 g1 g2 g3 g4
      have T2 : TabOk t2 (hashes P w L1) := ⟨by rw [g1]; exact p3.ris, by rw [g2]; exact p3.dm, by rw [g1]; exact p3.sz, by rw [g3]; exact p3.mok, by rw [g1, g3]; exact p3.bd, by rw [g1, g3]; exact p3.reach⟩
      have fill2 : t2.fill = L.length + 1 := by
        unfold SetTable.fill
        rw [g1, g2]
        have := p9
        unfold SetTable.fill at this
        rw [this, hashes_len]
      have led2 : w.params.followText "set-order" = true ∨ t2.led = true := by rw [g4, p5]; exact R.led
      refine wpAny_bind (wpAny_storeSet_of ho hd ?_ (by rw [n1, len1, sizeLine_eq]; omega))
      have but : Heap.SameBut a s.heap (s.heap.update a (Obj.putSet es1 t2)) := Heap.SameBut.update ..
      have ho1 := store_at (es' := es1) (t' := t2) ho hd
      generalize s.heap.update a (Obj.putSet es1 t2) = h1 at but ho1 ⊢
      have ob1 : ObM h1 a es1 (ep + 1) t2 := ⟨_, ho1, ⟨hex.1, hex.2.1, hex.2.2⟩, rfl⟩
      have mask2 : t2.mask = t.mask := g3.trans p4
      have psz1 : t2.place.size = es1.size := by
        have h := T2.sz
        rw [hashes_len] at h
        rw [h, n1]
      by_cases full2 : t2.tooFull = true
      · refine wp_if_pos (by simp [full2]) (wpAny_bind ?_)
        have many : (L.length + 1) * 5 ≥ t2.mask * 3 := by
          have h := full2
          unfold SetTable.tooFull at h
          rw [decide_eq_true_eq, fill2] at h
          exact h
        rw [n]
        have cases2 : (t.mask = 7 ∧ L.length = 4) ∨ (t.mask = 31 ∧ L.length = 18) := by
          rw [mask2] at many
          rcases R.tab.mok with e | e | e
          · left; rw [e] at many room; exact ⟨e, by omega⟩
          · right; rw [e] at many room; exact ⟨e, by omega⟩
          · exfalso; rw [e] at many; omega
        have go : ∀ M, SetTable.sizeAbove (SetTable.grown (L.length + 1)) - 1 = M → MaskOk M → SetTable.sizeAbove (SetTable.grown (L.length + 1)) ≤ 128 → (L.length + 1) * 5 < M * 3 →
            wpAny (model P w) A (setRelay a (SetTable.grown (L.length + 1))) (fun _ s' => wpAny (model P w) A (pure true) Q E s') E { s with heap := h1 } := fun M g1 g2 g3 g4 =>
          relayM (s := { s with heap := h1 }) ob1 rowsP psz1 T2.dm (by rw [n1, len1, mask2]; rcases cases2 with ⟨e, e2⟩ | ⟨e, e2⟩ <;> omega) nd1 led2 (by rw [len1]; exact few) g1 g2 g3 (by rw [len1]; exact g4)
            fun h2 L2 es2 ep2 t2 but2 ob2 R2 pm2 => wpAny_pure (q true h2 L2 es2 ep2 t2 (but.trans but2) ob2 R2 (fun z => absurd z hm) fun _ => pm2.trans pm)
        rcases cases2 with ⟨_, e2⟩ | ⟨_, e2⟩
        · exact go 31 (by rw [e2, size_20]) (.inr (.inl rfl)) (by rw [e2, size_20]; decide) (by omega)
        · exact go 127 (by rw [e2, size_76]) (.inr (.inr rfl)) (by rw [e2, size_76]; decide) (by omega)
      · refine wp_if_neg (by simp [full2]) ?_
        try refine wpAny_bind (wpAny_pure ?_)
        refine wpAny_pure (q true h1 L1 es1 (ep + 1) t2 but ob1 ⟨rowsP, T2, nd1, led2, ?_, by rw [len1]; exact few⟩ (fun z => absurd z hm) fun _ => pm)
        have h := full2
        unfold SetTable.tooFull at h
        rw [decide_eq_true_eq, fill2] at h
        rw [len1]
        omega
    by_cases pln : t1.plain = true
    · first
        | (refine wpAny_bind ?_; refine wp_if_pos pln ?_; refine byVal hx fun c => ?_)
        | refine wp_if_pos pln (wpAny_bind (byVal hx fun c => ?_))
      cases c with
      | true => exact rest_ t1 rfl rfl rfl rfl
      | false => exact rest_ { t1 with plain := false } rfl rfl rfl rfl
    · first
        | (refine wpAny_bind ?_; refine wp_if_neg pln ?_; refine wpAny_pure ?_)
        | refine wp_if_neg pln (wpAny_bind (wpAny_pure ?_))
      exact rest_ t1 rfl rfl rfl rfl
end
end FF
set_option Elab.async false
set_option linter.all false
set_option maxRecDepth 100000
set_option maxHeartbeats 4000000
namespace FF
open PySem PySem.Spec PyProof.Rows L2
def SetM (P : Program) (w : World) (h : Heap) (a : Addr) (L : MRows) : Prop := ∃ es ep t, ObM h a es ep t ∧ TabM P w L es t
def SetMO (P : Program) (w : World) (a : Addr) (L : MRows) : HO := .ext fun h => SetM P w h a L
section
variable {P : Program} {w : World}
theorem ObM.at {h h' : Heap} {a : Addr} {es : Array (Int × Value)} {ep : Nat} {t : SetTable} (ob : ObM h a es ep t) (k : ∀ o, h.get? a = some o → h'.get? a = some o) : ObM h' a es ep t := let ⟨o, ho, r⟩ := ob; ⟨o, k o ho, r⟩
theorem setM_ok {H : Hp} {h : Heap} {a : Addr} {L : MRows} (R : SetM P w h a L) : ObjOk P w H h a (SetMO P w a L) := by
  have ⟨es, ep, t, ob, _⟩ := R
  have ⟨o, ho, _⟩ := ob
  exact ⟨R, ⟨o, ho⟩, fun h1 h2 ⟨es, ep, t, ob, T⟩ k => ⟨es, ep, t, ob.at k, T⟩⟩
theorem tabM_new {w : World} : TabM P w [] #[] (.fresh 0 0 (!w.params.followText "set-order")) where
  rows := rfl
  tab := ⟨List.Pairwise.nil, rfl, rfl, .inl rfl, fun x hx => (by cases hx), fun i h j hi => (by simp [hashes] at hi)⟩
  nd := List.nodup_nil
  led := by
    show _ ∨ (!w.params.followText "set-order") = true
    cases w.params.followText "set-order"
    · exact .inr rfl
    · exact .inl rfl
  room := by
    show 0 * 5 < 7 * 3
    decide
  few := by
    show 0 < 64
    decide
theorem isM_keep {h h' : Heap} {k : List Key} {b : Addr} (x : IsM P w h k b) (kp : ∀ c o, h.get? c = some o → h'.get? c = some o) : IsM P w h' k b := let ⟨o, items, n, ho, r⟩ := x; ⟨o, items, n, kp b o ho, r⟩
section
variable {X : Cx} {pins : List (Addr × Obj)} {σ : L2.St} {H : Hp} {s : Shared}
theorem Inv.isM {b : Addr} {k : List Key} (I : Inv X pins σ H s) (h : H b = some (.tup (k.map kV))) : IsM X.prog X.w s.heap k b := key_of I.hok h
/-- D.add(the tuple at x), as the machine does it -/
theorem setM_add {A : Around} {Er : Value → Shared → Prop} {D x : Addr} {L : MRows} {k : List Key} {Q : Bool → Shared → Prop} (I : Inv X pins σ H s) (hu : A.units < cLine) (hD : H D = some (SetMO X.prog X.w D L)) (ks : ∀ p ∈ L, H p.1 = some (.tup (p.2.map kV))) (hx : H x = some (.tup (k.map kV))) (few : L.length + 1 < 64)
    (q : ∀ b s' L', Inv X pins σ (upd H D (SetMO X.prog X.w D L')) s' → (k ∈ L.map (·.2) → L' = L) → (k ∉ L.map (·.2) → L'.Perm ((x, k) :: L)) → Q b s') : wpAny (model X.prog X.w) A (setAdd D (.ref x)) Q Er s := by
  obtain ⟨es, ep, t, ob, R⟩ := (I.hok D _ hD).1
  unfold setAdd
  refine wpAny_holding (wpAny_bind (wpAny_pyHash_tuple hu (Inv.isM I hx) ?_))
  refine addM (s := { s with toks := s.toks + (k.length + 1) }) ob R (fun p m => Inv.isM (I.tok _) (ks p m)) (Inv.isM (I.tok _) hx) hu few fun b h' L' es' ep' t' but ob' R' c1 c2 => q b _ L' ?_ c1 c2
  have ⟨o, ho, _⟩ := ob'
  exact d_write (I.tok _) (by rw [hD]; trivial) but ⟨o, ho⟩ (setM_ok ⟨es', ep', t', ob', R'⟩)
end

/-- what the set has got from the first i tuples -/
structure GotM (ks : MRows) (i : Nat) (L : MRows) : Prop where
  sub : ∀ p ∈ L, p ∈ ks.take i
  all : ∀ p ∈ ks.take i, p.2 ∈ L.map (·.2)
  len : L.length ≤ i
theorem GotM.step {ks L L' : MRows} {i : Nat} {x : Addr × List Key} (g : GotM ks i L) (h : ks[i]? = some x) (c1 : x.2 ∈ L.map (·.2) → L' = L) (c2 : x.2 ∉ L.map (·.2) → L'.Perm (x :: L)) : GotM ks (i + 1) L' := by
  have e : ks.take (i + 1) = ks.take i ++ [x] := by
    rw [List.take_add_one, h]
    rfl
  by_cases c : x.2 ∈ L.map (·.2)
  · obtain rfl := c1 c
    refine ⟨fun p m => ?_, fun p m => ?_, Nat.le_succ_of_le g.len⟩
    · rw [e]; exact List.mem_append_left _ (g.sub p m)
    · rw [e] at m
      rcases List.mem_append.mp m with m | m
      · exact g.all p m
      · rw [List.mem_singleton.mp m]; exact c
  · have pm := c2 c
    refine ⟨fun p m => ?_, fun p m => ?_, ?_⟩
    · rw [e]
      rcases List.mem_cons.mp (pm.mem_iff.mp m) with rfl | m
      · exact List.mem_append_right _ (List.mem_singleton.mpr rfl)
      · exact List.mem_append_left _ (g.sub p m)
    · rw [(pm.map (·.2)).mem_iff, List.map_cons]
      rw [e] at m
      rcases List.mem_append.mp m with m | m
      · exact List.mem_cons_of_mem _ (g.all p m)
      · rw [List.mem_singleton.mp m]; exact List.mem_cons_self
    · rw [pm.length_eq, List.length_cons]
      exact Nat.succ_le_succ g.len
section
variable {A : Around} {E : Value → Shared → Prop} {s : Shared}
/-- the loop of set.update over tuples -/
theorem updM {I : Addr} {fp wr : List Addr} {G : Array GenState → Array GenState → Prop} {n : Nat} {Pv : Nat → Value → Prop} {St : Nat → Shared → Prop} {R : Result → Shared → Prop} (W : WalksS P w A.in1 I fp wr G n Pv St) (S : Addr) (nS : S ∉ fp) (ks : MRows) (hn : n = ks.length) (few : ks.length < 64)
    (val : ∀ i v, Pv i v → ∃ p, ks[i]? = some p ∧ v = .ref p.1) (h0 : Heap) (keys : ∀ p ∈ ks, IsM P w h0 p.2 p.1) (S0 : h0.get? S = none) (w0 : ∀ b ∈ wr, h0.get? b = none) (hu : A.in1.units < cLine) :
    ∀ (m i : Nat) (s : Shared), n - i = m → i ≤ n → St i s → (∀ b o, h0.get? b = some o → s.heap.get? b = some o) → (∃ L, SetM P w s.heap S L ∧ GotM ks i L) →
      (∀ s' L, Moved (S :: wr) G s s' → SetM P w s'.heap S L → GotM ks n L → (∀ b o, h0.get? b = some o → s'.heap.get? b = some o) → R (.ok (.ret .none)) s') →
      codeAny (model P w) A (.builtin "set.update.loop" ⟨[.ref S, .ref I], []⟩) R s := by
  have nSw : S ∉ wr := fun h => nS (W.sub _ h)
  have kept : ∀ {s s' : Shared}, Moved wr G s s' → (∀ b o, h0.get? b = some o → s.heap.get? b = some o) → ∀ b o, h0.get? b = some o → s'.heap.get? b = some o := fun mv k b o e => mv.heap b o (fun hb => by rw [w0 b hb] at e; cases e) (k b o e)
  have more : ∀ b ∈ wr, b ∈ S :: wr := fun b hb => List.mem_cons_of_mem _ hb
  intro m
  induction m with
  | zero =>
    intro i s hm hi st kp ⟨L, hS, g⟩ fin
    obtain rfl : i = n := by omega
    refine codeAny_builtin F.entry_set_update_loop ?_
    rw [Around.under_plainId F.plain_set_update_loop _]
    show wpAny _ A.in1 (pyNext (.ref I) >>= _) _ _ s
    refine wpAny_bind (W.done s _ _ st fun s' mv => ?_)
    obtain ⟨es, ep, t, ob, T⟩ := hS
    exact wpAny_pure (fin s' L (mv.mono more) ⟨es, ep, t, ob.at fun o e => mv.heap S o nSw e, T⟩ g (kept mv kp))
  | succ m ih =>
    intro i s hm hi st kp ⟨L, ⟨es, ep, t, ob, T⟩, g⟩ fin
    have lt : i < n := by omega
    refine codeAny_builtin F.entry_set_update_loop ?_
    rw [Around.under_plainId F.plain_set_update_loop _]
    show wpAny _ A.in1 (pyNext (.ref I) >>= _) _ _ s
    refine wpAny_bind (W.item i s _ _ lt st fun v s' hP st' mv => ?_)
    obtain ⟨p, hp, rfl⟩ := val i v hP
    have kp' := kept mv kp
    have ob' : ObM s'.heap S es ep t := ob.at fun o e => mv.heap S o nSw e
    have ksL : KeysM P w s'.heap L := fun q m => isM_keep (keys q (List.mem_of_mem_take (g.sub q m))) kp'
    have hx : IsM P w s'.heap p.2 p.1 := isM_keep (keys p (List.mem_of_getElem? hp)) kp'
    show wpAny _ A.in1 (holding [Value.ref p.1] (setAdd S (.ref p.1)) >>= _) _ _ s'
    refine wpAny_bind (wpAny_holding ?_)
    unfold setAdd
    refine wpAny_holding (wpAny_bind (wpAny_pyHash_tuple hu hx ?_))
    refine addM (s := { s' with toks := s'.toks + (p.2.length + 1) }) ob' T ksL hx hu (by have := g.len; omega) fun b h' L' es' ep' t' but ob2 T2 c1 c2 => ?_
    have kp2 : ∀ b o, h0.get? b = some o → h'.get? b = some o := fun b o e => (but.2 b fun z => by rw [z, S0] at e; cases e).trans (kp' b o e)
    refine wpAny_pure ⟨plainId_quiet F.plain_set_update_loop _, ih (i + 1) _ (by omega) lt (W.frame _ s' _ _ st' (Nat.le_add_right _ _) fun b hb o e => ?_) kp2 ⟨L', ⟨es', ep', t', ob2, T2⟩, g.step hp c1 c2⟩ fun s2 L2 mv2 hS2 g2 kp3 => ?_⟩
    · exact (but.2 b fun z => nS (z ▸ hb)).trans e
    · refine fin s2 L2 (Moved.trans W.gtrans ((mv.mono more).then_heap (Nat.le_add_right _ _) fun b o hb e => ?_) mv2) hS2 g2 kp3
      exact (but.2 b fun z => hb (by rw [z]; exact List.mem_cons_self)).trans e
set_option maxHeartbeats 8000000 in
/-- set(xs), as far as the loop that fills it -/
theorem setOf_by {l : Addr} {items : Array Value} {Q : Value → Shared → Prop} {Post : Heap → Prop} (hl : s.heap.IsList l items)
    (loop : ∀ R : Result → Shared → Prop, (∀ (h' : Heap) (tk : Nat), Post h' → (∀ b o, s.heap.get? b = some o → h'.get? b = some o) → R (.ok (.ret .none)) { s with heap := h', toks := tk }) →
      codeAny (model P w) A.in1.in1 (.builtin "set.update.loop" ⟨[.ref s.heap.objs.size, .ref (s.heap.push { cls := .type "set", dict := none, data := .set #[] 0 (.fresh 0 0 (!w.params.followText "set-order")) }).objs.size], []⟩) R { s with heap := (s.heap.push { cls := .type "set", dict := none, data := .set #[] 0 (.fresh 0 0 (!w.params.followText "set-order")) }).push { cls := .type "list_iterator", data := .fields #[.ref l, .int 0 0] } })
    (q : ∀ (h' : Heap) (tk : Nat), Post h' → (∀ b o, s.heap.get? b = some o → h'.get? b = some o) → Q (.ref s.heap.objs.size) { s with heap := h', toks := tk }) : wpAny (model P w) A (call (.type "set") [.ref l]) Q E s := by
  obtain ⟨c, tl, hmro⟩ := F.called_set.mro
  have made_ := F.called_set.made
  have sub_ := F.called_set.sub
  refine wpAny_call (codeAny_of_tree ?_)
  show wpAny _ _ (callAny (.type "set") _) _ _ _
  refine wpAny_pure ⟨Code.quiet_builtin _ (by decide +kernel), codeAny_builtin F.entry_type_call ?_⟩
  rw [Around.under_plain (weight_type_call_type "set" [.ref l] []) rfl]
  have not_ := F.called_set.notType
  have can_ := F.called_set.canCreate
  have call_ := F.typeCall_set_1 (.ref l)
  repeat (any_goals (first | assumption | wp_step))
  refine codeAny_mono (code_set_led1 (.ref l) (E := E) (Q₁ := fun obj s₁ => obj = .ref s.heap.objs.size ∧ s₁ = { s with heap := s.heap.push { cls := .type "set", dict := none, data := .set #[] 0 (.fresh 0 0 (!w.params.followText "set-order")) } }) ⟨rfl, rfl⟩) fun r z hr => ?_
  cases r with
  | error e => exact hr
  | ok fl =>
    cases fl with
    | ret obj =>
      obtain ⟨rfl, rfl⟩ := hr
      have hS : (s.heap.push { cls := .type "set", dict := none, data := .set #[] 0 (.fresh 0 0 (!w.params.followText "set-order")) }).get? s.heap.objs.size = some { cls := .type "set", dict := none, data := .set #[] 0 (.fresh 0 0 (!w.params.followText "set-order")) } := Heap.get?_push_size _ rfl
      have hT : Shared.TypeIs { s with heap := s.heap.push { cls := .type "set", dict := none, data := .set #[] 0 (.fresh 0 0 (!w.params.followText "set-order")) } } (.ref s.heap.objs.size) "set" := ⟨_, hS, rfl⟩
      have look_ := F.called_set.init.lookup
      have bind_ := F.called_set.init.bind (.ref s.heap.objs.size)
      repeat (any_goals (first | assumption | wp_step))
      refine codeAny_mono (codeAny_call_builtin (R := wants (fun r z2 => r = .none ∧ ∃ h' tk, z2 = { s with heap := h', toks := tk } ∧ Post h' ∧ (∀ b o, s.heap.get? b = some o → h'.get? b = some o)) E) F.called_set.init.plain F.entry_set_init (check_set_init_1 hT ?_)) fun r2 z2 hr2 => ?_
      · obtain ⟨⟨ocls, odict, odata, oslots⟩, hol, hcl, nl, hdl⟩ := hl
        obtain rfl : ocls = .type "list" := hcl
        obtain rfl : odata = .seq items nl := hdl
        have at_ : (s.heap.push { cls := .type "set", dict := none, data := .set #[] 0 (.fresh 0 0 (!w.params.followText "set-order")) }).get? l = some { cls := .type "list", dict := odict, data := .seq items nl, slots := oslots } := Heap.get?_push_of_some _ hol
        have ls_ := F.sub_list_set
        have lf_ := F.sub_list_frozenset
        have ne_ : (Value.type "list" == Value.type "dict") = false := by decide
        have hl1 : (s.heap.push { cls := .type "set", dict := none, data := .set #[] 0 (.fresh 0 0 (!w.params.followText "set-order")) }).IsList l items := ⟨_, at_, rfl, nl, rfl⟩
        unfold Builtin.«set.__init__» noKeywords Builtin.Frozenset.updateFrom
        generalize hPI : pyIter = PI
        wp_walk
        subst hPI
        refine wpAny_pyIter_list hl1 (wpAny_bind (wpAny_runValue (loop _ fun h' tk po kp => ?_)))
        show wpAny _ _ _ _ _ _
        refine wpAny_pure ?_
        show wpAny _ _ (ret Value.none) _ _ _
        exact wpAny_pure ⟨rfl, h', tk, rfl, po, kp⟩
      · cases r2 with
        | error e => exact hr2
        | ok fl2 =>
          cases fl2 with
          | ret r =>
            obtain ⟨rfl, h', tk, rfl, po, kp⟩ := hr2
            repeat (any_goals (first | assumption | wp_step))
            exact q _ _ po kp
          | _ => exact hr2.elim
    | _ => exact hr.elim
theorem none_at (h : Heap) (b : Addr) (hb : h.objs.size ≤ b) : h.get? b = none := Heap.get?_none_of_le hb
/-- set(xs) -/
theorem setOfM {l : Addr} {items : Array Value} (ks : MRows) {Q : Value → Shared → Prop} (hh : A.handled = none) (hl : s.heap.IsList l items) (hit : items.toList = ks.map fun p => Value.ref p.1) (keys : ∀ p ∈ ks, IsM P w s.heap p.2 p.1) (few : ks.length < 64) (hu : A.units + 3 < cLine)
    (q : ∀ (h' : Heap) (tk : Nat) L, SetM P w h' s.heap.objs.size L → GotM ks ks.length L → (∀ b o, s.heap.get? b = some o → h'.get? b = some o) → Q (.ref s.heap.objs.size) { s with heap := h', toks := tk }) : wpAny (model P w) A (call (.type "set") [.ref l]) Q E s := by
  have n : items.size = ks.length := by rw [← Array.length_toList, hit, List.length_map]
  refine setOf_by (Post := fun h' => ∃ L, SetM P w h' s.heap.objs.size L ∧ GotM ks ks.length L) hl (fun R fin => ?_) fun h' tk ⟨L, a, b⟩ kp => q h' tk L a b kp
  have ltS : l < s.heap.objs.size := hl.choose_spec.1 |> Heap.lt_size
  have hh3 : A.in1.in1.in1.handled = none := by simp [hh]
  have szI : (s.heap.push { cls := .type "set", dict := none, data := .set #[] 0 (.fresh 0 0 (!w.params.followText "set-order")) }).objs.size = s.heap.objs.size + 1 := Heap.size_push ..
  have neI : l ≠ (s.heap.push { cls := .type "set", dict := none, data := .set #[] 0 (.fresh 0 0 (!w.params.followText "set-order")) }).objs.size := by rw [szI]; exact Nat.ne_of_lt (Nat.lt_succ_of_lt ltS)
  have nS : s.heap.objs.size ∉ [(s.heap.push { cls := .type "set", dict := none, data := .set #[] 0 (.fresh 0 0 (!w.params.followText "set-order")) }).objs.size, l] := by
    rw [szI]
    simp only [List.mem_cons, List.not_mem_nil, or_false, not_or]
    exact ⟨Nat.ne_of_lt (Nat.lt_succ_self _), Nat.ne_of_gt ltS⟩
  have val : ∀ (i : Nat) (v : Value), items[i]? = some v → ∃ p, ks[i]? = some p ∧ v = .ref p.1 := fun i v hv => by
    rw [← Array.getElem?_toList, hit, List.getElem?_map] at hv
    obtain ⟨p, hp, e⟩ := Option.map_eq_some_iff.mp hv
    exact ⟨p, hp, e.symm⟩
  refine updM ((Walks.list hh3 _ l neI items).toS) s.heap.objs.size nS ks n few val s.heap keys (none_at _ _ (Nat.le_refl _)) (fun b hb => none_at _ _ (by
    rw [List.mem_singleton.mp hb, szI]
    exact Nat.le_succ _)) hu (items.size - 0) 0 _ (by omega) (Nat.zero_le _) ⟨⟨_, Heap.get?_push_size _ rfl, rfl, rfl⟩, ((hl.push _).push _)⟩ (fun b o e => Heap.get?_push_of_some _ (Heap.get?_push_of_some _ e)) ?first ?last
  case first =>
    exact ⟨[], ⟨#[], 0, _, ⟨_, Heap.get?_push_of_some _ (Heap.get?_push_size _ rfl), ⟨rfl, rfl, rfl⟩, rfl⟩, tabM_new⟩, fun p h => (by cases h), fun p h => (by simp at h), Nat.zero_le _⟩
  case last =>
    intro s' L mv hS' g' kp
    obtain ⟨h', g2, d', tk', os'⟩ := s'
    obtain rfl : g2 = s.gens := mv.gens
    obtain rfl : d' = s.drawn := mv.drawn
    obtain rfl : os' = s.os := mv.os
    rw [n] at g'
    exact fin h' tk' ⟨L, hS', g'⟩ kp
end
end
/-- set(xs), xs a list of fewer than 64 such tuples -/
def rSetM (K : PySem.W.Frag) (P : Program) (w : World) : List V → Hp → VK → Prop := fun xs H Q => ∃ (l : Addr) (ks : MRows), xs = [V.ref l] ∧ SqL K H l (ks.map fun p => V.ref p.1) ∧ (∀ p ∈ ks, H p.1 = some (.tup (p.2.map kV))) ∧ ks.length < 64 ∧
  ∀ a L, H a = none → (∀ p ∈ L, p ∈ ks) → (∀ p ∈ ks, p.2 ∈ L.map (·.2)) → (L.map (·.2)).Nodup → L.length < 64 → Q (.ref a) (upd H a (SetMO P w a L))
theorem cr_setM {X : Cx} (calm : X.calm = true) (room : X.A.units + 64 < cLine) : CallR X (.type "set") (rSetM X.K X.prog X.w) := by
  intro pins z σ G xs us Q I rel want
  obtain ⟨l, ks, rfl, hl, hk, few, q⟩ := want
  obtain ⟨u, rfl, rx⟩ := vals1 rel
  obtain rfl : u = Value.ref l := rx
  obtain ⟨its, rv, pl, big⟩ := I.list hl
  have free : G z.heap.objs.size = none := I.hok.fresh (Nat.le_refl _)
  have ei : its = (ks.map (·.1)).map Value.ref := refs_at (by rw [List.map_map]; exact rv)
  refine setOfM (P := X.prog) (w := X.w) ks (I.ok.hd calm) pl.isList (by rw [ei, List.map_map]; rfl) (fun p m => Inv.isM I (hk p m)) few (by omega) fun h' tk L hS g kp => ?_
  have hS' := hS
  obtain ⟨es, ep, t, _, T⟩ := hS'
  refine ⟨.ref z.heap.objs.size, _, I.laid (t' := tk) kp (Nat.le_refl _) (setM_ok hS), rfl, q _ L free (fun p m => ?_) (fun p m => ?_) T.nd T.few⟩
  · exact List.mem_of_mem_take (g.sub p m)
  · exact g.all p (by rw [List.take_length]; exact m)
end FF
namespace FF
open PySem PySem.Spec PyProof.Rows L2
def cv : Key → Int ⊕ List Nat
  | .inl i => .inl i
  | .inr x => .inr x.cps.toList
/-- one key before another -/
def kLt (a b : List Key) : Bool := PyProof.Rows.lexLt itemOrd (a.map cv) (b.map cv)
/-- the places that hold texts -/
def Fits (sh : Nat → Bool) (k : List Key) : Prop := k ≠ [] ∧ ∀ i x, k[i]? = some x → x.isRight = sh i
abbrev refsM (ks : MRows) : List Value := ks.map fun p => Value.ref p.1
abbrev refsV (ks : MRows) : List V := ks.map fun p => V.ref p.1
/-- no later one before an earlier one -/
abbrev InOrd (L : MRows) : Prop := L.Pairwise fun p q => kLt q.2 p.2 = false
section
variable {P : Program} {w : World} {sh : Nat → Bool} {h : Heap}
theorem tupItems_of : ∀ {k : List Key} {vs : List Value} (off : Nat), ItemsAre (mixKind P w) k vs → (∀ i x, k[i]? = some x → x.isRight = sh (off + i)) → tupItems sh off vs = some (k.map cv)
  | _, _, _, .nil, _ => rfl
  | _, _, off, .cons (k := k) (ks := ks) h1 t, hs => by
    have h0 := hs 0 k rfl
    rw [Nat.add_zero] at h0
    have ih := tupItems_of (off + 1) t fun i x e => by
      have := hs (i + 1) x (by simpa using e)
      rw [this]
      congr 1
      omega
    rcases keyIs_shape h1 with ⟨i, tk, rfl, rfl⟩ | ⟨x, tk, rfl, rfl⟩
    · have h0 : sh off = false := h0.symm
      unfold tupItems
      rw [h0, if_neg Bool.false_ne_true, ih]
      rfl
    · have h0 : sh off = true := h0.symm
      unfold tupItems
      rw [h0, if_pos rfl, ih]
      rfl
theorem isM_key {k : List Key} {b : Addr} (x : IsM P w h k b) (f : Fits sh k) : G.tupKeyC h sh (.ref b) = some (k.map cv) := by
  obtain ⟨o, items, n, ho, hc, hd, hi⟩ := x
  have e1 : G.isTupObj h (.ref b) = true := by simp [G.isTupObj, ho, hc]
  unfold G.tupKeyC
  rw [if_pos e1]
  simp only [tupKey, ho, hd]
  exact tupItems_of 0 hi fun i x e => by rw [Nat.zero_add]; exact f.2 i x e
theorem isM_tup {k : List Key} {b : Addr} (x : IsM P w h k b) (f : Fits sh k) : ∃ v, TupOf h sh (.ref b) v := by
  obtain ⟨o, items, n, ho, hc, hd, hi⟩ := x
  generalize e : items.toList = l at hi
  cases hi with
  | nil => exact absurd rfl f.1
  | @cons k0 v ks vs h1 t =>
    have h0 := f.2 0 k0 rfl
    refine ⟨v, b, o, items, n, rfl, ho, hc, hd, ?_, fun z => ?_, fun z => ?_⟩
    · rw [← Array.getElem?_toList, e]; rfl
    · rcases keyIs_shape h1 with ⟨i, tk, rfl, rfl⟩ | ⟨x, tk, rfl, rfl⟩
      · exact ⟨i, tk, rfl⟩
      · rw [z] at h0; cases h0
    · rcases keyIs_shape h1 with ⟨i, tk, rfl, rfl⟩ | ⟨x, tk, rfl, rfl⟩
      · rw [z] at h0; cases h0
      · exact ⟨x, tk, rfl⟩
theorem isM_tups : ∀ (ks : MRows), (∀ p ∈ ks, IsM P w h p.2 p.1 ∧ Fits sh p.2) → ∃ fs, TupsOf h sh (refsM ks) fs
  | [], _ => ⟨[], .nil⟩
  | p :: ks, hk => by
    obtain ⟨v, hv⟩ := isM_tup (hk p List.mem_cons_self).1 (hk p List.mem_cons_self).2
    obtain ⟨fs, hf⟩ := isM_tups ks fun q m => hk q (List.mem_cons_of_mem _ m)
    exact ⟨v :: fs, .cons hv hf⟩
theorem lift_perm {α β : Type} {f : α → β} : ∀ {l : List α} {out : List β}, out.Perm (l.map f) → ∃ l' : List α, l'.Perm l ∧ out = l'.map f
  | [], out, p => ⟨[], .nil, p.eq_nil⟩
  | x :: l, out, p => by
    obtain ⟨a, b, rfl⟩ := List.append_of_mem (p.mem_iff.mpr (List.mem_cons_self : f x ∈ (x :: l).map f))
    have p2 : (a ++ b).Perm (l.map f) := List.Perm.cons_inv ((List.perm_middle.symm).trans p)
    obtain ⟨l', h1, h2⟩ := lift_perm p2
    obtain ⟨a', b', rfl, ha, hb⟩ := List.append_eq_map_iff.mp h2
    exact ⟨a' ++ x :: b', List.perm_middle.trans (h1.cons x), by rw [List.map_append, List.map_cons, ha, hb]⟩
theorem out_rows {ks : MRows} (hk : ∀ p ∈ ks, IsM P w h p.2 p.1 ∧ Fits sh p.2) {xs : Array Keyed} (hp : xs.Perm (pairsOf (refsM ks))) (hs : SortedToK (G.tupKindC h sh) xs (pairsOf (refsM ks)).size) :
    ∃ L' : MRows, L'.Perm ks ∧ InOrd L' ∧ xs.map (·.2) = (refsM L').toArray := by
  have sz : (pairsOf (refsM ks)).size = xs.size := by
    have := (Array.perm_iff_toList_perm.mp hp).length_eq
    rw [Array.length_toList, Array.length_toList] at this
    exact this.symm
  rw [sz] at hs
  have pw := sm_pw_of_sorted hs
  have pl := Array.perm_iff_toList_perm.mp hp
  rw [pairsOf_toList] at pl
  have e1 : xs.toList.map (·.2) = xs.toList.map (·.1) := List.map_congr_left fun p hp => (mem_zip_self (pl.mem_iff.mp hp)).1.symm
  have e2 : ((refsM ks).zip (refsM ks)).map (fun p : Keyed => p.1) = refsM ks := List.map_fst_zip (Nat.le_refl _)
  have p1 : (xs.toList.map fun p : Keyed => p.1).Perm (refsM ks) := by
    have q := pl.map fun p : Keyed => p.1
    rw [e2] at q
    exact q
  obtain ⟨L', h1, h2⟩ := lift_perm (f := fun p : Addr × List Key => Value.ref p.1) p1
  refine ⟨L', h1, ?_, ?_⟩
  · have pw2 : (xs.toList.map fun p : Keyed => p.1).Pairwise fun u v => lexLt itemOrd ((G.tupKeyC h sh v).getD []) ((G.tupKeyC h sh u).getD []) = false := List.pairwise_map.mpr pw
    rw [h2] at pw2
    refine List.Pairwise.imp_of_mem (fun {p q} mp mq z => ?_) (List.pairwise_map.mp pw2)
    have kp := hk p (h1.mem_iff.mp mp)
    have kq := hk q (h1.mem_iff.mp mq)
    rw [isM_key kp.1 kp.2, isM_key kq.1 kq.2] at z
    exact z
  · refine Array.toList_inj.mp ?_
    rw [Array.toList_map, e1, h2]
variable {A : Around} {E : Value → Shared → Prop} {s : Shared}
theorem sortRows {ks : MRows} {a : Addr} {n : Nat} {R : PySem.Fin → Shared → Prop} (ho : s.heap.get? a = some (seqObj "list" (refsM ks).toArray n)) (hk : ∀ p ∈ ks, IsM P w s.heap p.2 p.1 ∧ Fits sh p.2) (hL : ks.length ≤ sizeLine)
    (q : ∀ L' : MRows, L'.Perm ks → InOrd L' → R (.done (.ret .none)) { s with heap := sortedHeap s.heap a (refsM ks) (refsM L').toArray }) : wpAny (model P w) A (Builtin.«list.sort» ⟨[.ref a], []⟩) R E s := by
  obtain ⟨fs, hf⟩ := isM_tups ks hk
  refine G.list_sort_tups (shape := sh) ho hf (fun v hv => ?_) (by rw [List.length_map]; exact hL) fun st' p1 p2 _ => ?_
  · obtain ⟨p, hp, rfl⟩ := List.mem_map.mp hv
    exact ⟨_, isM_key (hk p hp).1 (hk p hp).2⟩
  · obtain ⟨L', l1, l2, l3⟩ := out_rows hk p1 p2
    rw [l3]
    exact q L' l1 l2
theorem isM_keeps {h h' : Heap} {k : List Key} {b : Addr} (x : IsM P w h k b) (kp : ∀ c o, h.get? c = some o → h'.get? c = some o) : IsM P w h' k b := isM_keep x kp
/-- sorted(the list at l) -/
theorem sortedRows {ks : MRows} {l : Addr} {Q : Value → Shared → Prop} (hl : s.heap.IsList l (refsM ks).toArray) (hk : ∀ p ∈ ks, IsM P w s.heap p.2 p.1 ∧ Fits sh p.2) (hL : ks.length ≤ sizeLine)
    (q : ∀ L' : MRows, L'.Perm ks → InOrd L' → Q (.ref (s.heap.objs.size + 1)) { s with heap := sortedAll s.heap (refsM ks) (refsM L').toArray }) : wpAny (model P w) A (call (.builtin "sorted") [.ref l]) Q E s := by
  obtain ⟨fs, hf⟩ := isM_tups ks hk
  refine G.sorted_tups (shape := sh) hl hf (fun v hv => ?_) (by rw [List.length_map]; exact hL) fun st' p1 p2 _ => ?_
  · obtain ⟨p, hp, rfl⟩ := List.mem_map.mp hv
    exact ⟨_, isM_key (hk p hp).1 (hk p hp).2⟩
  · obtain ⟨L', l1, l2, l3⟩ := out_rows hk p1 p2
    rw [l3]
    exact q L' l1 l2
end
/-- the addresses say the rows -/
theorem refs_rows {ks : MRows} : ∀ {vs : List Value}, vs.Perm (refsM ks) → ∃ L : MRows, L.Perm ks ∧ vs = refsM L := fun p => lift_perm (f := fun p : Addr × List Key => Value.ref p.1) p
theorem vals_rows : ∀ (ks : MRows), Vals (refsV ks) (refsM ks)
  | [] => .nil
  | p :: ks => .cons rfl (vals_rows ks)
/-- what is known behind a sorted(..) of rows -/
def SortQ (ks : MRows) (H : Hp) (Q : VK) : Prop := ∀ (L : MRows) (p : Addr), L.Perm ks → InOrd L → H p = none → Q (.ref p) (upd H p (.lst (refsV L)))
def rSortedM (K : PySem.W.Frag) : List V → Hp → VK → Prop := fun xs H Q => ∃ (l : Addr) (ks : MRows) (sh : Nat → Bool), xs = [V.ref l] ∧ SqL K H l (refsV ks) ∧ (∀ p ∈ ks, H p.1 = some (.tup (p.2.map kV)) ∧ Fits sh p.2) ∧ SortQ ks H Q
def rSortedMS (P : Program) (w : World) : List V → Hp → VK → Prop := fun xs H Q => ∃ (a : Addr) (ks : MRows) (sh : Nat → Bool), xs = [V.ref a] ∧ H a = some (SetMO P w a ks) ∧ (∀ p ∈ ks, H p.1 = some (.tup (p.2.map kV)) ∧ Fits sh p.2) ∧ SortQ ks H Q
def rSortedMD : List V → Hp → VK → Prop := fun xs H Q => ∃ (d : Addr) (kvs : List (List Key × V)) (sh : Nat → Bool), xs = [V.ref d] ∧ Rd H d (.dT kvs) ∧ (∀ p ∈ kvs, Fits sh p.1) ∧
  ∀ ks : MRows, ks.map (·.2) = kvs.map (·.1) → (∀ p ∈ ks, H p.1 = some (.tup (p.2.map kV))) → SortQ ks H Q
section
variable {X : Cx} {pins : List (Addr × Obj)} {σ : L2.St} {H : Hp} {s s1 : Shared}
theorem laid_rows {L : MRows} {p : Addr} {c : Nat} {h' : Heap} (I : Inv X pins σ H s) (kp : ∀ b o, s.heap.get? b = some o → h'.get? b = some o) (hp : s.heap.objs.size ≤ p) (hL : L.length ≤ sizeLine) (hg : h'.get? p = some (seqObj "list" (refsM L).toArray c)) :
    Inv X pins σ (upd H p (.lst (refsV L))) { s with heap := h' } := by
  refine I.laid (t' := s.toks) kp hp ⟨by rw [List.length_map]; exact hL, refsM L, c, vals_rows L, hg⟩
theorem cr_sortedM (room : X.A.units + 64 < cLine) : CallR X (.builtin "sorted") (rSortedM X.K) := by
  intro pins s σ H xs us Q I r q
  obtain ⟨l, ks, sh, rfl, hl, hk, q⟩ := q
  obtain ⟨u, rfl, rx⟩ := vals1 r
  obtain rfl : u = Value.ref l := rx
  obtain ⟨its, rv, pl, big⟩ := I.list hl
  have ei : its = refsM ks := by
    have := refs_at (ps := ks.map (·.1)) (us := its) (by rw [List.map_map]; exact rv)
    rw [this, List.map_map]
    rfl
  have big' : ks.length ≤ sizeLine := by
    rw [← List.length_map (f := fun p : Addr × List Key => V.ref p.1)]; exact big
  refine sortedRows (P := X.prog) (w := X.w) (sh := sh) (ks := ks) (by rw [← ei]; exact pl.isList) (fun p m => ⟨Inv.isM I (hk p m).1, (hk p m).2⟩) big' fun L p1 p2 => ?_
  obtain ⟨c, hc⟩ := sortedAll_at s.heap (refsM ks) (refsM L).toArray
  refine ⟨.ref (s.heap.objs.size + 1), _, laid_rows I (fun b o e => sortedAll_old e) (Nat.le_succ _) (by rw [p1.length_eq]; exact big') hc, rfl, q L _ p1 p2 (I.hok.fresh (Nat.le_succ _))⟩
theorem cr_sortedMS (calm : X.calm = true) : CallR X (.builtin "sorted") (rSortedMS X.prog X.w) := by
  intro pins s σ H xs us Q I r q
  obtain ⟨a, ks, sh, rfl, ha, hk, q⟩ := q
  obtain ⟨u, rfl, rx⟩ := vals1 r
  obtain rfl : u = Value.ref a := rx
  obtain ⟨es, ep, t, ⟨o, ho, hex, hd⟩, T⟩ := (I.hok a _ ha).1
  refine Calls.call_function_entry kind_sorted plain_sorted entry_sorted (args_sorted1 _) ?_
  unfold Builtin.«sorted»
  refine wpAny_bind (m := checkCount "sorted" 1 1 _) (wpAny_pure ?_)
  have few := T.few
  refine wpAny_bind (collect_set (A := X.A.in1) (I.ok.hd calm) ⟨o, ho, hex.1, hd⟩ T.fits (by rw [T.size]; unfold scanBound; omega) T.tab.ris T.led fun s1 vs k1 hz g1 o1 pm => ?_)
  have hes : es.toList.map (·.2) = refsM ks := by
    rw [T.rows]
    unfold entries
    rw [List.map_map] <;> rfl
  rw [hes] at pm
  obtain ⟨L0, p0, rfl⟩ := refs_rows pm
  have len0 : L0.length < 64 := by rw [p0.length_eq]; exact few
  have big0 : (refsM L0).length ≤ sizeLine := by rw [List.length_map, sizeLine_eq]; omega
  refine wpAny_bind (wpAny_newList ?_ big0)
  have hoL : (s1.heap.push (seqObj "list" (refsM L0).toArray 0)).get? s1.heap.objs.size = some (seqObj "list" (refsM L0).toArray 0) := Heap.get?_push_size _ rfl
  refine wpAny_bind (wpAny_holding (wpAny_call_entry slot_list_sort ⟨_, hoL, rfl⟩ entry_list_sort (sortRows (P := X.prog) (w := X.w) (sh := sh) (s := { s1 with heap := s1.heap.push (seqObj "list" (refsM L0).toArray 0) }) hoL (fun p m => ?_) (by rw [← List.length_map (f := fun p : Addr × List Key => Value.ref p.1)]; exact big0) fun L p1 p2 => ⟨_, rfl, ?_⟩) (args_list_sort _)))
  · have hp := hk p (p0.mem_iff.mp m)
    exact ⟨isM_keep (Inv.isM I hp.1) fun b u e => Heap.get?_push_of_some _ (k1 b u e), hp.2⟩
  · obtain ⟨c, hc⟩ := sortedHeap_at (vs := refsM L0) (out := (refsM L).toArray) hoL
    have J : Inv X pins σ (upd H s1.heap.objs.size (.lst (refsV L))) { s with heap := sortedHeap (s1.heap.push (seqObj "list" (refsM L0).toArray 0)) s1.heap.objs.size (refsM L0) (refsM L).toArray, gens := s1.gens, drawn := s1.drawn, toks := s1.toks } := by
      have fresh : H s1.heap.objs.size = none := I.hok.fresh hz
      have kp : ∀ b u, s.heap.get? b = some u → (sortedHeap (s1.heap.push (seqObj "list" (refsM L0).toArray 0)) s1.heap.objs.size (refsM L0) (refsM L).toArray).get? b = some u := fun b u e => by
        have q := k1 b u e
        have hlt := Heap.lt_size q
        rw [sortedHeap_old (Nat.ne_of_lt hlt) (by rw [size_push']; exact Nat.lt_succ_of_lt hlt)]
        exact Heap.get?_push_of_some _ q
      refine I.call (ch := []) (Un.laid kp hz fresh) (I.hok.laid kp hz ⟨?_, refsM L, c, vals_rows L, hc⟩) (by rw [g1]; exact I.bare) (fun _ z => nomatch z)
      rw [List.length_map, p1.length_eq, sizeLine_eq]
      omega
    refine wpAny_pure ⟨_, rfl, ?_⟩
    have e : ({ s1 with heap := sortedHeap (s1.heap.push (seqObj "list" (refsM L0).toArray 0)) s1.heap.objs.size (refsM L0) (refsM L).toArray } : Shared) = { s with heap := sortedHeap (s1.heap.push (seqObj "list" (refsM L0).toArray 0)) s1.heap.objs.size (refsM L0) (refsM L).toArray, gens := s1.gens, drawn := s1.drawn, toks := s1.toks } := by
      cases s1
      cases s
      cases o1
      rfl
    refine ⟨.ref s1.heap.objs.size, _, ?_, rfl, q L _ (p1.trans p0) p2 (I.hok.fresh hz)⟩
    rw [← e] at J
    exact J
theorem rows_of : ∀ {kvs : List (List Key × V)} {xs : List (List Key × Addr × Value)}, L2.KT H kvs xs → (xs.map fun x => (x.2.1, x.1) : MRows).map (·.2) = kvs.map (·.1) ∧ ∀ p ∈ (xs.map fun x => (x.2.1, x.1) : MRows), H p.1 = some (.tup (p.2.map kV))
  | _, _, .nil => ⟨rfl, fun p m => nomatch m⟩
  | _, _, .cons a t => by
    obtain ⟨e1, e2⟩ := rows_of t
    refine ⟨by rw [List.map_cons, List.map_cons, List.map_cons, e1, a.1], fun p m => ?_⟩
    rcases List.mem_cons.mp m with rfl | m
    · have h2 := a.2.1
      rw [a.1] at h2
      exact h2
    · exact e2 p m
theorem cr_sortedMD (calm : X.calm = true) : CallR X (.builtin "sorted") rSortedMD := by
  intro pins s σ H xs us Q I r q
  obtain ⟨d, kvs, sh, rfl, hd, hk, q⟩ := q
  obtain ⟨u, rfl, rx⟩ := vals1 r
  obtain rfl : u = Value.ref d := rx
  obtain ⟨z, hs, ks, pr, o, es, ep, ho, hx, hdt, he, hn⟩ := (show ObjOk X.prog X.w H s.heap d (.dT kvs) from hd.ok I.hok)
  have l1 : es.size = ks.length := size_of_entries he
  have l2 : kvs.length = ks.length := Paired.length pr
  obtain ⟨er, eh⟩ := rows_of pr
  generalize hr : (ks.map fun x => (x.2.1, x.1) : MRows) = rows at er eh
  have lr : rows.length = ks.length := by rw [← hr, List.length_map]
  refine Calls.call_function_entry kind_sorted plain_sorted entry_sorted (args_sorted1 _) ?_
  unfold Builtin.«sorted»
  refine wpAny_bind (m := checkCount "sorted" 1 1 _) (wpAny_pure ?_)
  refine wpAny_bind (PySem.W.kdu_collect (A := X.A.in1) (kdl_raw hs hx hdt) (I.ok.hd calm) ho (by omega) fun h' tk acc kp it => ?_)
  have ea : acc.toList = refsM rows := by
    have hl : acc.toList.length = ks.length := by rw [Array.length_toList, it.1]; exact l1
    apply List.ext_getElem?
    intro j
    rw [← hr]
    unfold refsM
    rw [List.map_map, List.getElem?_map]
    cases hj : acc.toList[j]? with
    | none =>
      have h1 := List.getElem?_eq_none_iff.mp hj
      rw [List.getElem?_eq_none (by omega)]
      rfl
    | some v =>
      obtain ⟨en, hen, hv⟩ := it.2 j v (by rw [← Array.getElem?_toList]; exact hj)
      have qe := entry_at he j
      rw [hen] at qe
      cases hb : ks[j]? with
      | none =>
        rw [hb] at qe
        exact nomatch (show some en = none from qe)
      | some b =>
        rw [hb] at qe
        have e2 : en = entryOfKey (tupleKind (mixKind X.prog X.w)) b := Option.some.inj qe
        rw [hv, e2]
        rfl
  rw [ea]
  have big0 : rows.length ≤ sizeLine := by omega
  refine wpAny_bind (wpAny_newList ?_ (by rw [List.length_map]; exact big0))
  have hoL : (h'.push (seqObj "list" (refsM rows).toArray 0)).get? h'.objs.size = some (seqObj "list" (refsM rows).toArray 0) := Heap.get?_push_size _ rfl
  have I1 : Inv X pins σ H { s with heap := h', toks := tk } := I.kept kp
  show wpAny _ _ _ _ _ { s with heap := h'.push (seqObj "list" (refsM rows).toArray 0), toks := tk }
  refine wpAny_bind (wpAny_holding (wpAny_call_entry slot_list_sort ⟨_, hoL, rfl⟩ entry_list_sort (sortRows (P := X.prog) (w := X.w) (sh := sh) (s := { s with heap := h'.push (seqObj "list" (refsM rows).toArray 0), toks := tk }) hoL (fun p m => ?_) big0 fun L p1 p2 => ⟨_, rfl, ?_⟩) (args_list_sort _)))
  · refine ⟨isM_keep (Inv.isM I (eh p m)) fun b u e => Heap.get?_push_of_some _ (kp b u e), ?_⟩
    have hm : p.2 ∈ kvs.map (·.1) := by rw [← er]; exact List.mem_map.mpr ⟨p, m, rfl⟩
    obtain ⟨kv, hkv, e⟩ := List.mem_map.mp hm
    rw [← e]; exact hk kv hkv
  · obtain ⟨c, hc⟩ := sortedHeap_at (vs := refsM rows) (out := (refsM L).toArray) hoL
    refine wpAny_pure ⟨_, rfl, .ref h'.objs.size, _, laid_rows (s := { s with heap := h', toks := tk }) I1 (fun b u e => ?_) (Nat.le_refl _) (by rw [p1.length_eq]; exact big0) hc, rfl, q rows er eh L _ p1 p2 (I1.hok.fresh (Nat.le_refl _))⟩
    have hlt := Heap.lt_size e
    rw [sortedHeap_old (Nat.ne_of_lt hlt) (by rw [size_push']; exact Nat.lt_succ_of_lt hlt)]
    exact Heap.get?_push_of_some _ e
end
end FF
namespace FF
open PySem PySem.Spec PyProof.Rows L2

def nameWords : List Str := ["a", "b", "c", "d", "e", "f", "begin", "do", "edge", "join", "map", "places", "x", "xa", "xaa", "xab", "xb", "zzzzzzzz"]
def IsNm (x : Str) : Prop := x ∈ nameWords
/-- a name of an edge -/
def zN : Rep Str := fun _ v x => v = .str x ∧ IsNm x
instance : Stb zN := ⟨fun _ h => h⟩
abbrev E3 := Int × Str × Int
abbrev zE : Rep E3 := zT3 zI zN zI
abbrev zPN : Rep (Int × Str) := zT2 zI zN
abbrev zP2 : Rep (Int × Int) := zT2 zI zI
theorem nm_props : ∀ x ∈ nameWords, (PyData.canLay0 (.str x) = true) ∧ x.length ≤ sizeLine ∧ 1 ≤ x.length ∧ x.length ≤ 8 ∧ ∀ c ∈ x.cps.toList, c ∈ ("abcdefghijklmnopqrstuvwxyz" : Str).cps.toList := by decide +kernel

section
variable {f : Fr} {σ : L2.St} {H : Hp} {te ta tb : TE} {α β γ : Type} {R : Rep α} {S : Rep β} {T : Rep γ} {Kf : PySem.W.Frag}

def chars (x : Str) : List Str := x.cps.toList.map fun c => ⟨#[c]⟩
theorem chars_len (x : Str) : (chars x).length = x.cps.size := by unfold chars; rw [List.length_map, Array.length_toList]
theorem ei_str {x : Str} (h : EvP f te σ H (At zS x)) : EvI f (iStr te) σ H zS (chars x) := fun H1 e d Q q => h H1 e d _ fun v H2 e2 p => by
  obtain rfl : v = .str x := p
  refine ⟨x, rfl, q _ KT H2 e2 inferInstance ⟨fun F H i _ hi => by rw [chars_len] at hi; exact hi, fun F H i _ hi => by rw [chars_len] at hi; exact hi, fun F H i y H' _ _ hi w => ?_⟩ trivial⟩
  obtain ⟨rfl, c, hc, rfl⟩ := w
  refine ⟨⟨#[c]⟩, ?_, Same.refl _, rfl⟩
  unfold chars
  rw [List.getElem?_map, Array.getElem?_toList, hc]
  rfl
theorem ru_inLetters {x z : Str} {c : Nat} (e : x = ⟨#[c]⟩) : Ru2 f (fun x y H Q => ∃ (c : Nat) (z : Str), x = .str ⟨#[c]⟩ ∧ y = .str z ∧ Q (.bl (decide (c ∈ z.cps.toList))) H) H (At zS x) (At zS z) (At zB (decide (c ∈ z.cps.toList))) := fun H1 u w e1 d p p' Q q => by
  obtain rfl : u = .str x := p
  obtain rfl : w = .str z := p'
  exact ⟨c, z, by rw [e], rfl, q _ H1 (re.refl _) rfl⟩

theorem sq_of {G H : Hp} {v : V} {l : List α} (hs : Same G H) (h : zL R G v l) : ∃ a xs, v = .ref a ∧ H a = some (.lst xs) ∧ Paired (R G) xs l := by
  obtain ⟨a, xs, e, ha, hp⟩ := h
  exact ⟨a, xs, e, hs _ _ ha, hp⟩
theorem ra_lenL {l : List α} : RuA f (fun xs H Q => ∃ p ys, xs = [.ref p] ∧ (SqL Kf H p ys ∨ SqT Kf H p ys) ∧ Q (.int ys.length) H) H (ACons (At (zL R) l) ANil) (At zI (l.length : Int)) := fun H1 vs e d ⟨v, r, e1, p, e2⟩ Q q => by
  obtain rfl : r = [] := e2
  obtain ⟨a, xs, rfl, ha, hp⟩ := sq_of hid_same p
  refine ⟨a, xs, e1, .inl (SqL.of ha), q _ H1 (re.refl _) ?_⟩
  show V.int _ = V.int _
  rw [Paired.length hp]
theorem ra_lenT3 {x : α × β × γ} : RuA f (fun xs H Q => ∃ p ys, xs = [.ref p] ∧ (SqL Kf H p ys ∨ SqT Kf H p ys) ∧ Q (.int ys.length) H) H (ACons (At (zT3 R S T) x) ANil) (At zI 3) := fun H1 vs e d ⟨v, r, e1, p, e2⟩ Q q => by
  obtain rfl : r = [] := e2
  obtain ⟨a, u, w, z, rfl, ha, _⟩ := p
  exact ⟨a, _, e1, .inr (SqT.of (hid_same _ _ ha)), q _ H1 (re.refl _) rfl⟩
theorem ra_lenS {x : Str} (hx : x.length ≤ sizeLine) : RuA f (fun xs H Q => ∃ z, xs = [.str z] ∧ z.length ≤ sizeLine ∧ Q (.int z.length) H) H (ACons (At zS x) ANil) (At zI (x.length : Int)) := fun H1 vs e d ⟨v, r, e1, p, e2⟩ Q q => by
  obtain rfl : r = [] := e2
  obtain rfl : v = .str x := p
  exact ⟨x, e1, hx, q _ H1 (re.refl _) rfl⟩
theorem bools_of {G : Hp} : ∀ {xs : List V} {bs : List Bool}, Paired (zB G) xs bs → xs = bs.map V.bl
  | _, _, .nil => rfl
  | _, _, .cons h t => by rw [List.map_cons, ← bools_of t]; exact congrArg (· :: _) h
theorem ints_of {G : Hp} : ∀ {xs : List V} {ns : List Int}, Paired (zI G) xs ns → xs = ns.map V.int
  | _, _, .nil => rfl
  | _, _, .cons h t => by rw [List.map_cons, ← ints_of t]; exact congrArg (· :: _) h
theorem of_ints {G : Hp} : ∀ (ns : List Int), Paired (zI G) (ns.map V.int) ns
  | [] => .nil
  | _ :: t => .cons rfl (of_ints t)
theorem strs_of {G : Hp} : ∀ {xs : List V} {ns : List Str}, Paired (zS G) xs ns → xs = ns.map V.str
  | _, _, .nil => rfl
  | _, _, .cons h t => by rw [List.map_cons, ← strs_of t]; exact congrArg (· :: _) h
theorem ra_all {bs : List Bool} : RuA f (rAll Kf) H (ACons (At (zL zB) bs) ANil) (At zB (bs.all id)) := fun H1 vs e d ⟨v, r, e1, p, e2⟩ Q q => by
  obtain rfl : r = [] := e2
  obtain ⟨a, xs, rfl, ha, hp⟩ := sq_of hid_same p
  rw [bools_of hp] at ha
  exact ⟨a, bs, e1, SqL.of ha, q _ H1 (re.refl _) rfl⟩
theorem ra_any {bs : List Bool} : RuA f (rAny Kf) H (ACons (At (zL zB) bs) ANil) (At zB (bs.any id)) := fun H1 vs e d ⟨v, r, e1, p, e2⟩ Q q => by
  obtain rfl : r = [] := e2
  obtain ⟨a, xs, rfl, ha, hp⟩ := sq_of hid_same p
  rw [bools_of hp] at ha
  exact ⟨a, bs, e1, SqL.of ha, q _ H1 (re.refl _) rfl⟩
theorem ra_min {ns : List Int} (h0 : ns ≠ []) : RuA f (rMin Kf) H (ACons (At (zL zI) ns) ANil) (Som zI fun m => m ∈ ns ∧ ∀ y ∈ ns, m ≤ y) := fun H1 vs e d ⟨v, r, e1, p, e2⟩ Q q => by
  obtain rfl : r = [] := e2
  obtain ⟨a, xs, rfl, ha, hp⟩ := sq_of hid_same p
  rw [ints_of hp] at ha
  exact ⟨a, ns, e1, SqL.of ha, List.length_pos_iff.mpr h0, fun m h1 h2 => q _ H1 (re.refl _) ⟨m, ⟨h1, h2⟩, rfl⟩⟩
theorem ra_max2 {i j : Int} : RuA f (fun xs H Q => ∃ i j, xs = [.int i, .int j] ∧ Q (.int (if j > i then j else i)) H) H (ACons (At zI i) (ACons (At zI j) ANil)) (At zI (max i j)) := fun H1 vs e d ⟨v, r, e1, p, v2, r2, e2, p2, e3⟩ Q q => by
  obtain rfl : r2 = [] := e3
  obtain rfl : v = .int i := p
  obtain rfl : v2 = .int j := p2
  subst e2
  refine ⟨i, j, e1, q _ H1 (re.refl _) ?_⟩
  show V.int _ = V.int _
  congr 1
  split <;> omega
theorem ra_min2 {i j : Int} : RuA f (fun xs H Q => ∃ i j, xs = [.int i, .int j] ∧ Q (.int (if j < i then j else i)) H) H (ACons (At zI i) (ACons (At zI j) ANil)) (At zI (min i j)) := fun H1 vs e d ⟨v, r, e1, p, v2, r2, e2, p2, e3⟩ Q q => by
  obtain rfl : r2 = [] := e3
  obtain rfl : v = .int i := p
  obtain rfl : v2 = .int j := p2
  subst e2
  refine ⟨i, j, e1, q _ H1 (re.refl _) ?_⟩
  show V.int _ = V.int _
  congr 1
  split <;> omega
theorem ra_abs {i : Int} : RuA f (fun xs H Q => ∃ i, xs = [.int i] ∧ Q (.int (if i < 0 then -i else i)) H) H (ACons (At zI i) ANil) (At zI (if i < 0 then -i else i)) := fun H1 vs e d ⟨v, r, e1, p, e2⟩ Q q => by
  obtain rfl : r = [] := e2
  obtain rfl : v = .int i := p
  exact ⟨i, e1, q _ H1 (re.refl _) rfl⟩
theorem ra_int {i : Int} : RuA f (fun xs H Q => (∃ i, xs = [.int i] ∧ Q (.int i) H) ∨ ∃ k, xs = [.bl k] ∧ Q (.int (if k then 1 else 0)) H) H (ACons (At zI i) ANil) (At zI i) := fun H1 vs e d ⟨v, r, e1, p, e2⟩ Q q => by
  obtain rfl : r = [] := e2
  obtain rfl : v = .int i := p
  exact .inl ⟨i, e1, q _ H1 (re.refl _) rfl⟩
theorem ra_intB {b : Bool} : RuA f (fun xs H Q => (∃ i, xs = [.int i] ∧ Q (.int i) H) ∨ ∃ k, xs = [.bl k] ∧ Q (.int (if k then 1 else 0)) H) H (ACons (At zB b) ANil) (At zI (if b then 1 else 0)) := fun H1 vs e d ⟨v, r, e1, p, e2⟩ Q q => by
  obtain rfl : r = [] := e2
  obtain rfl : v = .bl b := p
  exact .inr ⟨b, e1, q _ H1 (re.refl _) rfl⟩
/-- list(xs) -/
theorem ra_listOf {l : List α} [Stb R] : RuA f (fun xs H Q => ∃ p ys, xs = [.ref p] ∧ (SqL Kf H p ys ∨ SqT Kf H p ys) ∧ ∀ l, H l = none → Q (.ref l) (upd H l (.lst ys))) H (ACons (At (zL R) l) ANil) (At (zL R) l) := fun H1 vs e d ⟨v, r, e1, p, e2⟩ Q q => by
  obtain rfl : r = [] := e2
  obtain ⟨a, xs, rfl, ha, hp⟩ := sq_of hid_same p
  exact ⟨a, xs, e1, .inl (SqL.of ha), fun n hn => q _ _ (re.same (same_new hn)) ⟨n, xs, rfl, hid_new d hn, Paired.mapP hp fun _ _ z => Stb.up (up_new hn) z⟩⟩

theorem atI_of {xs : List V} {i : Int} (h0 : 0 ≤ i) : atI xs i = xs[i.toNat]? := by
  unfold atI ixN
  rw [if_pos h0]
  by_cases h : i < (xs.length : Int)
  · rw [if_pos h]; rfl
  · rw [if_neg h, List.getElem?_eq_none (by omega)]; rfl
theorem paired_at {G : α → β → Prop} : ∀ {xs : List α} {l : List β} (h : Paired G xs l) {i : Nat} {y : β}, l[i]? = some y → ∃ x, xs[i]? = some x ∧ G x y
  | _, _, .nil, i, y, e => by simp at e
  | _, _, .cons h t, 0, y, e => by
    rw [List.getElem?_cons_zero] at e
    cases e
    exact ⟨_, rfl, h⟩
  | _, _, .cons h t, i + 1, y, e => by
    rw [List.getElem?_cons_succ] at e
    obtain ⟨x, h1, h2⟩ := paired_at t e
    exact ⟨x, by rw [List.getElem?_cons_succ]; exact h1, h2⟩
theorem ru_ixL {l : List α} {i : Int} {x : α} (h0 : 0 ≤ i) (hx : l[i.toNat]? = some x) : Ru2 f (rIxL Kf) H (At (zL R) l) (At zI i) (At R x) := fun H1 u w e d p p' Q q => by
  obtain rfl : w = .int i := p'
  obtain ⟨a, xs, rfl, ha, hp⟩ := sq_of hid_same p
  obtain ⟨z, hz, hr⟩ := paired_at hp hx
  exact ⟨a, xs, i, z, rfl, rfl, SqL.of ha, by rw [atI_of h0]; exact hz, q _ H1 (re.refl _) hr⟩
theorem ru_ix30 {x : α × β × γ} : Ru2 f (rIxT Kf) H (At (zT3 R S T) x) (At zI 0) (At R x.1) := fun H1 u w e d p p' Q q => by
  obtain rfl : w = .int 0 := p'
  obtain ⟨a, v1, v2, v3, rfl, ha, h1, h2, h3⟩ := p
  exact ⟨a, _, 0, v1, rfl, rfl, SqT.of (hid_same _ _ ha), rfl, q _ H1 (re.refl _) h1⟩
theorem ru_ix31 {x : α × β × γ} : Ru2 f (rIxT Kf) H (At (zT3 R S T) x) (At zI 1) (At S x.2.1) := fun H1 u w e d p p' Q q => by
  obtain rfl : w = .int 1 := p'
  obtain ⟨a, v1, v2, v3, rfl, ha, h1, h2, h3⟩ := p
  exact ⟨a, _, 1, v2, rfl, rfl, SqT.of (hid_same _ _ ha), rfl, q _ H1 (re.refl _) h2⟩
theorem ru_ix32 {x : α × β × γ} : Ru2 f (rIxT Kf) H (At (zT3 R S T) x) (At zI 2) (At T x.2.2) := fun H1 u w e d p p' Q q => by
  obtain rfl : w = .int 2 := p'
  obtain ⟨a, v1, v2, v3, rfl, ha, h1, h2, h3⟩ := p
  exact ⟨a, _, 2, v3, rfl, rfl, SqT.of (hid_same _ _ ha), rfl, q _ H1 (re.refl _) h3⟩
theorem ru_ix20 {x : α × β} : Ru2 f (rIxT Kf) H (At (zT2 R S) x) (At zI 0) (At R x.1) := fun H1 u w e d p p' Q q => by
  obtain rfl : w = .int 0 := p'
  obtain ⟨a, v1, v2, rfl, ha, h1, h2⟩ := p
  exact ⟨a, _, 0, v1, rfl, rfl, SqT.of (hid_same _ _ ha), rfl, q _ H1 (re.refl _) h1⟩
theorem ru_ix21 {x : α × β} : Ru2 f (rIxT Kf) H (At (zT2 R S) x) (At zI 1) (At S x.2) := fun H1 u w e d p p' Q q => by
  obtain rfl : w = .int 1 := p'
  obtain ⟨a, v1, v2, rfl, ha, h1, h2⟩ := p
  exact ⟨a, _, 1, v2, rfl, rfl, SqT.of (hid_same _ _ ha), rfl, q _ H1 (re.refl _) h2⟩
/-- xs + ys -/
theorem ru_cat {l m : List α} [Stb R] (hl : l.length + m.length ≤ 100000) : Ru2 f rCat H (At (zL R) l) (At (zL R) m) (At (zL R) (l ++ m)) := fun H1 u w e d p p' Q q => by
  obtain ⟨a, xs, rfl, ha, hp⟩ := sq_of hid_same p
  obtain ⟨b, ys, rfl, hb, hq⟩ := sq_of hid_same p'
  refine ⟨a, b, xs, ys, rfl, rfl, ha, hb, by rw [Paired.length hp, Paired.length hq]; exact Nat.le_trans hl (by decide), fun n hn => q _ _ (re.same (same_new hn)) ⟨n, _, rfl, hid_new d hn, pair_app (Paired.mapP hp fun _ _ z => Stb.up (up_new hn) z) (Paired.mapP hq fun _ _ z => Stb.up (up_new hn) z)⟩⟩
/-- (x, y) + (z,) -/
theorem paired_take {G : α → β → Prop} : ∀ {xs : List α} {l : List β} (n : Nat), Paired G xs l → Paired G (xs.take n) (l.take n)
  | _, _, 0, _ => .nil
  | _, _, _ + 1, .nil => .nil
  | _, _, n + 1, .cons h t => .cons h (paired_take n t)
theorem paired_drop {G : α → β → Prop} : ∀ {xs : List α} {l : List β} (n : Nat), Paired G xs l → Paired G (xs.drop n) (l.drop n)
  | _, _, 0, h => h
  | _, _, _ + 1, .nil => .nil
  | _, _, n + 1, .cons _ t => paired_drop n t

theorem inV_ints {i : Int} {ns : List Int} : inV (.int i) (ns.map V.int) = decide (i ∈ ns) := by
  unfold inV
  rw [List.any_map]
  refine Bool.eq_iff_iff.mpr ?_
  rw [List.any_eq_true, decide_eq_true_eq]
  refine ⟨fun ⟨y, hy, e⟩ => ?_, fun h => ⟨i, h, ?_⟩⟩
  · have e2 : (y == i) = true := e
    rw [← beq_iff_eq.mp e2]; exact hy
  · show (i == i) = true
    exact beq_self_eq_true i
theorem flat_ints {ns : List Int} : (ns.map V.int).all flatV = true := by
  rw [List.all_map, List.all_eq_true]
  exact fun _ _ => rfl
theorem ru_inI {i : Int} {ns : List Int} : Ru2 f (rIn Kf false) H (At zI i) (At (zL zI) ns) (At zB (decide (i ∈ ns))) := fun H1 u w e d p p' Q q => by
  obtain rfl : u = .int i := p
  obtain ⟨a, xs, rfl, ha, hp⟩ := sq_of hid_same p'
  obtain rfl := ints_of hp
  refine ⟨a, _, rfl, .inl (SqL.of ha), rfl, flat_ints, q _ H1 (re.refl _) ?_⟩
  show V.bl _ = V.bl _
  rw [inV_ints]
  rfl
theorem ru_notInI {i : Int} {ns : List Int} : Ru2 f (rIn Kf true) H (At zI i) (At (zL zI) ns) (At zB (!decide (i ∈ ns))) := fun H1 u w e d p p' Q q => by
  obtain rfl : u = .int i := p
  obtain ⟨a, xs, rfl, ha, hp⟩ := sq_of hid_same p'
  obtain rfl := ints_of hp
  refine ⟨a, _, rfl, .inl (SqL.of ha), rfl, flat_ints, q _ H1 (re.refl _) ?_⟩
  show V.bl _ = V.bl _
  rw [inV_ints]
  rfl

class Deep {α : Type} (R : Rep α) where
  dp : α → PyData
  ok : ∀ {G H : Hp} {v : V} {x : α} (Kf : PySem.W.Frag), Same G H → R G v x → Dp Kf H v (dp x) ∧ (dp x).canLay0 = true ∧ (dp x).depth ≤ 8
  eq : ∀ {G G' : Hp} {u v : V} {x y : α}, R G u x → R G' v y → (PyData.eqv (dp x) (dp y) = true ↔ x = y)
open PyData in
instance : Deep zI where
  dp := .int
  ok := fun Kf _ h => by
    obtain rfl : _ = V.int _ := h
    exact ⟨.int _, rfl, by show 0 ≤ 8; omega⟩
  eq := fun _ _ => by
    simp only [eqv]
    exact beq_iff_eq
open PyData in
instance : Deep zN where
  dp := .str
  ok := fun Kf _ h => by
    obtain ⟨rfl, hn⟩ := h
    exact ⟨.str _, (nm_props _ hn).1, by show 0 ≤ 8; omega⟩
  eq := fun _ _ => by
    simp only [eqv]
    exact beq_iff_eq
/-- of lower depth -/
class Flat1 {α : Type} (R : Rep α) [Deep R] : Prop where
  low : ∀ {G : Hp} {v : V} {x : α}, R G v x → (Deep.dp R x).depth ≤ 4
instance : Flat1 zI := ⟨fun _ => Nat.zero_le _⟩
instance : Flat1 zN := ⟨fun _ => Nat.zero_le _⟩
theorem dpAll_of [Deep R] {G H : Hp} (hs : Same G H) (Kf : PySem.W.Frag) : ∀ {xs : List V} {l : List α}, Paired (R G) xs l → DpAll Kf H xs (l.map (Deep.dp R)) ∧ PyData.canLayAll0 (l.map (Deep.dp R)) = true ∧ PyData.depthAll (l.map (Deep.dp R)) ≤ 8
  | _, _, .nil => ⟨.nil, rfl, Nat.zero_le _⟩
  | _, _, .cons h t => by
    obtain ⟨a1, a2, a3⟩ := Deep.ok Kf hs h
    obtain ⟨b1, b2, b3⟩ := dpAll_of hs Kf t
    refine ⟨.cons a1 b1, ?_, ?_⟩
    · simp only [List.map_cons, PyData.canLayAll0, a2, b2, Bool.and_self]
    · simp only [List.map_cons, PyData.depthAll]
      omega
theorem depthAll_low [Deep R] [Flat1 R] {G : Hp} : ∀ {xs : List V} {l : List α}, Paired (R G) xs l → PyData.depthAll (l.map (Deep.dp R)) ≤ 4
  | _, _, .nil => Nat.zero_le _
  | _, _, .cons h t => by
    have a := Flat1.low (R := R) h
    have b := depthAll_low t
    simp only [List.map_cons, PyData.depthAll]
    omega
theorem eqvAll_of [Deep R] {G G' : Hp} : ∀ {xs ys : List V} {l m : List α}, Paired (R G) xs l → Paired (R G') ys m → (PyData.eqvAll (l.map (Deep.dp R)) (m.map (Deep.dp R)) = true ↔ l = m)
  | _, _, _, _, .nil, .nil => by simp [PyData.eqvAll]
  | _, _, _, _, .nil, .cons _ _ => by simp [PyData.eqvAll]
  | _, _, _, _, .cons _ _, .nil => by simp [PyData.eqvAll]
  | _, _, _, _, .cons h t, .cons h' t' => by
    have e1 := Deep.eq (R := R) h h'
    have e2 := eqvAll_of t t'
    simp only [List.map_cons, PyData.eqvAll, Bool.and_eq_true, e1, e2, List.cons.injEq]
instance [Deep R] [Deep S] [Flat1 R] [Flat1 S] : Deep (zT2 R S) where
  dp := fun x => .tuple [Deep.dp R x.1, Deep.dp S x.2]
  ok := fun Kf hs ⟨a, u, w, e, ha, h1, h2⟩ => by
    subst e
    obtain ⟨a1, a2, a3⟩ := Deep.ok Kf hs h1
    obtain ⟨b1, b2, b3⟩ := Deep.ok Kf hs h2
    have c1 := Flat1.low (R := R) h1
    have c2 := Flat1.low (R := S) h2
    refine ⟨.tup (SqT.of (hs _ _ ha)) (.cons a1 (.cons b1 .nil)), ?_, ?_⟩
    · simp only [PyData.canLay0, PyData.canLayAll0, a2, b2, Bool.and_self]
    · simp only [PyData.depth, PyData.depthAll]
      omega
  eq := fun ⟨a, u, w, e, ha, h1, h2⟩ ⟨a', u', w', e', ha', h1', h2'⟩ => by
    simp only [PyData.eqv, PyData.eqvAll, Bool.and_eq_true, Bool.and_true, Deep.eq (R := R) h1 h1', Deep.eq (R := S) h2 h2']
    exact ⟨fun ⟨p, q⟩ => Prod.ext p q, fun h => by rw [h]; exact ⟨rfl, rfl⟩⟩
instance [Deep R] [Deep S] [Deep T] [Flat1 R] [Flat1 S] [Flat1 T] : Deep (zT3 R S T) where
  dp := fun x => .tuple [Deep.dp R x.1, Deep.dp S x.2.1, Deep.dp T x.2.2]
  ok := fun Kf hs ⟨a, u, w, z, e, ha, h1, h2, h3⟩ => by
    subst e
    obtain ⟨a1, a2, a3⟩ := Deep.ok Kf hs h1
    obtain ⟨b1, b2, b3⟩ := Deep.ok Kf hs h2
    obtain ⟨d1, d2, d3⟩ := Deep.ok Kf hs h3
    have c1 := Flat1.low (R := R) h1
    have c2 := Flat1.low (R := S) h2
    have c3 := Flat1.low (R := T) h3
    refine ⟨.tup (SqT.of (hs _ _ ha)) (.cons a1 (.cons b1 (.cons d1 .nil))), ?_, ?_⟩
    · simp only [PyData.canLay0, PyData.canLayAll0, a2, b2, d2, Bool.and_self]
    · simp only [PyData.depth, PyData.depthAll]
      omega
  eq := fun ⟨a, u, w, z, e, ha, h1, h2, h3⟩ ⟨a', u', w', z', e', ha', h1', h2', h3'⟩ => by
    simp only [PyData.eqv, PyData.eqvAll, Bool.and_eq_true, Bool.and_true, Deep.eq (R := R) h1 h1', Deep.eq (R := S) h2 h2', Deep.eq (R := T) h3 h3']
    exact ⟨fun ⟨p, q, r⟩ => Prod.ext p (Prod.ext q r), fun h => by rw [h]; exact ⟨rfl, rfl, rfl⟩⟩
instance : Flat1 (zT2 zI zI) := ⟨fun ⟨_, _, _, _, _, _, _⟩ => by show 1 ≤ 4; omega⟩
instance : Flat1 (zT2 zI zN) := ⟨fun ⟨_, _, _, _, _, _, _⟩ => by show 1 ≤ 4; omega⟩
instance : Flat1 (zT3 zI zN zI) := ⟨fun ⟨_, _, _, _, _, _, _, _, _⟩ => by show 1 ≤ 4; omega⟩
instance [Deep R] [Flat1 R] : Deep (zL R) where
  dp := fun l => .list (l.map (Deep.dp R))
  ok := fun Kf hs ⟨a, xs, e, ha, hp⟩ => by
    subst e
    obtain ⟨a1, a2, a3⟩ := dpAll_of hs Kf hp
    have a4 := depthAll_low hp
    refine ⟨.lst (SqL.of (hs _ _ ha)) a1, a2, ?_⟩
    simp only [PyData.depth]
    omega
  eq := fun ⟨a, xs, e, ha, hp⟩ ⟨a', xs', e', ha', hp'⟩ => by
    simp only [PyData.eqv]
    exact eqvAll_of hp hp'
theorem shaped_of {d : PyData} (h1 : d.canLay0 = true) (h2 : d.depth ≤ 8) : SeqAt.shaped d = true := by
  unfold SeqAt.shaped
  rw [h1, Bool.true_and, decide_eq_true_eq]
  omega
theorem ru_eqD [Deep R] [DecidableEq α] {x y : α} : Ru2 f (rEqD Kf) H (At R x) (At R y) (At zB (decide (x = y))) := fun H1 u w e d p p' Q q => by
  obtain ⟨a1, a2, a3⟩ := Deep.ok Kf hid_same p
  obtain ⟨b1, b2, b3⟩ := Deep.ok Kf hid_same p'
  refine ⟨_, _, a1, b1, shaped_of a2 a3, shaped_of b2 b3, q _ H1 (re.refl _) ?_⟩
  show V.bl _ = V.bl _
  congr 1
  exact Bool.eq_iff_iff.mpr ((Deep.eq (R := R) p p').trans decide_eq_true_iff.symm)
theorem ru_neD [Deep R] [DecidableEq α] {x y : α} : Ru2 f (rNeD Kf) H (At R x) (At R y) (At zB (!decide (x = y))) := fun H1 u w e d p p' Q q => by
  obtain ⟨a1, a2, a3⟩ := Deep.ok Kf hid_same p
  obtain ⟨b1, b2, b3⟩ := Deep.ok Kf hid_same p'
  refine ⟨_, _, a1, b1, shaped_of a2 a3, shaped_of b2 b3, q _ H1 (re.refl _) ?_⟩
  show V.bl _ = V.bl _
  congr 2
  exact Bool.eq_iff_iff.mpr ((Deep.eq (R := R) p p').trans decide_eq_true_iff.symm)
theorem any_eqv [Deep R] [DecidableEq α] {G G' : Hp} {v : V} {x : α} (h : R G v x) : ∀ {xs : List V} {l : List α}, Paired (R G') xs l → ((l.map (Deep.dp R)).any fun z => PyData.eqv z (Deep.dp R x)) = decide (x ∈ l)
  | _, _, .nil => by simp
  | _, _, .cons (b := y) h' t => by
    have ih := any_eqv h t
    have e : PyData.eqv (Deep.dp R y) (Deep.dp R x) = decide (y = x) := Bool.eq_iff_iff.mpr ((Deep.eq (R := R) h' h).trans decide_eq_true_iff.symm)
    rw [List.map_cons, List.any_cons, ih, e]
    refine Bool.eq_iff_iff.mpr ?_
    simp only [Bool.or_eq_true, decide_eq_true_eq, List.mem_cons]
    exact ⟨fun h => h.elim (fun e => .inl e.symm) .inr, fun h => h.elim (fun e => .inl e.symm) .inr⟩
theorem ru_inD [Deep R] [Flat1 R] [DecidableEq α] {x : α} {l : List α} : Ru2 f (rInD Kf) H (At R x) (At (zL R) l) (At zB (decide (x ∈ l))) := fun H1 u w e d p p' Q q => by
  obtain ⟨a1, a2, a3⟩ := Deep.ok Kf hid_same p
  obtain ⟨b1, b2, b3⟩ := Deep.ok (R := zL R) Kf hid_same p'
  refine ⟨_, _, a1, b1, shaped_of a2 a3, shaped_of b2 b3, q _ H1 (re.refl _) ?_⟩
  obtain ⟨a, xs, e1, ha, hp⟩ := p'
  show V.bl _ = V.bl _
  rw [any_eqv p hp]
theorem ru_notInD [Deep R] [Flat1 R] [DecidableEq α] {x : α} {l : List α} : Ru2 f (rNotInD Kf) H (At R x) (At (zL R) l) (At zB (!decide (x ∈ l))) := fun H1 u w e d p p' Q q => by
  obtain ⟨a1, a2, a3⟩ := Deep.ok Kf hid_same p
  obtain ⟨b1, b2, b3⟩ := Deep.ok (R := zL R) Kf hid_same p'
  refine ⟨_, _, a1, b1, shaped_of a2 a3, shaped_of b2 b3, q _ H1 (re.refl _) ?_⟩
  obtain ⟨a, xs, e1, ha, hp⟩ := p'
  show V.bl _ = V.bl _
  rw [any_eqv p hp]

theorem ru_isN {x : Option α} (hn : ∀ G v y, R G v y → v ≠ .non) : Ru2 f (fun x y H Q => y = .non ∧ Q (.bl (decide (x = .non))) H) H (At (zO R) x) (IsV .non) (At zB x.isNone) := fun H1 u w e d p p' Q q => by
  obtain rfl : w = .non := p'
  refine ⟨rfl, q _ H1 (re.refl _) ?_⟩
  show V.bl _ = V.bl _
  cases x with
  | none =>
    obtain rfl : u = .non := p
    rfl
  | some y =>
    have : u ≠ .non := hn _ _ _ p
    rw [decide_eq_false this]
    rfl
theorem ru_notN {x : Option α} (hn : ∀ G v y, R G v y → v ≠ .non) : Ru2 f (fun x y H Q => y = .non ∧ Q (.bl (!decide (x = .non))) H) H (At (zO R) x) (IsV .non) (At zB x.isSome) := fun H1 u w e d p p' Q q => by
  obtain rfl : w = .non := p'
  refine ⟨rfl, q _ H1 (re.refl _) ?_⟩
  show V.bl _ = V.bl _
  cases x with
  | none =>
    obtain rfl : u = .non := p
    rfl
  | some y =>
    have : u ≠ .non := hn _ _ _ p
    rw [decide_eq_false this]
    rfl
theorem ev_non : EvP f (tC .non) σ H (IsV .non) := ev_c fun _ => rfl
theorem ru_isnotB {a b : Bool} : Ru2 f (fun x y H Q => ∃ a b, x = .bl a ∧ y = .bl b ∧ Q (.bl (!decide (a = b))) H) H (At zB a) (At zB b) (At zB (!decide (a = b))) := fun H1 u w e d p p' Q q => by
  obtain rfl : u = .bl a := p
  obtain rfl : w = .bl b := p'
  exact ⟨a, b, rfl, rfl, q _ H1 (re.refl _) rfl⟩
end
end FF
namespace FF
open PySem PySem.Spec PyProof.Rows L2

structure Rdg {κ β : Type} [DecidableEq κ] (mk : List (κ × V) → HO) (enc : β → κ) (KR : Rep β) : Prop where
  get : ∀ (F : List Addr) (H : Hp) (a : Addr) (y : V) (kvs : List (κ × V)) (b : β), KR (hid F H) y b → Rd H a (mk kvs) → DGet H a y (valV kvs (enc b))
  inj : ∀ a b, enc a = enc b → a = b
  isD : ∀ (H : Hp) (a : Addr) (kvs : List (κ × V)), Rd H a (mk kvs) → IsD H a
theorem get_I : Rdg HO.dK kI zI where
  get := fun F H a y kvs b hy ha => by
    obtain rfl : y = .int b := hy
    exact .inl ⟨kvs, kI b, ha, rfl, rfl⟩
  inj := put_I.inj
  isD := fun H a kvs h => .inl ⟨kvs, h⟩
theorem get_P : Rdg HO.dT kP zP2 where
  get := fun F H a y kvs b hy ha => by
    obtain ⟨t, u, w, rfl, ht, hu, hw⟩ := hy
    obtain rfl : u = .int b.1 := hu
    obtain rfl : w = .int b.2 := hw
    exact .inr ⟨kvs, kP b, t, ha, rfl, hid_same _ _ ht, rfl⟩
  inj := put_P.inj
  isD := fun H a kvs h => .inr ⟨kvs, h⟩
/-- what l tells at b -/
def valD {β γ : Type} [DecidableEq β] (l : List (β × γ)) (b : β) : Option γ := (l.find? fun p => decide (p.1 = b)).map (·.2)
theorem valD_cons {β γ : Type} [DecidableEq β] (p : β × γ) (l : List (β × γ)) (b : β) : valD (p :: l) b = if p.1 = b then some p.2 else valD l b := by
  unfold valD
  rw [List.find?_cons]
  by_cases e : p.1 = b
  · simp [e]
  · simp [e]
theorem valD_isSome {β γ : Type} [DecidableEq β] {l : List (β × γ)} {b : β} : (valD l b).isSome = true ↔ b ∈ l.map (·.1) := by
  induction l with
  | nil => simp [valD]
  | cons p l ih =>
    rw [valD_cons, List.map_cons, List.mem_cons]
    by_cases e : p.1 = b
    · rw [if_pos e]; simp [e]
    · rw [if_neg e, ih]
      exact ⟨.inr, fun h => h.elim (fun z => absurd z.symm e) id⟩
theorem valD_map {α β γ : Type} [DecidableEq β] {l : List α} {ky : α → β} {fn : α → γ} (inj : ∀ x ∈ l, ∀ y ∈ l, ky x = ky y → x = y) {x : α} (h : x ∈ l) : valD (l.map fun x => (ky x, fn x)) (ky x) = some (fn x) := by
  induction l with
  | nil => cases h
  | cons z l ih =>
    rw [List.map_cons, valD_cons]
    by_cases e : ky z = ky x
    · rw [if_pos e, inj z List.mem_cons_self x h e]
    · rw [if_neg e]
      rcases List.mem_cons.mp h with rfl | h
      · exact absurd rfl e
      · exact ih (fun a ha b hb => inj a (List.mem_cons_of_mem _ ha) b (List.mem_cons_of_mem _ hb)) h
section
variable {κ β γ : Type} [DecidableEq κ] [DecidableEq β] {mk : List (κ × V) → HO} {enc : β → κ} {KR : Rep β} {S : Rep γ} {G : Hp}
theorem val_rel (inj : ∀ a b, enc a = enc b → a = b) {b : β} : ∀ {kvs : List (κ × V)} {l : List (β × γ)}, Paired (fun (kv : κ × V) (p : β × γ) => kv.1 = enc p.1 ∧ S G kv.2 p.2) kvs l →
    (valV kvs (enc b) = none ∧ valD l b = none) ∨ ∃ v x, valV kvs (enc b) = some v ∧ valD l b = some x ∧ S G v x
  | _, _, .nil => .inl ⟨rfl, rfl⟩
  | kv :: kvs, p :: l, .cons h t => by
    rw [valD_cons]
    by_cases e : p.1 = b
    · rw [if_pos e, valV_pos (by rw [h.1, e])]
      exact .inr ⟨_, _, rfl, rfl, h.2⟩
    · rw [if_neg e, valV_neg (fun z => e (inj _ _ (h.1.symm.trans z)))]
      exact val_rel inj t
variable {f : Fr} {σ : L2.St} {H : Hp} {td ty tx : TE} {l : List (β × γ)} {b : β}
theorem ev_dget [Stb KR] [Stb S] [DMk mk] (g : Rdg mk enc KR) (hd : EvP f td σ H (At (zD mk enc S) l)) (hk : EvP f ty σ H (At KR b)) {x : γ} (hx : valD l b = some x) : EvP f (tDGet td ty) σ H (At S x) := fun H1 e d Q q =>
  hd H1 e d _ fun u H2 e2 p => hk H2 (e.trans e2) (d.re e2) _ fun y H3 e3 py => by
    have p3 : zD mk enc S (hid f.F H3) u l := Stb.up (known_up e3 ((d.re e2).re e3)) p
    obtain ⟨a, kvs, rfl, ha, hp⟩ := p3
    have hr : Rd H3 a (mk kvs) := same_rd hid_same ha
    rcases val_rel g.inj hp with ⟨_, z⟩ | ⟨v, x', h1, h2, h3⟩
    · rw [z] at hx; cases hx
    · obtain rfl : x' = x := by rw [h2] at hx; exact Option.some.inj hx
      have := g.get _ _ a y kvs b py hr
      rw [h1] at this
      exact ⟨a, v, rfl, this, q v H3 (e2.trans e3) h3⟩
theorem ev_din [Stb KR] [Stb S] [DMk mk] (g : Rdg mk enc KR) (hk : EvP f ty σ H (At KR b)) (hd : EvP f td σ H (At (zD mk enc S) l)) : EvP f (tDIn ty td) σ H (At zB (valD l b).isSome) := fun H1 e d Q q =>
  hk H1 e d _ fun y H2 e2 py => hd H2 (e.trans e2) (d.re e2) _ fun u H3 e3 p => by
    have p3 : KR (hid f.F H3) y b := Stb.up (known_up e3 ((d.re e2).re e3)) py
    obtain ⟨a, kvs, rfl, ha, hp⟩ := p
    have := g.get _ _ a y kvs b p3 (same_rd hid_same ha)
    rcases val_rel g.inj hp with ⟨h1, h2⟩ | ⟨v, x', h1, h2, h3⟩
    · rw [h1] at this
      exact ⟨a, none, rfl, this, q _ H3 (e2.trans e3) (by rw [h2]; exact rfl)⟩
    · rw [h1] at this
      exact ⟨a, some v, rfl, this, q _ H3 (e2.trans e3) (by rw [h2]; exact rfl)⟩
theorem ev_dnotin [Stb KR] [Stb S] [DMk mk] (g : Rdg mk enc KR) (hk : EvP f ty σ H (At KR b)) (hd : EvP f td σ H (At (zD mk enc S) l)) : EvP f (tDNotIn ty td) σ H (At zB (!(valD l b).isSome)) := fun H1 e d Q q =>
  hk H1 e d _ fun y H2 e2 py => hd H2 (e.trans e2) (d.re e2) _ fun u H3 e3 p => by
    have p3 : KR (hid f.F H3) y b := Stb.up (known_up e3 ((d.re e2).re e3)) py
    obtain ⟨a, kvs, rfl, ha, hp⟩ := p
    have := g.get _ _ a y kvs b p3 (same_rd hid_same ha)
    rcases val_rel g.inj hp with ⟨h1, h2⟩ | ⟨v, x', h1, h2, h3⟩
    · rw [h1] at this
      exact ⟨a, none, rfl, this, q _ H3 (e2.trans e3) (by rw [h2]; exact rfl)⟩
    · rw [h1] at this
      exact ⟨a, some v, rfl, this, q _ H3 (e2.trans e3) (by rw [h2]; exact rfl)⟩
theorem ev_dget2 [Stb KR] [Stb S] [DMk mk] (g : Rdg mk enc KR) (hd : EvP f td σ H (At (zD mk enc S) l)) (hk : EvP f ty σ H (At KR b)) {x0 : γ} (hx : EvP f tx σ H (At S x0)) : EvP f (tDGet2 td ty tx) σ H (At S ((valD l b).getD x0)) := fun H1 e d Q q =>
  hd H1 e d _ fun u H2 e2 p => by
    obtain ⟨a, kvs0, e0, ha0, _⟩ := id p
    subst e0
    refine ⟨a, rfl, g.isD _ _ _ (same_rd hid_same ha0), hk H2 (e.trans e2) (d.re e2) _ fun y H3 e3 py => hx H3 ((e.trans e2).trans e3) ((d.re e2).re e3) _ fun z H4 e4 pz => ?_⟩
    have d4 := ((d.re e2).re e3).re e4
    have p4 : zD mk enc S (hid f.F H4) (.ref a) l := Stb.up (known_up (e3.trans e4) d4) p
    have y4 : KR (hid f.F H4) y b := Stb.up (known_up e4 d4) py
    obtain ⟨a', kvs, ea, ha, hp⟩ := p4
    obtain rfl : a = a' := by injection ea
    have := g.get _ _ a y kvs b y4 (same_rd hid_same ha)
    rcases val_rel g.inj hp with ⟨h1, h2⟩ | ⟨v, x', h1, h2, h3⟩
    · rw [h1] at this
      exact ⟨none, this, q _ H4 ((e2.trans e3).trans e4) (by rw [h2]; exact pz)⟩
    · rw [h1] at this
      exact ⟨some v, this, q _ H4 ((e2.trans e3).trans e4) (by rw [h2]; exact h3)⟩
end

def EvO (f : Fr) (tl : TO) (σ : L2.St) (H : Hp) (x : Option Int) : Prop := ∀ H1, re f.b H H1 → Dm f H1 → ∀ Q : Option Int → Hp → Prop, (∀ H2, re f.b H1 H2 → Q x H2) → tl σ H1 Q
section
variable {f : Fr} {L : List Addr} {σ : L2.St} {H H0 H1 : Hp} {K K' : Hp → Prop} {te ta tb td : TE} {tl th : TO} {α β γ : Type} {R : Rep α} {S : Rep β} {T : Rep γ} {Kf : PySem.W.Frag} {D : Ends} {Φ Φ1 Φ2 Φ3 : Hp → V → Prop} {Ψ : Hp → List V → Prop} {tr : TA}
theorem eo_none : EvO f tNoPart σ H none := fun H1 e d Q q => q H1 (re.refl _)
theorem eo_some {i : Int} (h : EvP f te σ H (At zI i)) : EvO f (tPart te) σ H (some i) := fun H1 e d Q q => h H1 e d _ fun v H2 e2 p => by
  obtain rfl : v = .int i := p
  exact ⟨i, rfl, q H2 e2⟩
/-- xs[lo:hi] -/
def part {α : Type} (l : List α) (lo hi : Option Int) : List α := (l.drop (HT.sIx l.length 0 lo)).take (HT.sIx l.length l.length hi - HT.sIx l.length 0 lo)
theorem part_take {l : List α} {i : Nat} : part l none (some (i : Int)) = l.take i := by
  unfold part
  rw [HT.sIx_none, HT.sIx_nat, List.drop_zero, Nat.sub_zero]
  by_cases h : i ≤ l.length
  · rw [Nat.min_eq_left h]
  · rw [Nat.min_eq_right (by omega), List.take_length, List.take_of_length_le (by omega)]
theorem part_drop {l : List α} {i : Nat} : part l (some (i : Int)) none = l.drop i := by
  unfold part
  rw [HT.sIx_none, HT.sIx_nat]
  by_cases h : i ≤ l.length
  · rw [Nat.min_eq_left h, List.take_of_length_le (by rw [List.length_drop]; omega)]
  · rw [Nat.min_eq_right (by omega), List.drop_length, List.drop_of_length_le (by omega), List.take_nil]
theorem ev_slice [Stb R] {l : List α} {lo hi : Option Int} (h : EvP f te σ H (At (zL R) l)) (hl : EvO f tl σ H lo) (hh : EvO f th σ H hi) : EvP f (tSl (rSlL Kf) te tl th) σ H (At (zL R) (part l lo hi)) := fun H1 e d Q q =>
  h H1 e d _ fun u H2 e2 p => hl H2 (e.trans e2) (d.re e2) _ fun H3 e3 => hh H3 ((e.trans e2).trans e3) ((d.re e2).re e3) _ fun H4 e4 => by
    have d4 := ((d.re e2).re e3).re e4
    have p4 : zL R (hid f.F H4) u l := Stb.up (known_up (e3.trans e4) d4) p
    obtain ⟨a, xs, rfl, ha, hp⟩ := p4
    refine ⟨a, xs, rfl, SqL.of (hid_same _ _ ha), fun n hn => q _ _ (((e2.trans e3).trans e4).trans (re.same (same_new hn))) ⟨n, _, rfl, hid_new d4 hn, ?_⟩⟩
    unfold cutV part
    rw [Paired.length hp]
    exact paired_take _ (paired_drop _ (Paired.mapP hp fun _ _ z => Stb.up (up_new hn) z))
/-- list(range(n)) -/
theorem ev_listRg {n : Nat} (hn : n ≤ 100000) (h : EvP f te σ H (At zI (n : Int))) : EvP f (tLstRg (tRg1 te)) σ H (At (zL zI) (upto n)) := fun H1 e d Q q => h H1 e d _ fun u H2 e2 p => by
  obtain rfl : u = .int (n : Int) := p
  refine ⟨n, rfl, RgOk.of_le (by omega) (by omega) (by omega) (by omega), fun r hr => q _ _ (e2.trans (re.same (same_new hr))) ⟨r, _, rfl, hid_new (d.re e2) hr, ?_⟩⟩
  have : rgV 0 (n : Int) = (upto n).map V.int := by
    unfold rgV upto
    rw [List.map_map, show (((n : Int)) - 0).toNat = n by omega]
    refine List.map_congr_left fun i _ => ?_
    show V.int (0 + (i : Int)) = V.int (i : Int)
    rw [Int.zero_add]
  rw [this]
  exact of_ints _

theorem s_par {i j : Nat} [StH K] (n : Now f L H0 K H) (h : EvA f tr σ H (ACons Φ1 (ACons Φ2 ANil))) (k : ∀ v w H1, re f.b H H1 → Now f L H0 (KAnd (KAnd K (KV Φ1 v)) (KV Φ2 w)) H1 → D.nx ((σ.set i (some v)).set j (some w)) H1) : tPar i j tr D σ H :=
  h H (re.refl _) n.dm _ fun vs H1 e ⟨v, r, e1, p, w, r2, e2, p2, e3⟩ => by
    obtain rfl : r2 = [] := e3
    subst e2
    exact ⟨v, w, e1, k v w H1 e ((n.go e).know ⟨⟨(n.go e).kn, p⟩, p2⟩)⟩
theorem s_par3 {i j m : Nat} [StH K] (n : Now f L H0 K H) (h : EvA f tr σ H (ACons Φ1 (ACons Φ2 (ACons Φ3 ANil)))) (k : ∀ v w z H1, re f.b H H1 → Now f L H0 (KAnd (KAnd (KAnd K (KV Φ1 v)) (KV Φ2 w)) (KV Φ3 z)) H1 → D.nx (((σ.set i (some v)).set j (some w)).set m (some z)) H1) : tPar3 i j m tr D σ H :=
  h H (re.refl _) n.dm _ fun vs H1 e ⟨v, r, e1, p, w, r2, e2, p2, z, r3, e3, p3, e4⟩ => by
    obtain rfl : r3 = [] := e4
    subst e3; subst e2
    exact ⟨v, w, z, e1, k v w z H1 e ((n.go e).know ⟨⟨⟨(n.go e).kn, p⟩, p2⟩, p3⟩)⟩
/-- x, y = e -/
theorem s_asg2 {i j : Nat} [StH K] [Stb R] [Stb S] {x : α × β} (n : Now f L H0 K H) (h : EvP f te σ H (At (zT2 R S) x)) (k : ∀ u w H1, re f.b H H1 → Now f L H0 (KAnd (KAnd K (KV (At R x.1) u)) (KV (At S x.2) w)) H1 → D.nx ((σ.set i (some u)).set j (some w)) H1) :
    tAsg te (gTup Kf 2 (gCons (gName i) (gCons (gName j) gNil))) D σ H :=
  h H (re.refl _) n.dm _ fun v H1 e p => bnd_tup2 (F := f.F) p (Θ := fun σ2 => D.nx σ2 H1) (fun a u w _ _ h1 h2 => k u w H1 e ((n.go e).know ⟨⟨(n.go e).kn, h1⟩, h2⟩)) _ fun σ2 z => z
theorem s_asg3 {i j m : Nat} [StH K] [Stb R] [Stb S] [Stb T] {x : α × β × γ} (n : Now f L H0 K H) (h : EvP f te σ H (At (zT3 R S T) x)) (k : ∀ u w z H1, re f.b H H1 → Now f L H0 (KAnd (KAnd (KAnd K (KV (At R x.1) u)) (KV (At S x.2.1) w)) (KV (At T x.2.2) z)) H1 → D.nx (((σ.set i (some u)).set j (some w)).set m (some z)) H1) :
    tAsg te (gTup Kf 3 (gCons (gName i) (gCons (gName j) (gCons (gName m) gNil)))) D σ H :=
  h H (re.refl _) n.dm _ fun v H1 e p => bnd_tup3 (F := f.F) p (Θ := fun σ2 => D.nx σ2 H1) (fun u w z h1 h2 h3 => k u w z H1 e ((n.go e).know ⟨⟨⟨(n.go e).kn, h1⟩, h2⟩, h3⟩)) _ fun σ2 z => z
/-- xs.append(e), xs a local list -/
theorem s_append [StH K] {i : Nat} {p : Addr} {xs : List V} (n : Now f L H0 K H) (hp : p ∈ L) (hv : σ[i]? = some (some (.ref p))) (hl : H p = some (.lst xs)) (few : xs.length ≤ 100000) (h : EvP f te σ H Φ)
    (k : ∀ v H1, re f.b H H1 → H1 p = some (.lst xs) → Now f L H0 (KAnd K (KV Φ v)) (upd H1 p (.lst (xs ++ [v]))) → D.nx σ (upd H1 p (.lst (xs ++ [v])))) : tDrop (tBM Kf "list" rAppend (tVar i) (tCons te tNil)) D σ H := by
  refine ⟨.ref p, hv, .inl ⟨rfl, xs, SqL.of hl⟩, h H (re.refl _) n.dm _ fun v H1 e pv => ?_⟩
  have h1 : H1 p = some (.lst xs) := e.keep (n.lf p hp).2 hl
  refine ⟨p, xs, v, rfl, rfl, h1, Nat.lt_of_le_of_lt few (by decide), ?_⟩
  exact k v H1 e h1 (Now.upd ((n.go e).know ⟨(n.go e).kn, pv⟩) hp)
/-- x += e, whole numbers -/
theorem s_aug [StH K] {i : Nat} {a b : Int} (n : Now f L H0 K H) (hv : σ[i]? = some (some (.int a))) (h : EvP f te σ H (At zI b)) (k : ∀ H1, re f.b H H1 → Now f L H0 K H1 → D.nx (σ.set i (some (.int (a + b)))) H1) : tAug i te (ipI fun i j => i + j) D σ H :=
  ⟨.int a, hv, h H (re.refl _) n.dm _ fun v H1 e p => by
    obtain rfl : v = .int b := p
    exact ⟨a, b, rfl, rfl, k H1 e (n.go e)⟩⟩

theorem zip_get {l : List α} {m : List β} {i : Nat} {x : α} {y : β} (h1 : l[i]? = some x) (h2 : m[i]? = some y) : (l.zip m)[i]? = some (x, y) := by
  rw [List.getElem?_zip_eq_some]
  exact ⟨h1, h2⟩
theorem ei_zip [Stb R] [Stb S] {l : List α} {m : List β} (h : EvA f tr σ H (ACons (At (zL R) l) (ACons (At (zL S) m) ANil))) : EvI f (iZip Kf tr) σ H (zT2 R S) (l.zip m) := fun H1 e d Q q => h H1 e d _ fun vs H2 e2 ⟨v, r, e3, p, v2, r2, e4, p2, e5⟩ => by
  obtain rfl : r2 = [] := e5
  subst e4
  have p' := p
  have p2' := p2
  obtain ⟨a, xs, rfl, ha, hp⟩ := p
  obtain ⟨b, ys, rfl, hb, hq⟩ := p2
  refine ⟨a, b, xs, ys, e3, SqL.of (hid_same _ _ ha), SqL.of (hid_same _ _ hb), q _ (KAnd (KV (At (zL R) l) (.ref a)) (KV (At (zL S) m) (.ref b))) H2 e2 inferInstance ?_ ⟨p', p2'⟩⟩
  have rec_ : ∀ (F : List Addr) (H : Hp), KAnd (KV (At (zL R) l) (.ref a)) (KV (At (zL S) m) (.ref b)) (hid F H) → ∃ xs ys, hid F H a = some (.lst xs) ∧ hid F H b = some (.lst ys) ∧ Paired (R (hid F H)) xs l ∧ Paired (S (hid F H)) ys m := fun F H ⟨⟨a', xs, e1, h1, h2⟩, ⟨b', ys, e2, h3, h4⟩⟩ => by
    obtain rfl : a = a' := by injection e1
    obtain rfl : b = b' := by injection e2
    exact ⟨xs, ys, h1, h3, h2, h4⟩
  refine ⟨fun F H i k hi => ?_, fun F H i k hi => ?_, fun F H i x H' hF k hi y => ?_⟩
  · obtain ⟨xs, ys, h1, h2, h3, h4⟩ := rec_ F H k
    have l1 := Paired.length h3
    have l2 := Paired.length h4
    rw [List.length_zip] at hi
    exact ⟨xs, ys, xs[i]'(by omega), ys[i]'(by omega), SqL.of (hid_same _ _ h1), SqL.of (hid_same _ _ h2), List.getElem?_eq_getElem (by omega), List.getElem?_eq_getElem (by omega)⟩
  · obtain ⟨xs, ys, h1, h2, h3, h4⟩ := rec_ F H k
    have l1 := Paired.length h3
    have l2 := Paired.length h4
    rw [List.length_zip] at hi
    exact ⟨xs, ys, SqL.of (hid_same _ _ h1), SqL.of (hid_same _ _ h2), by omega⟩
  · obtain ⟨xs, ys, h1, h2, h3, h4⟩ := rec_ F H k
    obtain ⟨T, u, w, rfl, hT, rfl, g1, g2⟩ := y
    obtain ⟨z1, hz1, r1⟩ := paired_get h3 (g1 xs (SqL.of (hid_same _ _ h1)))
    obtain ⟨z2, hz2, r2⟩ := paired_get h4 (g2 ys (SqL.of (hid_same _ _ h2)))
    have nT : T ∉ F := fun z => (hF T z).1 hT
    have sm : Same (hid F H) (hid F (upd H T (.tup [u, w]))) := Same.hid (same_new hT)
    exact ⟨(z1, z2), zip_get hz1 hz2, same_new hT, T, u, w, rfl, by rw [hid_out nT, upd_same], Stb.up sm r1, Stb.up sm r2⟩
/-- (0, x), (1, y), .. -/
def enum {α : Type} (l : List α) : List (Int × α) := (upto l.length).zip l
theorem ei_enum [Stb R] {l : List α} (h : EvA f tr σ H (ACons (At (zL R) l) ANil)) : EvI f (iEnum Kf tr) σ H (zT2 zI R) (enum l) := fun H1 e d Q q => h H1 e d _ fun vs H2 e2 ⟨v, r, e3, p, e5⟩ => by
  obtain rfl : r = [] := e5
  have p' := p
  obtain ⟨a, xs, rfl, ha, hp⟩ := p
  refine ⟨a, xs, e3, SqL.of (hid_same _ _ ha), q _ (KV (At (zL R) l) (.ref a)) H2 e2 inferInstance ?_ p'⟩
  have rec_ : ∀ (F : List Addr) (H : Hp), KV (At (zL R) l) (.ref a) (hid F H) → ∃ xs, hid F H a = some (.lst xs) ∧ Paired (R (hid F H)) xs l := fun F H ⟨a', xs, e1, h1, h2⟩ => by
    obtain rfl : a = a' := by injection e1
    exact ⟨xs, h1, h2⟩
  have len : (enum l).length = l.length := by
    unfold enum
    rw [List.length_zip, upto_length, Nat.min_self]
  refine ⟨fun F H i k hi => ?_, fun F H i k hi => ?_, fun F H i x H' hF k hi y => ?_⟩
  · obtain ⟨xs, h1, h3⟩ := rec_ F H k
    have l1 := Paired.length h3
    rw [len] at hi
    exact ⟨xs, xs[i]'(by omega), SqL.of (hid_same _ _ h1), List.getElem?_eq_getElem (by omega)⟩
  · obtain ⟨xs, h1, h3⟩ := rec_ F H k
    have l1 := Paired.length h3
    rw [len] at hi
    exact ⟨xs, SqL.of (hid_same _ _ h1), by omega⟩
  · obtain ⟨xs, h1, h3⟩ := rec_ F H k
    obtain ⟨T, u, rfl, hT, rfl, g1⟩ := y
    obtain ⟨z1, hz1, r1⟩ := paired_get h3 (g1 xs (SqL.of (hid_same _ _ h1)))
    have nT : T ∉ F := fun z => (hF T z).1 hT
    rw [len] at hi
    exact ⟨((i : Int), z1), zip_get (upto_get hi) hz1, same_new hT, T, _, u, rfl, by rw [hid_out nT, upd_same], rfl, Stb.up (Same.hid (same_new hT)) r1⟩
/-- the dict at d is locked, and holds l -/
def Lkd {κ β γ : Type} (mk : List (κ × V) → HO) (enc : β → κ) (S : Rep γ) (d : Addr) (l : List (β × γ)) : Hp → Prop := fun G => ∃ od kvs, G d = some (.frz od (mk kvs)) ∧ Paired (fun (kv : κ × V) (p : β × γ) => kv.1 = enc p.1 ∧ S G kv.2 p.2) kvs l
instance {κ β γ : Type} {mk : List (κ × V) → HO} {enc : β → κ} {S : Rep γ} [Stb S] {d : Addr} {l : List (β × γ)} : StH (Lkd mk enc S d l) := ⟨fun u ⟨od, kvs, h, p⟩ => ⟨od, kvs, u _ _ h, Paired.mapP p fun _ _ q => ⟨q.1, Stb.up u q.2⟩⟩⟩
theorem ei_keysI [Stb S] {l : List (Int × β)} {d : Addr} (hv : EvP f td σ H (IsV (.ref d))) (hk : Lkd HO.dK kI S d l (hid f.F H)) : EvI f (iKeys td) σ H zI (l.map (·.1)) := fun H1 e d1 Q q => hv H1 e d1 _ fun v H2 e2 p => by
  obtain rfl : v = .ref d := p
  have k2 : Lkd HO.dK kI S d l (hid f.F H2) := StH.up (known_up (e.trans e2) (d1.re e2)) hk
  obtain ⟨od, kvs, hd, hp⟩ := id k2
  refine ⟨d, od, rfl, .inl ⟨kvs, hid_same _ _ hd, q _ (fun G => G d = some (.frz od (.dK kvs))) H2 e2 ⟨fun u h => u _ _ h⟩ ⟨fun F H i k hi => ?_, fun F H i k hi => ?_, fun F H i x H' hF k hi y => ?_⟩ hd⟩⟩
  · rw [List.length_map, ← Paired.length hp] at hi
    exact ⟨hid_same _ _ k, hi⟩
  · rw [List.length_map, ← Paired.length hp] at hi
    exact ⟨hid_same _ _ k, hi⟩
  · obtain ⟨rfl, kk, vv, hg, rfl⟩ := y
    obtain ⟨z, hz, r1, r2⟩ := paired_get hp hg
    refine ⟨z.1, by rw [List.getElem?_map, hz]; rfl, Same.refl _, ?_⟩
    have r1 : kk = kI z.1 := r1
    rw [r1]
    rfl
theorem ei_keysP [Stb S] {l : List ((Int × Int) × β)} {d : Addr} (hv : EvP f td σ H (IsV (.ref d))) (hk : Lkd HO.dT kP S d l (hid f.F H)) : EvI f (iKeys td) σ H zP2 (l.map (·.1)) := fun H1 e d1 Q q => hv H1 e d1 _ fun v H2 e2 p => by
  obtain rfl : v = .ref d := p
  have k2 : Lkd HO.dT kP S d l (hid f.F H2) := StH.up (known_up (e.trans e2) (d1.re e2)) hk
  obtain ⟨od, kvs, hd, hp⟩ := id k2
  refine ⟨d, od, rfl, .inr ⟨kvs, hid_same _ _ hd, q _ (fun G => G d = some (.frz od (.dT kvs))) H2 e2 ⟨fun u h => u _ _ h⟩ ⟨fun F H i k hi => ?_, fun F H i k hi => ?_, fun F H i x H' hF k hi y => ?_⟩ hd⟩⟩
  · rw [List.length_map, ← Paired.length hp] at hi
    exact ⟨hid_same _ _ k, hi⟩
  · rw [List.length_map, ← Paired.length hp] at hi
    exact ⟨hid_same _ _ k, hi⟩
  · obtain ⟨rfl, kk, vv, a, hg, rfl, ha⟩ := y
    obtain ⟨z, hz, r1, r2⟩ := paired_get hp hg
    have na : a ∉ F := fun m => (hF a m).2 _ ha
    refine ⟨z.1, by rw [List.getElem?_map, hz]; rfl, Same.refl _, a, .int z.1.1, .int z.1.2, rfl, ?_, rfl, rfl⟩
    rw [hid_out na, ha]
    have r1 : kk = kP z.1 := r1
    rw [r1]
    rfl
end

section
variable {f : Fr} {σ : L2.St} {H : Hp} {te : TE} {Φ : Hp → V → Prop} {K : Hp → Prop}
theorem DictO.mut {u : HO} (h : DictO u) : Mut (some u) := by
  cases u <;> first | trivial | exact h.elim
theorem re.upd2 {b : Option Addr} {H H1 : Hp} {d : Addr} {o : HO} (e : re b H H1) (n : b ≠ some d) (hb : ∀ x c, b = some x → BagAt H1 x c → c ≠ d) (hb0 : ∀ x c, b = some x → BagAt (upd H d o) x c → c ≠ d) : re b (upd H d o) (upd H1 d o) := by
  refine ⟨fun a u na h => ?_, fun a ea => ⟨⟨fun z => ?_, fun z => ?_⟩, fun c z => ?_⟩⟩
  · by_cases x : a = d
    · subst x; rw [upd_same] at h ⊢; exact h
    · rw [upd_ne x] at h ⊢; exact e.1 a u na h
  · have x : a ≠ d := fun x => n (by rw [ea, x])
    rw [upd_ne x] at z ⊢
    exact (e.2 a ea).1.1 z
  · have x : a ≠ d := fun x => n (by rw [ea, x])
    unfold Loc at z ⊢
    rw [upd_ne x] at z ⊢
    exact (e.2 a ea).1.2 z
  · have x : a ≠ d := fun x => n (by rw [ea, x])
    have y := hb0 a c ea z
    obtain ⟨i, j, k, ns, h1, h2, r⟩ := z
    rw [upd_ne x] at h1
    rw [upd_ne y] at h2
    obtain ⟨i', j', k', ns', h1', h2', r'⟩ := (e.2 a ea).2 c ⟨i, j, k, ns, h1, h2, r⟩
    exact ⟨i', j', k', ns', by rw [upd_ne x]; exact h1', by rw [upd_ne y]; exact h2', r'⟩
theorem bag_ne {H : Hp} {x c d : Addr} (h : BagAt H x c) (hd : ∀ xs, H d ≠ some (.lst xs)) : c ≠ d := by
  rintro rfl
  obtain ⟨i, j, k, ns, _, h2, _⟩ := h
  exact hd _ h2
theorem dict_not {u : HO} {xs : List V} (h : DictO u) : u ≠ .lst xs := by
  rintro rfl; exact h
/-- locked, then unlocked -/
theorem re.lock {b : Option Addr} {H H2 : Hp} {d : Addr} {od : _} {u : HO} (du : DictO u) (hd : H d = some u) (n : b ≠ some d) (e : re b (upd H d (.frz od u)) H2) : re b H (upd H2 d u) := by
  have h2 : H2 d = some (.frz od u) := e.keep n upd_same
  refine ⟨fun a o na h => ?_, fun a ea => ⟨⟨fun z => ?_, fun z => ?_⟩, fun c z => ?_⟩⟩
  · by_cases x : a = d
    · subst x; rw [upd_same, ← h, hd]
    · rw [upd_ne x]; exact e.1 a o na (by rw [upd_ne x]; exact h)
  · have x : a ≠ d := fun x => n (by rw [ea, x])
    rw [upd_ne x]
    exact (e.2 a ea).1.1 (by rw [upd_ne x]; exact z)
  · have x : a ≠ d := fun x => n (by rw [ea, x])
    have y := (e.2 a ea).1.2
    unfold Loc at z y ⊢
    rw [upd_ne x] at y ⊢
    exact y z
  · have x : a ≠ d := fun x => n (by rw [ea, x])
    have y : c ≠ d := bag_ne z fun xs q => dict_not du (by rw [hd] at q; exact Option.some.inj q)
    obtain ⟨i, j, k, ns, h1, h3, r⟩ := z
    have z' := (e.2 a ea).2 c ⟨i, j, k, ns, by rw [upd_ne x]; exact h1, by rw [upd_ne y]; exact h3, r⟩
    obtain ⟨i', j', k', ns', h1', h2', r'⟩ := z'
    exact ⟨i', j', k', ns', by rw [upd_ne x]; exact h1', by rw [upd_ne y]; exact h2', r'⟩
theorem up_lock {F : List Addr} {H : Hp} {d : Addr} {od} {u : HO} (du : DictO u) (hd : H d = some u) : Up (hid F H) (hid F (upd H d (.frz od u))) := fun a o h => by
  obtain ⟨m, h⟩ := hid_some h
  rw [hid_out m]
  by_cases x : a = d
  · subst x
    rw [hd] at h
    cases h
    exact .inr (.inl ⟨du, od, upd_same⟩)
  · exact .inl (by rw [upd_ne x]; exact h)
theorem up_unlock {F : List Addr} {H : Hp} {d : Addr} {od} {u : HO} (du : DictO u) (hd : H d = some (.frz od u)) : Up (hid F H) (hid F (upd H d u)) := fun a o h => by
  obtain ⟨m, h⟩ := hid_some h
  rw [hid_out m]
  by_cases x : a = d
  · subst x
    rw [hd] at h
    cases h
    exact .inr (.inr ⟨od, u, rfl, du, upd_same⟩)
  · exact .inl (by rw [upd_ne x]; exact h)
theorem dm_upd {f : Fr} {H : Hp} {d : Addr} {o : HO} (h : Dm f H) (no : ∀ xs, o ≠ .tup xs := by intro _ z; cases z) : Dm f (upd H d o) := ⟨fun a m => by
  by_cases x : a = d
  · subst x; exact Loc.of upd_same no
  · exact (h.there a m).at fun o q => by rw [upd_ne x]; exact q, h.bag⟩
/-- an expression under a lock -/
theorem ev_lock [LkP Φ] {d : Addr} {u : HO} (du : DictO u) (hd : H d = some u) (hF : d ∉ f.F) (dm : Dm f H) (h : ∀ od, Dm f (upd H d (.frz od u)) → EvP f te σ (upd H d (.frz od u)) Φ) : EvP f (tLockE te) σ H Φ := fun H1 e d1 Q q => by
  have nb : f.b ≠ some d := fun z => hF (d1.bag d z)
  have h1 : H1 d = some u := e.keep nb hd
  refine ⟨d, u, h1, du.mut, fun od => ?_⟩
  have e' : re f.b (upd H d (.frz od u)) (upd H1 d (.frz od u)) := e.upd2 nb (fun x c _ z => bag_ne z fun xs q => dict_not du (by rw [h1] at q; exact Option.some.inj q)) (fun x c _ z => bag_ne z fun xs q => by
    rw [upd_same] at q; cases q)
  refine h od (dm_upd dm) _ e' (dm_upd d1) _ fun v H2 e2 p => ?_
  have h2 : H2 d = some (.frz od u) := e2.keep nb upd_same
  exact ⟨h2, q v _ (re.lock du h1 nb e2) (LkP.up (up_unlock du h2) p)⟩
end
end FF
namespace FF
open PySem PySem.Spec PyProof.Rows L2
theorem turnS_out (elt t0 i0 t1 i1 : Expr) (ifs0 ifs1 : List Expr) (sco : Scope) (pos : Pos) (it acc : Value) (en : Env) :
    compTurn (.SetComp elt [⟨t0, i0, ifs0, 0⟩, ⟨t1, i1, ifs1, 0⟩] sco pos) 0 it acc en = (do
      standAt i0.pos
      match ← pyNext it with
      | none => pure (.done .next)
      | some v =>
        letOwnedTupleGo t0 it v
        assign t0 en v
        let mut ok := true
        for c in ifs0 do
          if ok then ok ← isTrue c en (eval c en)
        if ok then
          let x ← eval i1 en
          standAt i1.pos
          let x ← foldedSetIterable i1 en x
          let _ ← runOwn (.compStart (.SetComp elt [⟨t0, i0, ifs0, 0⟩, ⟨t1, i1, ifs1, 0⟩] sco pos) 1 (← holding [x] (pyIter x)) acc en) en
        again (.compLoop (.SetComp elt [⟨t0, i0, ifs0, 0⟩, ⟨t1, i1, ifs1, 0⟩] sco pos) 0 it acc en)) := by rfl
theorem turnS_in (elt t0 i0 t1 i1 : Expr) (ifs0 ifs1 : List Expr) (sco : Scope) (pos : Pos) (it acc : Value) (en : Env) :
    compTurn (.SetComp elt [⟨t0, i0, ifs0, 0⟩, ⟨t1, i1, ifs1, 0⟩] sco pos) 1 it acc en = (do
      standAt i1.pos
      match ← pyNext it with
      | none => pure (.done .next)
      | some v =>
        letOwnedTupleGo t1 it v
        assign t1 en v
        let mut ok := true
        for c in ifs1 do
          if ok then ok ← isTrue c en (eval c en)
        if ok then
          (do let v ← eval elt en; standAt elt.pos; let _ ← call (.builtin "set.add") [acc, v])
        again (.compLoop (.SetComp elt [⟨t0, i0, ifs0, 0⟩, ⟨t1, i1, ifs1, 0⟩] sco pos) 1 it acc en)) := by rfl
section
variable {prog : Program} {w : World} {A : Around} {R : Result → Shared → Prop} {z : Shared} {elt t0 i0 t1 i1 : Expr} {ifs0 ifs1 : List Expr} {sco : Scope} {pos : Pos} {it acc : Value} {en : Env}
/-- what goes wrong in the block -/
abbrev Bad (prog : Program) (w : World) (A : Around) (en : Env) (R : Result → Shared → Prop) : Value → Shared → Prop := notedBy (model prog w) A en fun e z' => R (.error e) z'
theorem loopS_out (unf : ∀ x, foldedSetIterable i1 en x = pure x) (I : Nat → Shared → Prop)
    (turn : ∀ n z, I n z → wpAny (model prog w) A (pyNext it) (fun r z1 => match r with
      | none => R (.ok .next) z1
      | some v => wpAny (model prog w) A (letOwnedTupleGo t0 it v) (fun _ z2 => wpAny (model prog w) A (assign t0 en v) (fun _ z3 =>
          wpAny (model prog w) A (forIn ifs0 true fun c r => if r = true then do let ok ← isTrue c en (eval c en); pure (ForInStep.yield ok) else pure (ForInStep.yield r)) (fun ok z4 =>
            if ok = true then wpAny (model prog w) A (eval i1 en) (fun x z5 => wpAny (model prog w) A (pyIter x) (fun it1 z6 =>
              codeAny (model prog w) A (.compStart (.SetComp elt [⟨t0, i0, ifs0, 0⟩, ⟨t1, i1, ifs1, 0⟩] sco pos) 1 it1 acc en) (fun r z' => match r with
                | .ok _ => ∃ m, m < n ∧ I m z'
                | .error _ => False) z6) (Bad prog w A en R) z5) (Bad prog w A en R) z4
            else ∃ m, m < n ∧ I m z4) (Bad prog w A en R) z3) (Bad prog w A en R) z2) (Bad prog w A en R) z1) (Bad prog w A en R) z)
    (n : Nat) (h : I n z) : codeAny (model prog w) A (.compLoop (.SetComp elt [⟨t0, i0, ifs0, 0⟩, ⟨t1, i1, ifs1, 0⟩] sco pos) 0 it acc en) R z := by
  refine codeAny_loop rfl I (fun n z hI => ?_) n h
  show wpAny _ A ((compTurn (.SetComp elt [⟨t0, i0, ifs0, 0⟩, ⟨t1, i1, ifs1, 0⟩] sco pos) 0 it acc en).onRaise (fun x => do noteFrame x en; theTreesLotGoes x)) _ _ z
  refine wpAny_noted ?_
  rw [turnS_out]
  refine wpAny_bind (wpAny_standAt (wpAny_bind (wpAny_mono (turn n z hI) (fun r z1 h1 => ?_) fun _ _ b => b)))
  cases r with
  | none => exact wpAny_pure h1
  | some v =>
    refine wpAny_bind (wpAny_mono h1 (fun _ z2 h2 => wpAny_bind (wpAny_mono h2 (fun _ z3 h3 => wpAny_bind (wpAny_mono h3 (fun ok z4 h4 => ?_) fun _ _ b => b)) fun _ _ b => b)) fun _ _ b => b)
    cases ok with
    | false => exact wpAny_pure ⟨rfl, h4⟩
    | true =>
      refine wpAny_bind (wpAny_mono h4 (fun x z5 h5 => ?_) fun _ _ b => b)
      refine wpAny_bind (wpAny_standAt (wpAny_bind (wpAny_of_eq (unf x) (wpAny_bind (wpAny_holding (wpAny_mono h5 (fun it1 z6 h6 => ?_) fun _ _ b => b))))))
      refine wpAny_bind (wpAny_runOwn ?_)
      rw [Around.mark_none]
      refine codeAny_mono h6 fun r z' hr => ?_
      cases r with
      | ok _ => first | exact wpAny_pure ⟨rfl, hr⟩ | exact wpAny_bind (wpAny_pure (wpAny_pure ⟨rfl, hr⟩))
      | error _ => exact hr.elim
theorem loopS_in (I : Nat → Shared → Prop)
    (turn : ∀ n z, I n z → wpAny (model prog w) A (pyNext it) (fun r z1 => match r with
      | none => R (.ok .next) z1
      | some v => wpAny (model prog w) A (letOwnedTupleGo t1 it v) (fun _ z2 => wpAny (model prog w) A (assign t1 en v) (fun _ z3 =>
          wpAny (model prog w) A (forIn ifs1 true fun c r => if r = true then do let ok ← isTrue c en (eval c en); pure (ForInStep.yield ok) else pure (ForInStep.yield r)) (fun ok z4 =>
            if ok = true then wpAny (model prog w) A (eval elt en) (fun x z5 =>
              wpAny (model prog w) A (call (.builtin "set.add") [acc, x]) (fun _ z6 => ∃ m, m < n ∧ I m z6) (Bad prog w A en R) z5) (Bad prog w A en R) z4
            else ∃ m, m < n ∧ I m z4) (Bad prog w A en R) z3) (Bad prog w A en R) z2) (Bad prog w A en R) z1) (Bad prog w A en R) z)
    (n : Nat) (h : I n z) : codeAny (model prog w) A (.compLoop (.SetComp elt [⟨t0, i0, ifs0, 0⟩, ⟨t1, i1, ifs1, 0⟩] sco pos) 1 it acc en) R z := by
  refine codeAny_loop rfl I (fun n z hI => ?_) n h
  show wpAny _ A ((compTurn (.SetComp elt [⟨t0, i0, ifs0, 0⟩, ⟨t1, i1, ifs1, 0⟩] sco pos) 1 it acc en).onRaise (fun x => do noteFrame x en; theTreesLotGoes x)) _ _ z
  refine wpAny_noted ?_
  rw [turnS_in]
  refine wpAny_bind (wpAny_standAt (wpAny_bind (wpAny_mono (turn n z hI) (fun r z1 h1 => ?_) fun _ _ b => b)))
  cases r with
  | none => exact wpAny_pure h1
  | some v =>
    refine wpAny_bind (wpAny_mono h1 (fun _ z2 h2 => wpAny_bind (wpAny_mono h2 (fun _ z3 h3 => wpAny_bind (wpAny_mono h3 (fun ok z4 h4 => ?_) fun _ _ b => b)) fun _ _ b => b)) fun _ _ b => b)
    cases ok with
    | false => exact wpAny_pure ⟨rfl, h4⟩
    | true => exact wpAny_bind (wpAny_bind (wpAny_mono h4 (fun x z5 h5 => wpAny_bind (wpAny_standAt (wpAny_bind (wpAny_mono h5 (fun _ z6 h6 => wpAny_pure (wpAny_pure ⟨rfl, h6⟩)) fun _ _ b => b)))) fun _ _ b => b))
theorem startS1 (h0 : codeAny (model prog w) A (.compLoop (.SetComp elt [⟨t0, i0, ifs0, 0⟩, ⟨t1, i1, ifs1, 0⟩] sco pos) 1 it acc en) R z)
    (h : wpAny (model prog w) A (pyIter it) (fun it' z' => codeAny (model prog w) A (.compLoop (.SetComp elt [⟨t0, i0, ifs0, 0⟩, ⟨t1, i1, ifs1, 0⟩] sco pos) 1 it' acc en) R z') (Bad prog w A en R) z) :
    codeAny (model prog w) A (.compStart (.SetComp elt [⟨t0, i0, ifs0, 0⟩, ⟨t1, i1, ifs1, 0⟩] sco pos) 1 it acc en) R z := by
  refine codeAny_of_tree ?_
  show wpAny _ _ ((compStart (.SetComp elt [⟨t0, i0, ifs0, 0⟩, ⟨t1, i1, ifs1, 0⟩] sco pos) 1 it acc en).onRaise (fun x => do noteFrame x en; standAt theWindowsPlace)) _ _ z
  refine wpAny_notedAt ?_
  unfold compStart
  show wpAny _ _ (ask >>= _) _ _ z
  refine wpAny_bind (wpAny_askSetting (wpAny_ite ?_))
  split
  · first | exact wpAny_bind (wpAny_pure (wpAny_pure (And.intro rfl h0))) | exact wpAny_pure (And.intro rfl h0)
  · first
      | exact wpAny_bind (wpAny_rule (wpAny_bind (wpAny_standAt (wpAny_bind (wpAny_mono h (fun it' z' h' => wpAny_pure (And.intro rfl h')) fun _ _ b => b)))))
      | (refine wpAny_bind (wpAny_rule ?_); show wpAny _ _ (standAt i1.pos >>= _) _ _ z; exact wpAny_bind (wpAny_standAt (wpAny_bind (wpAny_mono h (fun it' z' h' => wpAny_pure (And.intro rfl h')) fun _ _ b => b))))
end
/-- a tuple y is added to the set at D -/
def SAdd (P : Program) (w : World) (D : Addr) (y : V) (H : Hp) (Q : Hp → Prop) : Prop := ∃ (L : MRows) (x : Addr) (k : List Key), y = .ref x ∧ H D = some (SetMO P w D L) ∧ H x = some (.tup (k.map kV)) ∧ (∀ p ∈ L, H p.1 = some (.tup (p.2.map kV))) ∧ L.length + 1 < 64 ∧
  ∀ L', (k ∈ L.map (·.2) → L' = L) → (k ∉ L.map (·.2) → L'.Perm ((x, k) :: L)) → Q (upd H D (SetMO P w D L'))
theorem add_to {X : Cx} {pins : List (Addr × Obj)} {σ : L2.St} {G : Hp} {z : Shared} {Er : Value → Shared → Prop} {D : Addr} {y : V} {u : Value} {Q : Hp → Prop} {R : Value → Shared → Prop} (room : X.A.units + 64 < cLine) (J : Inv X pins σ G z) (ry : RelV y u) (h : SAdd X.prog X.w D y G Q)
    (fin : ∀ G' z', Inv X pins σ G' z' → Q G' → R .none z') : wpAny (model X.prog X.w) X.A (call (.builtin "set.add") [.ref D, u]) R Er z := by
  obtain ⟨L, x, k, rfl, hD, hx, hL, few, q⟩ := h
  obtain rfl : u = Value.ref x := ry
  have ⟨es, ep, t, ⟨o, ho, hex, hd⟩, _⟩ := (J.hok D _ hD).1
  have ty : Shared.TypeIs z (.ref D) "set" := ⟨o, ho, hex.1⟩
  refine wpAny_call_entry F.slot_set_add ty F.entry_set_add ?_ (F.args_set_add_2 _ _)
  unfold Builtin.«set.add» Builtin.Frozenset.oneOther
  simp only [List.isEmpty_nil, bind_assoc]
  unfold Builtin.Frozenset.addrOf
  refine wpAny_bind (wpAny_pure ?_)
  try dsimp only
  refine wpAny_bind (wpAny_pure (wpAny_bind (setM_add J (show X.A.units + 1 < cLine by omega) hD hL hx few fun b z' L' J' c1 c2 => ?_)))
  show wpAny _ _ (ret Value.none) _ _ _
  exact wpAny_pure ⟨_, rfl, fin _ z' J' (q L' c1 c2)⟩
def tSc2 (P : Program) (w : World) (wi : TI) (g : TG) (tt : TT) (wi1 : TI) (g1 : TG) (tt1 : TT) (te : TE) (vs vs1 : List Nat) : TE := fun σ H Q => wi σ H fun J H1 => ∀ D, H1 D = none → ∃ W : Nat → Nat → Hp → Prop, (∃ m, W 0 m (upd H1 D (SetMO P w D []))) ∧ ∀ i m H, W i m H →
  (J.stop i H ∧ Q (.ref D) H) ∨ (J.go i H ∧ ∃ Nx : Hp → Prop, (∀ H', Nx H' → ∃ m', m' < m ∧ W (i + 1) m' H') ∧ ∀ x H', J.yld i H x H' → g x (wipe σ vs) H' fun σ2 H2 => wipe σ2 vs = wipe σ vs ∧ tt σ2 H2 fun b H3 =>
    if b = true then wi1 σ2 H3 fun J1 H4 => ∃ W1 : Nat → Nat → Hp → Prop, (∃ m, W1 0 m H4) ∧ ∀ j k H, W1 j k H →
      (J1.stop j H ∧ Nx H) ∨ (J1.go j H ∧ ∃ Nx1 : Hp → Prop, (∀ H', Nx1 H' → ∃ k', k' < k ∧ W1 (j + 1) k' H') ∧ ∀ x H', J1.yld j H x H' → g1 x (wipe σ2 vs1) H' fun σ3 H5 => wipe σ3 vs1 = wipe σ2 vs1 ∧ tt1 σ3 H5 fun b H6 =>
        if b = true then te σ3 H6 fun y H7 => SAdd P w D y H7 Nx1 else Nx1 H6)
    else Nx H3)
section
variable {X : Cx}
theorem sc2_core {pins : List (Addr × Obj)} {z : Shared} {σ : L2.St} {G : Hp} {Q : VK} {elt tg iter tg1 iter1 : Expr} {ifs ifs1 : List Expr} {scope : Scope} {own : List (Str × Nat)} {vs1 : List Nat} {pos pos' : Pos} {wi wi1 : TI} {g g1 : TG} {tt tt1 : TT} {te : TE} {use : Option (Value → Sem Unit)} {Qf : Value → Shared → Prop}
    (room : X.A.units + 64 < cLine) (calm : X.calm = true) (ndN : X.N.Nodup) (J : Inv X pins σ G z) (pI : PI X tg iter wi) (blk : BlkOk X.N X.env.scope scope own) (vsub : ∀ i ∈ vs1, i ∈ own.map (·.2))
    (pG : ∀ (s : Shared) (H : Hp) (C : Addr) (cl : List (Str × Addr)) (fp : List Addr), PG (X.blk s H scope (compEnvC scope cl C X.env) fp) tg g) (pT : ∀ (s : Shared) (H : Hp) (C : Addr) (cl : List (Str × Addr)) (fp : List Addr), PTs (X.blk s H scope (compEnvC scope cl C X.env) fp) ifs tt)
    (pI1 : ∀ (s : Shared) (H : Hp) (C : Addr) (cl : List (Str × Addr)) (fp : List Addr), PI (X.blk s H scope (compEnvC scope cl C X.env) fp) tg1 iter1 wi1) (pG1 : ∀ (s : Shared) (H : Hp) (C : Addr) (cl : List (Str × Addr)) (fp : List Addr), PG (X.blk s H scope (compEnvC scope cl C X.env) fp) tg1 g1)
    (pT1 : ∀ (s : Shared) (H : Hp) (C : Addr) (cl : List (Str × Addr)) (fp : List Addr), PTs (X.blk s H scope (compEnvC scope cl C X.env) fp) ifs1 tt1) (pE : ∀ (s : Shared) (H : Hp) (C : Addr) (cl : List (Str × Addr)) (fp : List Addr), PE (X.blk s H scope (compEnvC scope cl C X.env) fp) elt te)
    (unf : ∀ x, foldedSetIterable iter X.env x = pure x) (unf1 : ∀ en x, foldedSetIterable iter1 en x = pure x) (want : tSc2 X.prog X.w wi g tt wi1 g1 tt1 te (own.map (·.2)) vs1 σ G Q)
    (fin : ∀ D C z' m G', Inv X pins σ G' z' → Q (.ref D) G' → z'.heap.Ns C m → FpOk X pins G' C → compPost (model X.prog X.w) X.A X.xe use Qf (.ref D) C (.ok .next) z') :
    wpAny (model X.prog X.w) X.A (comprehension (.SetComp elt [⟨tg, iter, ifs, 0⟩, ⟨tg1, iter1, ifs1, 0⟩] scope pos) scope X.env pos' (newSet (.type "set")) false (eval iter X.env) use) Qf X.xe z := by
  have cap : ∀ y ∈ scope.names, y.2 = .free → ∃ c, X.env.cells.lookup y.1 = some c := fun y hy e => (blk.free y hy e).elim (fun k => J.ok.has _ (.inl k)) fun k => J.ok.has _ (.inr k)
  refine wpAny_comprehension_free (use := use) rfl unf (closure_ok cap) blk.kind (fun y hy e => (blk.uniq y hy).trans (by rw [e])) (thn (pI.run pins z σ G _ J want) fun xv z1 hx => thn hx fun itv z2 h2 => ?_)
  obtain ⟨it, fp, tn, Jt, G2, rfl, J2, Tn, st2, f2, q⟩ := h2
  refine PpSet.newSet_ok (newEnv_comp ?_)
  obtain ⟨D, hD⟩ : ∃ D, z2.heap.objs.size = D := ⟨_, rfl⟩
  have freeD : G2 D = none := J2.hok.fresh (Nat.le_of_eq hD)
  obtain ⟨W, ⟨m0, w0⟩, turn⟩ := q D freeD
  obtain ⟨z3, hz3⟩ : ∃ z3 : Shared, ({ z2 with heap := z2.heap.push { cls := .type "set", dict := none, data := .set #[] 0 (.fresh 0 0 (!X.w.params.followText "set-order")) } } : Shared) = z3 := ⟨_, rfl⟩
  have hp3 : z3.heap = z2.heap.push { cls := .type "set", dict := none, data := .set #[] 0 (.fresh 0 0 (!X.w.params.followText "set-order")) } := by rw [← hz3]
  have J3 : Inv X pins σ (upd G2 D (SetMO X.prog X.w D [])) z3 := by
    rw [← hz3]
    refine J2.laid (t' := z2.toks) (fun b o e => Heap.get?_push_of_some _ e) (Nat.le_of_eq hD) ?_
    rw [← hD]
    exact setM_ok ⟨#[], 0, _, ⟨_, Heap.get?_push_size _ rfl, ⟨rfl, rfl, rfl⟩, rfl⟩, tabM_new⟩
  have small : ∀ b ∈ fp, b < z2.heap.objs.size := fun b hb => let ⟨o, e, _⟩ := Tn.obj _ _ st2 b hb; Heap.lt_size e
  have f3 : ∀ b ∈ fp, FpOk X pins (upd G2 D (SetMO X.prog X.w D [])) b ∧ b < z3.heap.objs.size := fun b hb => by
    refine ⟨⟨?_, (f2 b hb).2⟩, by rw [hp3, Heap.size_push]; exact Nat.lt_succ_of_lt (small b hb)⟩
    rw [upd_ne (hD ▸ Nat.ne_of_lt (small b hb))]
    exact (f2 b hb).1
  have st3 : tn 0 z3.heap := Tn.keep _ _ _ st2 fun b _ o e => by rw [hp3]; exact Heap.get?_push_of_some _ e
  have J4 := block_start J3 blk ndN f3
  obtain ⟨G3, hG3⟩ : ∃ G3, upd G2 D (SetMO X.prog X.w D []) = G3 := ⟨_, rfl⟩
  rw [hG3] at J3 f3 J4 w0
  have g3 := pG z3 G3 z3.heap.objs.size (cellsFrom (z3.heap.objs.size + 1) scope.names (cloFrom X.env.cells scope.names [])) fp
  have t3 := pT z3 G3 z3.heap.objs.size (cellsFrom (z3.heap.objs.size + 1) scope.names (cloFrom X.env.cells scope.names [])) fp
  have i4 := pI1 z3 G3 z3.heap.objs.size (cellsFrom (z3.heap.objs.size + 1) scope.names (cloFrom X.env.cells scope.names [])) fp
  have g4 := pG1 z3 G3 z3.heap.objs.size (cellsFrom (z3.heap.objs.size + 1) scope.names (cloFrom X.env.cells scope.names [])) fp
  have t4 := pT1 z3 G3 z3.heap.objs.size (cellsFrom (z3.heap.objs.size + 1) scope.names (cloFrom X.env.cells scope.names [])) fp
  have e4 := pE z3 G3 z3.heap.objs.size (cellsFrom (z3.heap.objs.size + 1) scope.names (cloFrom X.env.cells scope.names [])) fp
  obtain ⟨z4, hz4⟩ : ∃ z4 : Shared, ({ z3 with heap := pushCells (z3.heap.push { cls := .type "dict", data := .dict #[] }) scope.names } : Shared) = z4 := ⟨_, rfl⟩
  obtain ⟨ce, hce⟩ : ∃ ce, compEnvC scope (cellsFrom (z3.heap.objs.size + 1) scope.names (cloFrom X.env.cells scope.names [])) z3.heap.objs.size X.env = ce := ⟨_, rfl⟩
  rw [hz4] at J4
  rw [hce] at J4 g3 t3 i4 g4 t4 e4
  rw [hD] at *
  rw [hz3]
  show codeAny _ _ (.compStart (.SetComp elt [⟨tg, iter, ifs, 0⟩, ⟨tg1, iter1, ifs1, 0⟩] scope pos) 0 (.ref it) (.ref D) (compEnvC scope (cellsFrom (z3.heap.objs.size + 1) scope.names (cloFrom X.env.cells scope.names [])) z3.heap.objs.size X.env)) (compPost (model X.prog X.w) X.A X.xe use Qf (.ref D) z3.heap.objs.size)
    ({ z3 with heap := pushCells (z3.heap.push { cls := .type "dict", data := .dict #[] }) scope.names } : Shared)
  rw [hz4, hce]
  have cL : ce.locals = z3.heap.objs.size := by rw [← hce]; rfl
  have none3 : ∀ b ∈ fp, G3 b = none := fun b hb => (f3 b hb).1.1
  have st4 : tn 0 z4.heap := Tn.keep _ _ _ st3 fun b _ o e => by rw [← hz4]; exact pushCells_keeps _ _ _ _ (Heap.get?_push_of_some _ e)
  have fpB : ∀ {τ : L2.St} {G' : Hp} {z' : Shared}, Inv (X.blk z3 G3 scope ce fp) [] τ G' z' → (∀ b ∈ fp, G' b = none) → ∀ b ∈ fp, FpOk (X.blk z3 G3 scope ce fp) [] G' b := fun {τ G' z'} J' hn b hb =>
    ⟨hn b hb, (J'.ok.exf b hb).1, J'.ok.exfs b hb, .inl hb, fun x c e => (J'.ok.exf b hb).2 x c e, fun p hp => absurd (show p ∈ ([] : List (Addr × Obj)) ++ [] from hp) (by simp)⟩
  have loop : codeAny (model X.prog X.w) X.A (.compLoop (.SetComp elt [⟨tg, iter, ifs, 0⟩, ⟨tg1, iter1, ifs1, 0⟩] scope pos) 0 (.ref it) (.ref D) ce) (compPost (model X.prog X.w) X.A X.xe use Qf (.ref D) z3.heap.objs.size) z4 := by
    refine loopS_out (unf1 ce) (fun n z' => ∃ i G', Inv (X.blk z3 G3 scope ce fp) [] (wipe σ (own.map (·.2))) G' z' ∧ tn i z'.heap ∧ (∀ b ∈ fp, G' b = none) ∧ W i n G') ?_ m0 ⟨0, G3, J4, st4, none3, w0⟩
    rintro n z5 ⟨i, G5, J5, st5, n5, w5⟩
    rcases turn i n G5 w5 with ⟨stop, qq⟩ | ⟨go, Nx, less, step⟩
    · refine thnF (Tn.done (X.blk z3 G3 scope ce fp) rfl rfl rfl calm i [] z5 _ G5 (fun _ _ => False) J5 (fpB J5 n5) st5 stop) fun r z6 ⟨hr, J6⟩ => ?_
      subst hr
      have J7 : Inv X pins σ G5 z6 := J3.call' (ch := fp) J6.os J6.base J6.hok J6.bare fun b hb => let y := (f3 b hb).1.2; ⟨y.2.2.1, y.1, y.2.2.2.1, y.2.2.2.2⟩
      obtain ⟨m, hn, _⟩ := J6.loc
      have fr := J6.free
      rw [show (X.blk z3 G3 scope ce fp).env.locals = z3.heap.objs.size from cL] at fr hn
      exact fin D z3.heap.objs.size z6 m G5 J7 qq hn (J3.fpOk (Nat.le_refl _) fr)
    · refine thnF (Tn.item (X.blk z3 G3 scope ce fp) rfl rfl rfl calm i [] z5 _ G5 (fun _ _ => False) J5 (fpB J5 n5) st5 go) fun r z6 ⟨u, hr, h6⟩ => ?_
      subst hr
      refine thnF h6 fun _ z7 ⟨x, G7, J7, r7, y7, st7, n7⟩ => ?_
      refine thnF (g3.run _ z7 _ G7 x u _ (J7.pinned (fpB J7 n7) (Tn.obj _ _ st7)) r7 (step x G7 y7)) fun _ z8 ⟨τ, G8, J8, hw8, q8⟩ => ?_
      refine thnF (t3.run _ z8 τ G8 _ J8 q8) fun b z9 ⟨G9, J9, q9⟩ => ?_
      have back : ∀ {z' : Shared} {G' : Hp} {τ' : L2.St}, Inv (X.blk z3 G3 scope ce fp) ([] ++ pinsAt fp z7.heap) τ' G' z' → (wipe σ (own.map (·.2))).length = τ'.length → (∀ (j : Nat) v, (wipe σ (own.map (·.2)))[j]? = some (some v) → τ'[j]? = some (some v)) → Nx G' →
          ∃ m, m < n ∧ ∃ i G', Inv (X.blk z3 G3 scope ce fp) [] (wipe σ (own.map (·.2))) G' z' ∧ tn i z'.heap ∧ (∀ b ∈ fp, G' b = none) ∧ W i m G' := fun {z' G' τ'} J' hl hk nx => by
        obtain ⟨m', hm, w'⟩ := less G' nx
        have pinned : ∀ b ∈ fp, ∀ o, z7.heap.get? b = some o → z'.heap.get? b = some o ∧ G' b = none := fun b hb o e =>
          let y := J'.pin (b, o) (List.mem_append_right _ (List.mem_append_right _ (mem_pinsAt hb e)))
          ⟨y.1, y.2.1⟩
        refine ⟨m', hm, i + 1, G', (J'.unpinned (pins := [])).weak hl hk, Tn.keep _ _ _ st7 fun b hb o e => (pinned b hb o e).1, fun b hb => ?_, w'⟩
        obtain ⟨o, e, _⟩ := Tn.obj _ _ st7 b hb
        exact (pinned b hb o e).2
      have len8 : (wipe σ (own.map (·.2))).length = τ.length := by rw [← hw8, wipe_length]
      have kp8 : ∀ (j : Nat) v, (wipe σ (own.map (·.2)))[j]? = some (some v) → τ[j]? = some (some v) := fun j v e => by
        rw [← hw8] at e
        exact (wipe_some e).1
      have kp9 : ∀ (j : Nat) v, (wipe σ (own.map (·.2)))[j]? = some (some v) → (wipe τ vs1)[j]? = some (some v) := fun j v e => by
        rw [← hw8] at e
        obtain ⟨a1, a2⟩ := wipe_some e
        rw [wipe_out fun y => a2 (vsub j y)]
        exact a1
      cases b with
      | false =>
        rw [if_neg Bool.false_ne_true] at q9 ⊢
        exact back J9 len8 kp8 q9
      | true =>
        rw [if_pos rfl] at q9 ⊢
        refine thnF (i4.run _ z9 τ G9 _ J9 q9) fun xv z10 hx => thnF hx fun itv z11 h11 => ?_
        obtain ⟨it1, fp1, tn1, Jt1, G11, rfl, J11, Tn1, st11, f11, W1, ⟨m1, w1⟩, turn1⟩ := h11
        have fpB1 : ∀ {G' : Hp}, (∀ b ∈ fp1, G' b = none) → ∀ b ∈ fp1, FpOk (X.blk z3 G3 scope ce fp) ([] ++ pinsAt fp z7.heap) G' b := fun hn b hb => ⟨hn b hb, (f11 b hb).2⟩
        have loop1 : codeAny (model X.prog X.w) X.A (.compLoop (.SetComp elt [⟨tg, iter, ifs, 0⟩, ⟨tg1, iter1, ifs1, 0⟩] scope pos) 1 (.ref it1) (.ref D) ce)
            (fun r z' => match r with
              | .ok _ => ∃ m, m < n ∧ ∃ i G', Inv (X.blk z3 G3 scope ce fp) [] (wipe σ (own.map (·.2))) G' z' ∧ tn i z'.heap ∧ (∀ b ∈ fp, G' b = none) ∧ W i m G'
              | .error _ => False) z11 := by
          refine loopS_in (fun k z' => ∃ j G', Inv (X.blk z3 G3 scope ce fp) ([] ++ pinsAt fp z7.heap) (wipe τ vs1) G' z' ∧ tn1 j z'.heap ∧ (∀ b ∈ fp1, G' b = none) ∧ W1 j k G') ?_ m1 ⟨0, G11, J11.weak (wipe_length _ _) (fun j v e => (wipe_some e).1), st11, fun b hb => (f11 b hb).1, w1⟩
          rintro k z12 ⟨j, G12, J12, st12, n12, w12⟩
          rcases turn1 j k G12 w12 with ⟨stop1, nx1⟩ | ⟨go1, Nx1, less1, step1⟩
          · refine thnF (Tn1.done (X.blk z3 G3 scope ce fp) rfl rfl rfl calm j _ z12 (wipe τ vs1) G12 (fun _ _ => False) J12 (fpB1 n12) st12 stop1) fun r z13 ⟨hr, J13⟩ => ?_
            subst hr
            exact back J13 (len8.trans (wipe_length τ vs1).symm) kp9 nx1
          · refine thnF (Tn1.item (X.blk z3 G3 scope ce fp) rfl rfl rfl calm j _ z12 (wipe τ vs1) G12 (fun _ _ => False) J12 (fpB1 n12) st12 go1) fun r z13 ⟨u1, hr, h13⟩ => ?_
            subst hr
            refine thnF h13 fun _ z14 ⟨x1, G14, J14, r14, y14, st14, n14⟩ => ?_
            refine thnF (g4.run _ z14 (wipe τ vs1) G14 x1 u1 _ (J14.pinned (fpB1 n14) (Tn1.obj _ _ st14)) r14 (step1 x1 G14 y14)) fun _ z15 ⟨τ2, G15, J15, hw15, q15⟩ => ?_
            refine thnF (t4.run _ z15 τ2 G15 _ J15 q15) fun b1 z16 ⟨G16, J16, q16⟩ => ?_
            have back1 : ∀ {z' : Shared} {G' : Hp}, Inv (X.blk z3 G3 scope ce fp) (([] ++ pinsAt fp z7.heap) ++ pinsAt fp1 z14.heap) τ2 G' z' → Nx1 G' →
                ∃ m, m < k ∧ ∃ j G', Inv (X.blk z3 G3 scope ce fp) ([] ++ pinsAt fp z7.heap) (wipe τ vs1) G' z' ∧ tn1 j z'.heap ∧ (∀ b ∈ fp1, G' b = none) ∧ W1 j m G' := fun {z' G'} J' nx => by
              obtain ⟨m', hm, w'⟩ := less1 G' nx
              have pinned : ∀ b ∈ fp1, ∀ o, z14.heap.get? b = some o → z'.heap.get? b = some o ∧ G' b = none := fun b hb o e =>
                let y := J'.pin (b, o) (List.mem_append_right _ (List.mem_append_right _ (mem_pinsAt hb e)))
                ⟨y.1, y.2.1⟩
              refine ⟨m', hm, j + 1, G', J'.unpinned.weak (by rw [← hw15, wipe_length]) (fun j v e => by rw [← hw15] at e; exact (wipe_some e).1), Tn1.keep _ _ _ st14 fun b hb o e => (pinned b hb o e).1, fun b hb => ?_, w'⟩
              obtain ⟨o, e, _⟩ := Tn1.obj _ _ st14 b hb
              exact (pinned b hb o e).2
            cases b1 with
            | false =>
              rw [if_neg Bool.false_ne_true] at q16 ⊢
              exact back1 J16 q16
            | true =>
              rw [if_pos rfl] at q16 ⊢
              refine thnF (e4.run _ z16 τ2 G16 _ J16 q16) fun y z17 ⟨yv, G17, J17, r17, put⟩ => ?_
              exact add_to (X := X.blk z3 G3 scope ce fp) room J17 r17 put fun G18 z18 J18 nx => back1 J18 nx
        exact startS1 loop1 (Tn1.self X.A 0 _ _ _ st11 loop1)
  exact PpSet.codeAny_compStart_set loop (Tn.self X.A 0 _ _ _ st4 loop)
theorem pe_sc2 {elt tg iter tg1 iter1 : Expr} {ifs ifs1 : List Expr} {scope : Scope} {own : List (Str × Nat)} {vs1 : List Nat} {pos : Pos} {wi wi1 : TI} {g g1 : TG} {tt tt1 : TT} {te : TE} (room : X.A.units + 64 < cLine) (calm : X.calm = true) (ndN : X.N.Nodup) (pI : PI X tg iter wi) (blk : BlkOk X.N X.env.scope scope own) (vsub : ∀ i ∈ vs1, i ∈ own.map (·.2))
    (pG : ∀ (s : Shared) (H : Hp) (C : Addr) (cl : List (Str × Addr)) (fp : List Addr), PG (X.blk s H scope (compEnvC scope cl C X.env) fp) tg g) (pT : ∀ (s : Shared) (H : Hp) (C : Addr) (cl : List (Str × Addr)) (fp : List Addr), PTs (X.blk s H scope (compEnvC scope cl C X.env) fp) ifs tt)
    (pI1 : ∀ (s : Shared) (H : Hp) (C : Addr) (cl : List (Str × Addr)) (fp : List Addr), PI (X.blk s H scope (compEnvC scope cl C X.env) fp) tg1 iter1 wi1) (pG1 : ∀ (s : Shared) (H : Hp) (C : Addr) (cl : List (Str × Addr)) (fp : List Addr), PG (X.blk s H scope (compEnvC scope cl C X.env) fp) tg1 g1)
    (pT1 : ∀ (s : Shared) (H : Hp) (C : Addr) (cl : List (Str × Addr)) (fp : List Addr), PTs (X.blk s H scope (compEnvC scope cl C X.env) fp) ifs1 tt1) (pE : ∀ (s : Shared) (H : Hp) (C : Addr) (cl : List (Str × Addr)) (fp : List Addr), PE (X.blk s H scope (compEnvC scope cl C X.env) fp) elt te)
    (unf : ∀ x, foldedSetIterable iter X.env x = pure x := by intro _; rfl) (unf1 : ∀ en x, foldedSetIterable iter1 en x = pure x := by intro _ _; rfl) :
    PE X (.SetComp elt [⟨tg, iter, ifs, 0⟩, ⟨tg1, iter1, ifs1, 0⟩] scope pos) (tSc2 X.prog X.w wi g tt wi1 g1 tt1 te (own.map (·.2)) vs1) := by
  refine ⟨fun pins z σ G Q J want => ?_⟩
  rw [PpSet.eval_SetComp]
  refine sc2_core room calm ndN J pI blk vsub pG pT pI1 pG1 pT1 pE unf unf1 want fun D C z' m G' J' q hn fp => ⟨m, hn, fun g' but => ⟨.ref D, G', J'.turned (t' := z'.toks) (fun b o hb e => (but.2 b hb).trans e) fp.1 fp.2.1 fp.2.2.2.1 fp.2.2.2.2.1 fp.2.2.2.2.2, rfl, q⟩⟩
end
end FF
namespace FF
open PySem PySem.Spec PyProof.Rows L2
section
variable {P : Program} {w : World} {A : Around} {E : Value → Shared → Prop} {s : Shared}
/-- S says the first i numbers, n of them -/
def GotI (ns : List Int) (i : Nat) (S : Int → Bool) (n : Nat) : Prop := (∀ k, S k = true ↔ k ∈ ns.take i) ∧ n ≤ i
theorem updI {I : Addr} {fp wr : List Addr} {G : Array GenState → Array GenState → Prop} {n : Nat} {Pv : Nat → Value → Prop} {St : Nat → Shared → Prop} {R : Result → Shared → Prop} (W : WalksS P w A.in1 I fp wr G n Pv St) (S : Addr) (nS : S ∉ fp) (ns : List Int) (hn : n = ns.length) (few : ns.length < 64)
    (val : ∀ i v, Pv i v → ∃ k t, ns[i]? = some k ∧ v = .int k t) (h0 : Heap) (S0 : h0.get? S = none) (w0 : ∀ b ∈ wr, h0.get? b = none) :
    ∀ (m i : Nat) (s : Shared), n - i = m → i ≤ n → St i s → (∀ b o, h0.get? b = some o → s.heap.get? b = some o) → (∃ C c, SetR w s.heap S C c ∧ GotI ns i C c) →
      (∀ s' C c, Moved (S :: wr) G s s' → SetR w s'.heap S C c → GotI ns n C c → (∀ b o, h0.get? b = some o → s'.heap.get? b = some o) → R (.ok (.ret .none)) s') →
      codeAny (model P w) A (.builtin "set.update.loop" ⟨[.ref S, .ref I], []⟩) R s := by
  have nSw : S ∉ wr := fun h => nS (W.sub _ h)
  have kept : ∀ {s s' : Shared}, Moved wr G s s' → (∀ b o, h0.get? b = some o → s.heap.get? b = some o) → ∀ b o, h0.get? b = some o → s'.heap.get? b = some o := fun mv k b o e => mv.heap b o (fun hb => by rw [w0 b hb] at e; cases e) (k b o e)
  have more : ∀ b ∈ wr, b ∈ S :: wr := fun b hb => List.mem_cons_of_mem _ hb
  intro m
  induction m with
  | zero =>
    intro i s hm hi st kp ⟨C, c, hS, g⟩ fin
    obtain rfl : i = n := by omega
    refine codeAny_builtin F.entry_set_update_loop ?_
    rw [Around.under_plainId F.plain_set_update_loop _]
    show wpAny _ A.in1 (pyNext (.ref I) >>= _) _ _ s
    refine wpAny_bind (W.done s _ _ st fun s' mv => ?_)
    exact wpAny_pure (fin s' C c (mv.mono more) (hS.at fun o e => mv.heap S o nSw e) g (kept mv kp))
  | succ m ih =>
    intro i s hm hi st kp ⟨C, c, hS, g⟩ fin
    have lt : i < n := by omega
    refine codeAny_builtin F.entry_set_update_loop ?_
    rw [Around.under_plainId F.plain_set_update_loop _]
    show wpAny _ A.in1 (pyNext (.ref I) >>= _) _ _ s
    refine wpAny_bind (W.item i s _ _ lt st fun v s' hP st' mv => ?_)
    obtain ⟨k, t, hk, rfl⟩ := val i v hP
    have kp' := kept mv kp
    show wpAny _ A.in1 (holding [Value.int k t] (setAdd S (.int k t)) >>= _) _ _ s'
    refine wpAny_bind (wpAny_holding ?_)
    unfold setAdd
    refine wpAny_holding (wpAny_bind ((intKind P w).pyHash (intKind_is P w k t) ?_))
    have := g.2
    refine setR_add_hashed (s := { s' with toks := s'.toks + 1 }) (hS.at fun o e => mv.heap S o nSw e) (by unfold scanBound; omega) fun h' but new => ?_
    have kp2 : ∀ b o, h0.get? b = some o → h'.get? b = some o := fun b o e => (but.2 b fun z => by rw [z, S0] at e; cases e).trans (kp' b o e)
    have g' : GotI ns (i + 1) (fun j => C j || decide (j = k)) (if C k = true then c else c + 1) := by
      refine ⟨fun j => ?_, by split <;> omega⟩
      rw [List.take_add_one, hk, Bool.or_eq_true, decide_eq_true_eq, g.1 j]
      simp
    refine wpAny_pure ⟨plainId_quiet F.plain_set_update_loop _, ih (i + 1) _ (by omega) lt (W.frame _ s' _ _ st' (Nat.le_add_right _ _) fun b hb o e => ?_) kp2 ⟨_, _, new, g'⟩ fun s2 C2 c2 mv2 hS2 g2 kp3 => ?_⟩
    · exact (but.2 b fun z => nS (z ▸ hb)).trans e
    · refine fin s2 C2 c2 (Moved.trans W.gtrans ((mv.mono more).then_heap (Nat.le_add_right _ _) fun b o hb e => ?_) mv2) hS2 g2 kp3
      exact (but.2 b fun z => hb (by rw [z]; exact List.mem_cons_self)).trans e
theorem setOfI {l : Addr} {items : Array Value} (ns : List Int) {Q : Value → Shared → Prop} (hh : A.handled = none) (hl : s.heap.IsList l items) (hit : IntsAre items.toList ns) (few : ns.length < 64)
    (q : ∀ (h' : Heap) (tk : Nat) C c, SetR w h' s.heap.objs.size C c → GotI ns ns.length C c → (∀ b o, s.heap.get? b = some o → h'.get? b = some o) → Q (.ref s.heap.objs.size) { s with heap := h', toks := tk }) : wpAny (model P w) A (call (.type "set") [.ref l]) Q E s := by
  have n : items.size = ns.length := by rw [← Array.length_toList]; exact hit.length
  refine setOf_by (Post := fun h' => ∃ C c, SetR w h' s.heap.objs.size C c ∧ GotI ns ns.length C c) hl (fun R fin => ?_) fun h' tk ⟨C, c, a, b⟩ kp => q h' tk C c a b kp
  have ltS : l < s.heap.objs.size := hl.choose_spec.1 |> Heap.lt_size
  have hh3 : A.in1.in1.in1.handled = none := by simp [hh]
  have szI : (s.heap.push { cls := .type "set", dict := none, data := .set #[] 0 (.fresh 0 0 (!w.params.followText "set-order")) }).objs.size = s.heap.objs.size + 1 := Heap.size_push ..
  have neI : l ≠ (s.heap.push { cls := .type "set", dict := none, data := .set #[] 0 (.fresh 0 0 (!w.params.followText "set-order")) }).objs.size := by rw [szI]; exact Nat.ne_of_lt (Nat.lt_succ_of_lt ltS)
  have nS : s.heap.objs.size ∉ [(s.heap.push { cls := .type "set", dict := none, data := .set #[] 0 (.fresh 0 0 (!w.params.followText "set-order")) }).objs.size, l] := by
    rw [szI]
    simp only [List.mem_cons, List.not_mem_nil, or_false, not_or]
    exact ⟨Nat.ne_of_lt (Nat.lt_succ_self _), Nat.ne_of_gt ltS⟩
  have val : ∀ (i : Nat) (v : Value), items[i]? = some v → ∃ k t, ns[i]? = some k ∧ v = .int k t := fun i v hv => by
    obtain ⟨t, e⟩ := IntsAre.int_at hit i v (by rw [Array.getElem?_toList]; exact hv)
    have lt : i < ns.length := by
      rw [← n]
      exact (Array.getElem?_eq_some_iff.mp hv).1
    refine ⟨ns[i], t, List.getElem?_eq_getElem lt, ?_⟩
    rw [e, List.getD_eq_getElem?_getD, List.getElem?_eq_getElem lt]
    rfl
  refine updI ((Walks.list hh3 _ l neI items).toS) s.heap.objs.size nS ns n few val s.heap (none_at _ _ (Nat.le_refl _)) (fun b hb => none_at _ _ (by
    rw [List.mem_singleton.mp hb, szI]
    exact Nat.le_succ _)) (items.size - 0) 0 _ (by omega) (Nat.zero_le _) ⟨⟨_, Heap.get?_push_size _ rfl, rfl, rfl⟩, ((hl.push _).push _)⟩ (fun b o e => Heap.get?_push_of_some _ (Heap.get?_push_of_some _ e)) ?first ?last
  case first =>
    exact ⟨_, _, (setR_fresh w).at fun o e => Heap.get?_push_of_some _ e, fun k => by simp, Nat.le_refl _⟩
  case last =>
    intro s' C c mv hS' g' kp
    obtain ⟨h', g2, d', tk', os'⟩ := s'
    obtain rfl : g2 = s.gens := mv.gens
    obtain rfl : d' = s.drawn := mv.drawn
    obtain rfl : os' = s.os := mv.os
    rw [n] at g'
    exact fin h' tk' ⟨C, c, hS', g'⟩ kp
end
/-- set(xs), xs fewer than 64 whole numbers -/
def rSetI (K : PySem.W.Frag) (w : World) : List V → Hp → VK → Prop := fun xs H Q => ∃ (l : Addr) (ns : List Int), xs = [V.ref l] ∧ SqL K H l (ns.map V.int) ∧ ns.length < 64 ∧ ∀ a C c, H a = none → (∀ k, C k = true ↔ k ∈ ns) → c < 64 → Q (.ref a) (upd H a (SetO w a C c))
theorem cr_setI {X : Cx} (calm : X.calm = true) : CallR X (.type "set") (rSetI X.K X.w) := by
  intro pins z σ G xs us Q I rel want
  obtain ⟨l, ns, rfl, hl, few, q⟩ := want
  obtain ⟨u, rfl, rx⟩ := vals1 rel
  obtain rfl : u = Value.ref l := rx
  obtain ⟨its, rv, pl, big⟩ := I.list hl
  have free : G z.heap.objs.size = none := I.hok.fresh (Nat.le_refl _)
  refine setOfI (P := X.prog) (w := X.w) ns (I.ok.hd calm) pl.isList rv.ints few fun h' tk C c hS g kp => ?_
  refine ⟨.ref z.heap.objs.size, _, I.laid (t' := tk) kp (Nat.le_refl _) (setO_new hS), rfl, q _ C c free (fun k => ?_) (Nat.lt_of_le_of_lt g.2 few)⟩
  rw [g.1 k, List.take_length]
end FF
namespace FF
open PySem PySem.Spec PyProof.Rows L2
class TOrd (α : Type) where
  lt : α → α → Bool
  irr : ∀ a, lt a a = false
  tr : ∀ a b c, lt a b = true → lt b c = true → lt a c = true
  tri : ∀ a b, lt a b = false → lt b a = false → a = b
instance : TOrd Int where
  lt := fun a b => decide (a < b)
  irr := fun a => by simp
  tr := fun a b c => by simp only [decide_eq_true_eq]; omega
  tri := fun a b => by simp only [decide_eq_false_iff_not]; omega
section
variable {α : Type} [TOrd α]
abbrev Asc (l : List α) : Prop := l.Pairwise fun a b => TOrd.lt a b = true
def ins (x : α) : List α → List α
  | [] => [x]
  | y :: l => if TOrd.lt x y = true then x :: y :: l else if TOrd.lt y x = true then y :: ins x l else y :: l
/-- sorted(set(l)) -/
def canon (l : List α) : List α := l.foldr ins []
theorem mem_ins {x z : α} : ∀ {l : List α}, z ∈ ins x l ↔ z = x ∨ z ∈ l
  | [] => by simp [ins]
  | y :: l => by
    unfold ins
    by_cases h : TOrd.lt x y = true
    · rw [if_pos h, List.mem_cons]
    · rw [if_neg h]
      by_cases h2 : TOrd.lt y x = true
      · rw [if_pos h2, List.mem_cons, mem_ins, List.mem_cons]
        exact ⟨fun h => h.elim (fun e => .inr (.inl e)) (fun h => h.elim .inl fun m => .inr (.inr m)), fun h => h.elim (fun e => .inr (.inl e)) fun h => h.elim .inl fun m => .inr (.inr m)⟩
      · rw [if_neg h2]
        have e : x = y := TOrd.tri _ _ (by simpa using h) (by simpa using h2)
        subst e
        rw [List.mem_cons]
        exact ⟨.inr, fun h => h.elim .inl id⟩
theorem asc_ins {x : α} : ∀ {l : List α}, Asc l → Asc (ins x l)
  | [], _ => List.pairwise_singleton _ _
  | y :: l, h => by
    obtain ⟨h1, h2⟩ := List.pairwise_cons.mp h
    unfold ins
    by_cases g : TOrd.lt x y = true
    · rw [if_pos g]
      refine List.pairwise_cons.mpr ⟨fun z hz => ?_, h⟩
      rcases List.mem_cons.mp hz with rfl | hz
      · exact g
      · exact TOrd.tr _ _ _ g (h1 z hz)
    · rw [if_neg g]
      by_cases g2 : TOrd.lt y x = true
      · rw [if_pos g2]
        refine List.pairwise_cons.mpr ⟨fun z hz => ?_, asc_ins h2⟩
        rcases mem_ins.mp hz with rfl | hz
        · exact g2
        · exact h1 z hz
      · rw [if_neg g2]; exact h
theorem mem_canon {z : α} : ∀ {l : List α}, z ∈ canon l ↔ z ∈ l
  | [] => Iff.rfl
  | x :: l => by
    show z ∈ ins x (canon l) ↔ _
    rw [mem_ins, mem_canon, List.mem_cons]
theorem asc_canon : ∀ (l : List α), Asc (canon l)
  | [] => List.Pairwise.nil
  | x :: l => asc_ins (asc_canon l)
theorem asc_uniq : ∀ {l m : List α}, Asc l → Asc m → (∀ z, z ∈ l ↔ z ∈ m) → l = m
  | [], [], _, _, _ => rfl
  | [], y :: m, _, _, h => by have := (h y).mpr List.mem_cons_self; cases this
  | x :: l, [], _, _, h => by have := (h x).mp List.mem_cons_self; cases this
  | x :: l, y :: m, hl, hm, h => by
    obtain ⟨l1, l2⟩ := List.pairwise_cons.mp hl
    obtain ⟨m1, m2⟩ := List.pairwise_cons.mp hm
    have e : x = y := by
      rcases List.mem_cons.mp ((h x).mp List.mem_cons_self) with e | hx
      · exact e
      · rcases List.mem_cons.mp ((h y).mpr List.mem_cons_self) with e | hy
        · exact e.symm
        · have := TOrd.tr _ _ _ (m1 x hx) (l1 y hy)
          rw [TOrd.irr] at this
          cases this
    subst e
    have nl : x ∉ l := fun hx => by have := l1 x hx; rw [TOrd.irr] at this; cases this
    have nm : x ∉ m := fun hx => by have := m1 x hx; rw [TOrd.irr] at this; cases this
    rw [asc_uniq l2 m2 fun z => ⟨fun hz => ?_, fun hz => ?_⟩]
    · rcases List.mem_cons.mp ((h z).mp (List.mem_cons_of_mem _ hz)) with rfl | k
      · exact absurd hz nl
      · exact k
    · rcases List.mem_cons.mp ((h z).mpr (List.mem_cons_of_mem _ hz)) with rfl | k
      · exact absurd hz nm
      · exact k
theorem canon_eq {l m : List α} (h : Asc m) (e : ∀ z, z ∈ m ↔ z ∈ l) : m = canon l := asc_uniq h (asc_canon l) fun z => (e z).trans mem_canon.symm
theorem canon_asc {l : List α} (h : Asc l) : canon l = l := (canon_eq h fun _ => Iff.rfl).symm
theorem canon_congr {l m : List α} (e : ∀ z, z ∈ l ↔ z ∈ m) : canon l = canon m := asc_uniq (asc_canon l) (asc_canon m) fun z => mem_canon.trans ((e z).trans mem_canon.symm)
theorem asc_nodup {l : List α} (h : Asc l) : l.Nodup := List.Pairwise.imp (fun {a b} h e => by subst e; rw [TOrd.irr] at h; cases h) h
theorem asc_filter {l : List α} (h : Asc l) (p : α → Bool) : Asc (l.filter p) := List.Pairwise.filter p h
theorem ins_len {x : α} : ∀ (l : List α), (ins x l).length ≤ l.length + 1
  | [] => Nat.le_refl _
  | y :: l => by
    unfold ins
    have := ins_len (x := x) l
    split
    · simp
    · split
      · simp; omega
      · simp
theorem canon_len : ∀ (l : List α), (canon l).length ≤ l.length
  | [] => Nat.le_refl _
  | x :: l => by
    have h1 := ins_len (x := x) (canon l)
    have h2 := canon_len l
    show (ins x (canon l)).length ≤ l.length + 1
    omega
theorem canon_nil : canon ([] : List α) = [] := rfl
theorem canon_ne {l : List α} (h : l ≠ []) : canon l ≠ [] := by
  obtain ⟨x, m, rfl⟩ := List.exists_cons_of_ne_nil h
  intro e
  have : x ∈ canon (x :: m) := mem_canon.mpr List.mem_cons_self
  rw [e] at this
  cases this
end
theorem cv_inj : ∀ {a b : Key}, cv a = cv b → a = b
  | .inl _, .inl _, h => by injection h with h; rw [h]
  | .inr x, .inr y, h => by
    injection h with h
    obtain ⟨x⟩ := x
    obtain ⟨y⟩ := y
    have : x = y := Array.toList_inj.mp h
    rw [this]
  | .inl _, .inr _, h => nomatch h
  | .inr _, .inl _, h => nomatch h
theorem map_cv_inj : ∀ {a b : List Key}, a.map cv = b.map cv → a = b
  | [], [], _ => rfl
  | x :: a, y :: b, h => by
    rw [List.map_cons, List.map_cons] at h
    injection h with h1 h2
    rw [cv_inj h1, map_cv_inj h2]
  | [], _ :: _, h => nomatch h
  | _ :: _, [], h => nomatch h
theorem kLt_irr (a : List Key) : kLt a a = false := (listOrd itemOrd).irrefl _
theorem kLt_tr (a b c : List Key) (h1 : kLt a b = true) (h2 : kLt b c = true) : kLt a c = true := (listOrd itemOrd).trans _ _ _ h1 h2
theorem kLt_tri (a b : List Key) (h1 : kLt a b = false) (h2 : kLt b a = false) : a = b := map_cv_inj ((listOrd itemOrd).total _ _ h1 h2)
/-- an order by keys -/
@[reducible] def ordBy {α : Type} (enc : α → List Key) (inj : ∀ a b, enc a = enc b → a = b) : TOrd α where
  lt := fun a b => kLt (enc a) (enc b)
  irr := fun a => kLt_irr _
  tr := fun a b c => kLt_tr _ _ _
  tri := fun a b h1 h2 => inj a b (kLt_tri _ _ h1 h2)
end FF
namespace FF
open PySem PySem.Spec PyProof.Rows L2
def encE (e : E3) : List Key := [.inl e.1, .inr e.2.1, .inl e.2.2]
def encN (e : Int × Str) : List Key := [.inl e.1, .inr e.2]
theorem encE_inj (a b : E3) (h : encE a = encE b) : a = b := by
  injection h with h1 h
  injection h with h2 h
  injection h with h3 _
  injection h1 with h1
  injection h2 with h2
  injection h3 with h3
  exact Prod.ext h1 (Prod.ext h2 h3)
theorem encN_inj (a b : Int × Str) (h : encN a = encN b) : a = b := by
  injection h with h1 h
  injection h with h2 _
  injection h1 with h1
  injection h2 with h2
  exact Prod.ext h1 h2
instance : TOrd E3 := ordBy encE encE_inj
instance : TOrd (Int × Str) := ordBy encN encN_inj
instance : TOrd (Int × Int) := ordBy kP put_P.inj
class KeyR {α : Type} [TOrd α] (R : Rep α) where
  enc : α → List Key
  ok : α → Prop
  sh : Nat → Bool
  inj : ∀ a b, enc a = enc b → a = b
  lt : ∀ a b : α, TOrd.lt a b = kLt (enc a) (enc b)
  fits : ∀ x, Fits sh (enc x)
  to : ∀ {G : Hp} {v : V} {x : α}, R G v x → ok x ∧ ∃ a, v = .ref a ∧ G a = some (.tup ((enc x).map kV))
  back : ∀ {G : Hp} {a : Addr} {x : α}, ok x → G a = some (.tup ((enc x).map kV)) → R G (.ref a) x
instance : KeyR zE where
  enc := encE
  ok := fun e => IsNm e.2.1
  sh := fun i => i == 1
  inj := encE_inj
  lt := fun _ _ => rfl
  fits := fun x => ⟨fun z => (nomatch z), fun i y h => by
    match i, h with
    | 0, h => cases h; rfl
    | 1, h => cases h; rfl
    | 2, h => cases h; rfl
    | n + 3, h => cases h⟩
  to := fun ⟨a, u, w, z, e, ha, h1, h2, h3⟩ => by
    obtain rfl : u = .int _ := h1
    obtain ⟨rfl, hn⟩ := h2
    obtain rfl : z = .int _ := h3
    exact ⟨hn, a, e, ha⟩
  back := fun h ha => ⟨_, _, _, _, rfl, ha, rfl, ⟨rfl, h⟩, rfl⟩
instance : KeyR zPN where
  enc := encN
  ok := fun e => IsNm e.2
  sh := fun i => i == 1
  inj := encN_inj
  lt := fun _ _ => rfl
  fits := fun x => ⟨fun z => (nomatch z), fun i y h => by
    match i, h with
    | 0, h => cases h; rfl
    | 1, h => cases h; rfl
    | n + 2, h => cases h⟩
  to := fun ⟨a, u, w, e, ha, h1, h2⟩ => by
    obtain rfl : u = .int _ := h1
    obtain ⟨rfl, hn⟩ := h2
    exact ⟨hn, a, e, ha⟩
  back := fun h ha => ⟨_, _, _, rfl, ha, rfl, ⟨rfl, h⟩⟩
instance : KeyR zP2 where
  enc := kP
  ok := fun _ => True
  sh := fun _ => false
  inj := put_P.inj
  lt := fun _ _ => rfl
  fits := fun x => ⟨fun z => (nomatch z), fun i y h => by
    match i, h with
    | 0, h => cases h; rfl
    | 1, h => cases h; rfl
    | n + 2, h => cases h⟩
  to := fun ⟨a, u, w, e, ha, h1, h2⟩ => by
    obtain rfl : u = .int _ := h1
    obtain rfl : w = .int _ := h2
    exact ⟨trivial, a, e, ha⟩
  back := fun h ha => ⟨_, _, _, rfl, ha, rfl, rfl⟩

/-- a set of tuples -/
def SetK (P : Program) (w : World) (Pk : List Key → Prop) : Hp → V → Prop := fun G v => ∃ D L, v = .ref D ∧ G D = some (SetMO P w D L) ∧ (∀ p ∈ L, G p.1 = some (.tup (p.2.map kV))) ∧ (L.map (·.2)).Nodup ∧ ∀ k, k ∈ L.map (·.2) ↔ Pk k
instance {P : Program} {w : World} {Pk : List Key → Prop} : StP (SetK P w Pk) := ⟨fun u ⟨D, L, e, h, k, q⟩ => ⟨D, L, e, u _ _ h, fun p m => u _ _ (k p m), q⟩⟩
instance {P : Program} {w : World} {Pk : List Key → Prop} : LkP (SetK P w Pk) := ⟨fun u ⟨D, L, e, h, k, q⟩ => ⟨D, L, e, u.at h (fun z => z) (fun _ _ z => by cases z), fun p m => u.tup (k p m), q⟩⟩
/-- a set of whole numbers -/
def SetIK (w : World) (ns : List Int) : Hp → V → Prop := fun G v => ∃ D C c, v = .ref D ∧ G D = some (SetO w D C c) ∧ (∀ k, C k = true ↔ k ∈ ns) ∧ c < 64
instance {w : World} {ns : List Int} : StP (SetIK w ns) := ⟨fun u ⟨D, C, c, e, h, q⟩ => ⟨D, C, c, e, u _ _ h, q⟩⟩
theorem asc_of {ns ys : List Int} (p : ys.Perm ns) (nd : ns.Nodup) (h : ys.Pairwise (· ≤ ·)) : ys = canon ns := by
  refine canon_eq ?_ fun z => p.mem_iff
  have n2 : ys.Nodup := p.nodup_iff.mpr nd
  refine List.Pairwise.imp₂ (R := fun a b => a ≤ b) (S := fun a b => a ≠ b) (fun a b h1 h2 => ?_) h n2
  show decide (a < b) = true
  rw [decide_eq_true_eq]
  omega
theorem keys_map {κ β γ : Type} {enc : β → κ} {S : V → γ → Prop} : ∀ {kvs : List (κ × V)} {l : List (β × γ)}, Paired (fun (kv : κ × V) (p : β × γ) => kv.1 = enc p.1 ∧ S kv.2 p.2) kvs l → kvs.map (·.1) = (l.map (·.1)).map enc
  | _, _, .nil => rfl
  | _, _, .cons h t => by rw [List.map_cons, List.map_cons, List.map_cons, keys_map t, h.1]
section
variable {f : Fr} {σ : L2.St} {H : Hp} {α : Type} [TOrd α] {R : Rep α} [Stb R] [KeyR R] {Kf : PySem.W.Frag} {P : Program} {w : World}
/-- rows that say l -/
theorem rows_list {G : Hp} : ∀ {xs : List V} {l : List α}, Paired (R G) xs l → ∃ ks : MRows, xs = refsV ks ∧ ks.map (·.2) = l.map (KeyR.enc R) ∧ (∀ p ∈ ks, G p.1 = some (.tup (p.2.map kV))) ∧ ∀ x ∈ l, KeyR.ok R x
  | _, _, .nil => ⟨[], rfl, rfl, fun p m => (nomatch m), fun x m => (nomatch m)⟩
  | _, _, .cons (b := x) h t => by
    obtain ⟨ks, e1, e2, e3, e4⟩ := rows_list t
    obtain ⟨ho, a, rfl, ha⟩ := KeyR.to h
    refine ⟨(a, KeyR.enc R x) :: ks, by rw [e1]; rfl, by rw [List.map_cons, List.map_cons, e2], fun p m => ?_, fun y m => ?_⟩
    · rcases List.mem_cons.mp m with rfl | m
      · exact ha
      · exact e3 p m
    · rcases List.mem_cons.mp m with rfl | m
      · exact ho
      · exact e4 y m
/-- .. and back -/
theorem list_rows {G : Hp} : ∀ {ks : MRows} {l : List α}, ks.map (·.2) = l.map (KeyR.enc R) → (∀ p ∈ ks, G p.1 = some (.tup (p.2.map kV))) → (∀ x ∈ l, KeyR.ok R x) → Paired (R G) (refsV ks) l
  | [], [], _, _, _ => .nil
  | p :: ks, x :: l, e, hk, ho => by
    rw [List.map_cons, List.map_cons] at e
    injection e with e1 e2
    refine .cons (KeyR.back (ho x List.mem_cons_self) ?_) (list_rows e2 (fun q m => hk q (List.mem_cons_of_mem _ m)) fun y m => ho y (List.mem_cons_of_mem _ m))
    rw [← e1]
    exact hk p List.mem_cons_self
  | [], _ :: _, e, _, _ => nomatch e
  | _ :: _, [], e, _, _ => nomatch e
theorem enc_list {l : List α} : ∀ {ks : List (List Key)}, (∀ k ∈ ks, ∃ x ∈ l, k = KeyR.enc R x) → ∃ m : List α, ks = m.map (KeyR.enc R) ∧ ∀ x ∈ m, x ∈ l
  | [], _ => ⟨[], rfl, fun x m => (nomatch m)⟩
  | k :: ks, h => by
    obtain ⟨x, hx, rfl⟩ := h k List.mem_cons_self
    obtain ⟨m, e, hm⟩ := enc_list fun k hk => h k (List.mem_cons_of_mem _ hk)
    exact ⟨x :: m, by rw [e]; rfl, fun y hy => (List.mem_cons.mp hy).elim (fun e => e ▸ hx) (hm y)⟩
/-- sorted rows of l, each once -/
theorem sorted_is {l : List α} {L : MRows} (ord : InOrd L) (nd : (L.map (·.2)).Nodup) (hm : ∀ k, k ∈ L.map (·.2) ↔ ∃ x ∈ l, k = KeyR.enc R x) : L.map (·.2) = (canon l).map (KeyR.enc R) := by
  obtain ⟨m, e, hml⟩ := enc_list (R := R) (l := l) (ks := L.map (·.2)) fun k hk => (hm k).mp hk
  rw [e]
  congr 1
  refine canon_eq ?_ fun z => ⟨hml z, fun hz => ?_⟩
  · have o2 : (L.map (·.2)).Pairwise fun p q => kLt q p = false := List.pairwise_map.mpr ord
    rw [e] at o2 nd
    have o3 := List.pairwise_map.mp o2
    have n3 : m.Pairwise fun a b => a ≠ b := List.Pairwise.imp (fun h e => h (by rw [e])) (List.pairwise_map.mp nd)
    refine List.Pairwise.imp₂ (fun a b h1 h2 => ?_) o3 n3
    cases q : TOrd.lt a b with
    | true => rfl
    | false =>
      refine absurd (TOrd.tri a b q ?_) h2
      rw [KeyR.lt (R := R)]
      exact h1
  · have := (hm (KeyR.enc R z)).mpr ⟨z, hz, rfl⟩
    rw [e] at this
    obtain ⟨y, hy, e2⟩ := List.mem_map.mp this
    rw [← KeyR.inj _ _ e2]
    exact hy
theorem ra_setM {l : List α} (few : l.length < 64) : RuA f (rSetM Kf P w) H (ACons (At (zL R) l) ANil) (SetK P w fun k => ∃ x ∈ l, k = KeyR.enc R x) := fun H1 vs e d ⟨v, r, e1, p, e2⟩ Q q => by
  obtain rfl : r = [] := e2
  obtain ⟨a, xs, rfl, ha, hp⟩ := p
  obtain ⟨ks, rfl, ek, hk, _⟩ := rows_list hp
  have lk : ks.length = l.length := by
    have := congrArg List.length ek
    rw [List.length_map, List.length_map] at this
    exact this
  refine ⟨a, ks, e1, SqL.of (hid_same _ _ ha), fun p m => hid_same _ _ (hk p m), by omega, fun D L hD sub all nd few => q _ _ (re.same (same_new hD)) ⟨D, L, rfl, hid_new d hD, fun p m => (up_new hD) _ _ (hk p (sub p m)), nd, fun k => ?_⟩⟩
  have km : ∀ k, k ∈ ks.map (·.2) ↔ ∃ x ∈ l, k = KeyR.enc R x := fun k => by
    rw [ek, List.mem_map]
    exact ⟨fun ⟨x, hx, e⟩ => ⟨x, hx, e.symm⟩, fun ⟨x, hx, e⟩ => ⟨x, hx, e.symm⟩⟩
  show _ ↔ ∃ x ∈ l, k = KeyR.enc R x
  rw [← km]
  exact ⟨fun h => by
    obtain ⟨p, hp, e⟩ := List.mem_map.mp h
    exact List.mem_map.mpr ⟨p, sub p hp, e⟩, fun h => by
    obtain ⟨p, hp, e⟩ := List.mem_map.mp h
    rw [← e]
    exact all p hp⟩
theorem ra_sortedK {Pk : List Key → Prop} {l : List α} (ho : ∀ x ∈ l, KeyR.ok R x) (hP : ∀ k, Pk k ↔ ∃ x ∈ l, k = KeyR.enc R x) : RuA f (rSortedMS P w) H (ACons (SetK P w Pk) ANil) (At (zL R) (canon l)) := fun H1 vs e d ⟨v, r, e1, p, e2⟩ Q q => by
  obtain rfl : r = [] := e2
  obtain ⟨D, L, rfl, hD, hk, nd0, hm⟩ := p
  have fits : ∀ p ∈ L, Fits (KeyR.sh R) p.2 := fun p m => by
    obtain ⟨x, _, e⟩ := (hP _).mp ((hm p.2).mp (List.mem_map.mpr ⟨p, m, rfl⟩))
    rw [e]; exact KeyR.fits x
  refine ⟨D, L, KeyR.sh R, e1, hid_same _ _ hD, fun p m => ⟨hid_same _ _ (hk p m), fits p m⟩, fun L' n p1 p2 hn => q _ _ (re.same (same_new hn)) ⟨n, _, rfl, hid_new d hn, ?_⟩⟩
  have nd : (L'.map (·.2)).Nodup := (p1.map (·.2)).nodup_iff.mpr nd0
  refine list_rows (sorted_is p2 nd fun k => ?_) (fun p m => (up_new hn) _ _ (hk p (p1.mem_iff.mp m))) fun x m => ho x (mem_canon.mp m)
  rw [(p1.map (·.2)).mem_iff, hm, hP]
/-- sorted(xs), no doubles -/
theorem ra_sortedL {l : List α} (nd : l.Nodup) : RuA f (rSortedM Kf) H (ACons (At (zL R) l) ANil) (At (zL R) (canon l)) := fun H1 vs e d ⟨v, r, e1, p, e2⟩ Q q => by
  obtain rfl : r = [] := e2
  obtain ⟨a, xs, rfl, ha, hp⟩ := p
  obtain ⟨ks, rfl, ek, hk, ho⟩ := rows_list hp
  have km : ∀ k, k ∈ ks.map (·.2) ↔ ∃ x ∈ l, k = KeyR.enc R x := fun k => by
    rw [ek, List.mem_map]
    exact ⟨fun ⟨x, hx, e⟩ => ⟨x, hx, e.symm⟩, fun ⟨x, hx, e⟩ => ⟨x, hx, e.symm⟩⟩
  have nk : (ks.map (·.2)).Nodup := by
    rw [ek]
    exact List.pairwise_map.mpr (List.Pairwise.imp (fun h e => h (KeyR.inj _ _ e)) nd)
  have fits : ∀ p ∈ ks, Fits (KeyR.sh R) p.2 := fun p m => by
    obtain ⟨x, _, e⟩ := (km p.2).mp (List.mem_map.mpr ⟨p, m, rfl⟩)
    rw [e]; exact KeyR.fits x
  refine ⟨a, ks, KeyR.sh R, e1, SqL.of (hid_same _ _ ha), fun p m => ⟨hid_same _ _ (hk p m), fits p m⟩, fun L' n p1 p2 hn => q _ _ (re.same (same_new hn)) ⟨n, _, rfl, hid_new d hn, ?_⟩⟩
  refine list_rows (sorted_is p2 ((p1.map (·.2)).nodup_iff.mpr nk) fun k => ?_) (fun p m => (up_new hn) _ _ (hk p (p1.mem_iff.mp m))) fun x m => ho x (mem_canon.mp m)
  rw [(p1.map (·.2)).mem_iff]
  exact km k
/-- sorted(d), d's keys such tuples -/
theorem ra_sortedD {γ : Type} {S : Rep γ} {l : List (α × γ)} (nd : (l.map (·.1)).Nodup) (ho : ∀ p ∈ l, KeyR.ok R p.1) : RuA f rSortedMD H (ACons (At (zD HO.dT (KeyR.enc R) S) l) ANil) (At (zL R) (canon (l.map (·.1)))) := fun H1 vs e d ⟨v, r, e1, p, e2⟩ Q q => by
  obtain rfl : r = [] := e2
  obtain ⟨a, kvs, rfl, ha, hp⟩ := p
  have ek : kvs.map (·.1) = (l.map (·.1)).map (KeyR.enc R) := keys_map hp
  have mk : ∀ k ∈ kvs.map (·.1), ∃ x, k = KeyR.enc R x := fun k hk => by
    rw [ek] at hk
    obtain ⟨x, _, e⟩ := List.mem_map.mp hk
    exact ⟨x, e.symm⟩
  refine ⟨a, kvs, KeyR.sh R, e1, same_rd hid_same ha, fun p m => ?_, fun ks e3 hk L' n p1 p2 hn => q _ _ (re.same (same_new hn)) ⟨n, _, rfl, hid_new d hn, ?_⟩⟩
  · obtain ⟨x, e⟩ := mk p.1 (List.mem_map.mpr ⟨p, m, rfl⟩)
    rw [e]; exact KeyR.fits x
  · have km : ∀ k, k ∈ ks.map (·.2) ↔ ∃ x ∈ l.map (·.1), k = KeyR.enc R x := fun k => by
      rw [e3, ek, List.mem_map]
      exact ⟨fun ⟨x, hx, e⟩ => ⟨x, hx, e.symm⟩, fun ⟨x, hx, e⟩ => ⟨x, hx, e.symm⟩⟩
    have nk : (ks.map (·.2)).Nodup := by
      rw [e3, ek]
      exact List.pairwise_map.mpr (List.Pairwise.imp (fun h e => h (KeyR.inj _ _ e)) nd)
    have vis : ∀ p ∈ ks, hid f.F (upd H1 n (.lst (refsV L'))) p.1 = some (.tup (p.2.map kV)) := fun p m => by
      have h1 := hk p m
      have np : p.1 ∉ f.F := fun z => (d.there _ z).2 _ h1
      exact (up_new hn) _ _ (by rw [hid_out np]; exact h1)
    refine list_rows (sorted_is p2 ((p1.map (·.2)).nodup_iff.mpr nk) fun k => ?_) (fun p m => vis p (p1.mem_iff.mp m)) fun x m => ?_
    · rw [(p1.map (·.2)).mem_iff]
      exact km k
    · obtain ⟨p, hp, rfl⟩ := List.mem_map.mp (mem_canon.mp m)
      exact ho p hp
end
section
variable {f : Fr} {σ : L2.St} {H : Hp} {Kf : PySem.W.Frag} {P : Program} {w : World}
theorem ra_setI {ns : List Int} (few : ns.length < 64) : RuA f (rSetI Kf w) H (ACons (At (zL zI) ns) ANil) (SetIK w ns) := fun H1 vs e d ⟨v, r, e1, p, e2⟩ Q q => by
  obtain rfl : r = [] := e2
  obtain ⟨a, xs, rfl, ha, hp⟩ := sq_of hid_same p
  rw [ints_of hp] at ha
  exact ⟨a, ns, e1, SqL.of ha, few, fun D C c hD h1 h2 => q _ _ (re.same (same_new hD)) ⟨D, C, c, rfl, hid_new d hD, h1, h2⟩⟩
theorem ra_sortedIK {ns : List Int} : RuA f (rSortedSet w) H (ACons (SetIK w ns) ANil) (At (zL zI) (canon ns)) := fun H1 vs e d ⟨v, r, e1, p, e2⟩ Q q => by
  obtain rfl : r = [] := e2
  obtain ⟨D, C, c, rfl, hD, h1, h2⟩ := p
  refine ⟨D, C, c, e1, hid_same _ _ hD, h2, fun ys n asc mem len hn => q _ _ (re.same (same_new hn)) ⟨n, _, rfl, hid_new d hn, ?_⟩⟩
  have : ys = canon ns := canon_eq (List.Pairwise.imp (fun {a b} h => by
    show decide (a < b) = true
    rw [decide_eq_true_eq]; exact h) asc) fun z => (mem z).trans (h1 z)
  rw [this]
  exact of_ints _
theorem ra_sortedI {ns : List Int} (nd : ns.Nodup) : RuA f (rSortedI Kf) H (ACons (At (zL zI) ns) ANil) (At (zL zI) (canon ns)) := fun H1 vs e d ⟨v, r, e1, p, e2⟩ Q q => by
  obtain rfl : r = [] := e2
  obtain ⟨a, xs, rfl, ha, hp⟩ := sq_of hid_same p
  rw [ints_of hp] at ha
  refine ⟨a, ns, e1, SqL.of ha, fun ys n pm le hn => q _ _ (re.same (same_new hn)) ⟨n, _, rfl, hid_new d hn, ?_⟩⟩
  rw [asc_of pm nd le]
  exact of_ints _
theorem ra_sortedDI {γ : Type} {S : Rep γ} {l : List (Int × γ)} (nd : (l.map (·.1)).Nodup) (few : l.length < 64) : RuA f (fun xs H Q => ∃ (a : Addr) (kvs : List (Key × V)) (ks : List Int), xs = [.ref a] ∧ Rd H a (.dK kvs) ∧ kvs.map (·.1) = ks.map Sum.inl ∧ ks.length < 64 ∧
    ∀ (ys : List Int) (p : Addr), ys.Perm ks → ys.Pairwise (· ≤ ·) → H p = none → Q (.ref p) (upd H p (.lst (ys.map V.int)))) H (ACons (At (zDI S) l) ANil) (At (zL zI) (canon (l.map (·.1)))) := fun H1 vs e d ⟨v, r, e1, p, e2⟩ Q q => by
  obtain rfl : r = [] := e2
  obtain ⟨a, kvs, rfl, ha, hp⟩ := p
  have ek : kvs.map (·.1) = (l.map (·.1)).map Sum.inl := keys_map hp
  refine ⟨a, kvs, l.map (·.1), e1, same_rd hid_same ha, ek, by rw [List.length_map]; exact few, fun ys n pm le hn => q _ _ (re.same (same_new hn)) ⟨n, _, rfl, hid_new d hn, ?_⟩⟩
  rw [asc_of pm nd le]
  exact of_ints _
theorem of_strs {G : Hp} : ∀ (ns : List Str), Paired (zS G) (ns.map V.str) ns
  | [] => .nil
  | _ :: t => .cons rfl (of_strs t)
theorem ra_sortedS {l : List Str} (few : l.length < 64) : RuA f (rSortedS Kf) H (ACons (At (zL zS) l) ANil) (Som (zL zS) fun m => m.Perm l) := fun H1 vs e d ⟨v, r, e1, p, e2⟩ Q q => by
  obtain rfl : r = [] := e2
  obtain ⟨a, xs, rfl, ha, hp⟩ := sq_of hid_same p
  rw [strs_of hp] at ha
  refine ⟨a, l, e1, SqL.of ha, few, fun ys n pm _ hn => q _ _ (re.same (same_new hn)) ⟨ys, pm, n, _, rfl, hid_new d hn, of_strs ys⟩⟩
end
end FF
namespace FF
open PySem PySem.Spec PyProof.Rows L2
theorem flat_len {α β : Type} {g : α → List β} {c : Nat} : ∀ {l : List α}, (∀ x ∈ l, (g x).length ≤ c) → (l.flatMap g).length ≤ l.length * c
  | [], _ => by simp
  | x :: l, h => by
    rw [List.flatMap_cons, List.length_append, List.length_cons, Nat.succ_mul]
    have h1 := h x List.mem_cons_self
    have h2 := flat_len (l := l) fun y hy => h y (List.mem_cons_of_mem _ hy)
    omega
section
variable {f : Fr} {K : Hp → Prop} {H : Hp} {σ : L2.St} {wi wi1 : TI} {g g1 : TG} {tt tt1 : TT} {te : TE} {vs vs1 : List Nat} {α β δ : Type} {R : Rep α} {S : Rep β} {R1 : Rep δ} {l : List α}
/-- what the two clauses do, x by x and y by y -/
def Turn2 (f : Fr) (K : Hp → Prop) (H : Hp) (σ : L2.St) (g : TG) (tt : TT) (wi1 : TI) (g1 : TG) (tt1 : TT) (te : TE) (vs vs1 : List Nat) (R : Rep α) (R1 : Rep δ) (l : List α) (p : α → Bool) (m : α → List δ) (p1 : α → δ → Bool) (Φ : α → δ → Hp → V → Prop) : Prop :=
  ∀ x f' H' u, x ∈ l → f'.b = f.b → Dm f' H' → re f.b H H' → K (hid f'.F H') → R (hid f'.F H') u x → Bnd g u (wipe σ vs) H' fun σ2 => wipe σ2 vs = wipe σ vs ∧ EvT f' tt σ2 H' (· = p x) ∧ (p x = true → EvI f' wi1 σ2 H' R1 (m x) ∧
    ∀ y H'' w, y ∈ m x → Dm f' H'' → re f.b H H'' → K (hid f'.F H'') → R (hid f'.F H'') u x → R1 (hid f'.F H'') w y → Bnd g1 w (wipe σ2 vs1) H'' fun σ3 => wipe σ3 vs1 = wipe σ2 vs1 ∧ EvT f' tt1 σ3 H'' (· = p1 x y) ∧ (p1 x y = true → EvP f' te σ3 H'' (Φ x y)))
/-- the things made of x -/
def row (p : α → Bool) (m : α → List δ) (p1 : α → δ → Bool) (fn : α → δ → β) (x : α) : List β := if p x = true then ((m x).filter (p1 x)).map (fn x) else []
theorem row_len {p : α → Bool} {m : α → List δ} {p1 : α → δ → Bool} {fn : α → δ → β} {x : α} {c : Nat} (h : (m x).length ≤ c) : (row p m p1 fn x).length ≤ c := by
  unfold row
  split
  · rw [List.length_map]
    exact Nat.le_trans (List.length_filter_le _ _) h
  · exact Nat.zero_le _
theorem ev_lc2 [StH K] [Stb R] [Stb S] (k : K (hid f.F H)) (hs : EvI f wi σ H R l) (hl : l.length ≤ 300) (p : α → Bool) (m : α → List δ) (hm : ∀ x ∈ l, (m x).length ≤ 300) (p1 : α → δ → Bool) (fn : α → δ → β)
    (body : Turn2 f K H σ g tt wi1 g1 tt1 te vs vs1 R R1 l p m p1 fun x y => At S (fn x y)) : EvP f (tLc2 wi g tt wi1 g1 tt1 te vs vs1) σ H (At (zL S) (l.flatMap (row p m p1 fn))) := fun H1 e d Q q => hs H1 e d _ fun Jt Kn H2 e2 sk wk kn D hD => by
  have d2 := d.re e2
  have e02 := e.trans e2
  have nD : f.b ≠ some D := fun z => d2.new hD (d2.bag _ z)
  have k2 : K (hid f.F H2) := StH.up (known_up e02 d2) k
  let I : List β → Hp → Prop := fun out H' => (∃ acc, H' D = some (.lst acc) ∧ Paired (S (hid (D :: f.F) H')) acc out) ∧ re f.b H2 (hid [D] H') ∧ Dm (f.add D) H' ∧ Kn (hid (D :: f.F) H') ∧ K (hid (D :: f.F) H')
  have step : ∀ {out : List β} {Ha Hb : Hp}, re f.b Ha Hb → I out Ha → I out Hb := fun {out Ha Hb} ee ⟨⟨acc, a1, a2⟩, b, c, k1, k2⟩ => by
    have up : Same (hid (D :: f.F) Ha) (hid (D :: f.F) Hb) := re.known (f := f.add D) ee c.bag
    exact ⟨⟨acc, ee.keep nD a1, Paired.mapP a2 fun _ _ q => Stb.up up q⟩, b.trans (ee.hid fun a m => by rw [List.mem_singleton.mp m]; exact nD), Dm.re (f := f.add D) c ee, StH.up up k1, StH.up up k2⟩
  have start : I [] (upd H2 D (.lst [])) := by
    refine ⟨⟨[], upd_same, .nil⟩, ?_, (d2.re (re.same (same_new hD))).add (Loc.of upd_same fun _ z => by cases z), ?_, ?_⟩
    · have z := hid_cons_new (F := []) (o := .lst []) hD
      rw [z, hid_nil]; exact re.refl _
    · rw [hid_cons_new hD]; exact kn
    · rw [hid_cons_new hD]; exact k2
  refine ⟨fun i n H' => n = l.length - i ∧ i ≤ l.length ∧ I ((l.take i).flatMap (row p m p1 fn)) H', ⟨l.length, by simp, Nat.zero_le _, start⟩, ?_⟩
  rintro i n H3 ⟨rfl, hi, st⟩
  obtain ⟨_, e3, d3, kn3, k3⟩ := id st
  by_cases hlt : i < l.length
  · refine .inr ⟨wk.go _ _ _ kn3 hlt, I ((l.take (i + 1)).flatMap (row p m p1 fn)), fun H' z => ⟨l.length - (i + 1), by omega, rfl, hlt, z⟩, fun u H4 y => ?_⟩
    obtain ⟨x, hx, sm, hr⟩ := wk.yld _ _ _ _ _ d3.there kn3 hlt y
    have st4 := step (re.same sm) st
    obtain ⟨_, b4, d4, kn4, k4⟩ := id st4
    have eH4 : re f.b H H4 := e02.trans (b4.trans (re.same hid_same))
    have tk : l.take (i + 1) = l.take i ++ [x] := by
      rw [List.take_add_one, hx]; rfl
    have fl : (l.take (i + 1)).flatMap (row p m p1 fn) = (l.take i).flatMap (row p m p1 fn) ++ row p m p1 fn x := by
      rw [tk, List.flatMap_append, List.flatMap_cons, List.flatMap_nil, List.append_nil]
    have lx := List.mem_of_getElem? hx
    refine body x (f.add D) H4 u lx rfl d4 eH4 k4 hr _ fun σ2 ⟨w2, ht, he⟩ => ⟨w2, ht H4 (re.refl _) d4 _ fun c H5 e5 pc => ?_⟩
    have e5 : re f.b H4 H5 := e5
    have st5 := step e5 st4
    cases c with
    | false =>
      rw [if_neg Bool.false_ne_true]
      have : row p m p1 fn x = [] := by
        unfold row
        rw [← pc, if_neg Bool.false_ne_true]
      rw [fl, this, List.append_nil]
      exact st5
    | true =>
      rw [if_pos rfl]
      obtain ⟨hi1, inner⟩ := he pc.symm
      have hrow : row p m p1 fn x = ((m x).filter (p1 x)).map (fn x) := by
        unfold row
        rw [if_pos pc.symm]
      refine hi1 H5 e5 st5.2.2.1 _ fun J1 Kn1 H6 e6 sk1 wk1 kn1 => ?_
      have e6 : re f.b H5 H6 := e6
      have st6 := step e6 st5
      have rx6 : R (hid (D :: f.F) H6) u x := Stb.up (re.known (f := f.add D) (e5.trans e6) st4.2.2.1.bag) hr
      refine ⟨fun j n H' => n = (m x).length - j ∧ j ≤ (m x).length ∧ I ((l.take i).flatMap (row p m p1 fn) ++ (((m x).take j).filter (p1 x)).map (fn x)) H' ∧ Kn1 (hid (D :: f.F) H') ∧ R (hid (D :: f.F) H') u x, ⟨(m x).length, by simp, Nat.zero_le _, by simpa using st6, kn1, rx6⟩, ?_⟩
      rintro j n H7 ⟨rfl, hj, st7, kn7, rx7⟩
      by_cases hjt : j < (m x).length
      · refine .inr ⟨wk1.go _ _ _ kn7 hjt, fun H' => I ((l.take i).flatMap (row p m p1 fn) ++ (((m x).take (j + 1)).filter (p1 x)).map (fn x)) H' ∧ Kn1 (hid (D :: f.F) H') ∧ R (hid (D :: f.F) H') u x, fun H' z => ⟨(m x).length - (j + 1), by omega, rfl, hjt, z⟩, fun w H8 y8 => ?_⟩
        obtain ⟨v, hv, sm8, hr8⟩ := wk1.yld _ _ _ _ _ st7.2.2.1.there kn7 hjt y8
        have st8 := step (re.same sm8) st7
        obtain ⟨_, b8, d8, kn8, k8⟩ := id st8
        have up8 : Same (hid (D :: f.F) H7) (hid (D :: f.F) H8) := Same.hid sm8
        have eH8 : re f.b H H8 := e02.trans (b8.trans (re.same hid_same))
        have tk1 : (m x).take (j + 1) = (m x).take j ++ [v] := by
          rw [List.take_add_one, hv]; rfl
        refine inner v H8 w (List.mem_of_getElem? hv) d8 eH8 k8 (Stb.up up8 rx7) hr8 _ fun σ3 ⟨w3, ht1, he1⟩ => ⟨w3, ht1 H8 (re.refl _) d8 _ fun c1 H9 e9 pc1 => ?_⟩
        have e9 : re f.b H8 H9 := e9
        have st9 := step e9 st8
        have up9 : Same (hid (D :: f.F) H7) (hid (D :: f.F) H9) := fun a o z => re.known (f := f.add D) e9 d8.bag _ _ (up8 _ _ z)
        cases c1 with
        | false =>
          rw [if_neg Bool.false_ne_true]
          have en : ((m x).take (j + 1)).filter (p1 x) = ((m x).take j).filter (p1 x) := by
            rw [tk1, List.filter_append, List.filter_cons_of_neg (by rw [← pc1]; exact Bool.false_ne_true)]
            simp
          rw [en]
          exact ⟨st9, StH.up up9 kn7, Stb.up up9 rx7⟩
        | true =>
          rw [if_pos rfl]
          refine he1 pc1.symm H9 e9 st9.2.2.1 _ fun z H10 e10 pz => ?_
          have e10 : re f.b H9 H10 := e10
          obtain ⟨⟨acc, a1, a2⟩, b10, d10, kn10, k10⟩ := step e10 st9
          have up10 : Same (hid (D :: f.F) H7) (hid (D :: f.F) H10) := fun a o z => re.known (f := f.add D) e10 st9.2.2.1.bag _ _ (up9 _ _ z)
          have la := Paired.length a2
          have lb : ((l.take i).flatMap (row p m p1 fn)).length ≤ 300 * 300 := Nat.le_trans (flat_len (c := 300) fun y hy => row_len (hm y (List.mem_of_mem_take hy))) (Nat.mul_le_mul_right _ (by rw [List.length_take]; omega))
          have lc : ((((m x).take j).filter (p1 x)).map (fn x)).length ≤ 300 := by
            rw [List.length_map]
            have h1 := List.length_filter_le (p1 x) ((m x).take j)
            have h2 := hm x lx
            rw [List.length_take] at h1
            omega
          rw [List.length_append] at la
          have hh : ∀ o, hid (D :: f.F) (upd H10 D o) = hid (D :: f.F) H10 := fun o => hid_upd List.mem_cons_self
          have en : ((m x).take (j + 1)).filter (p1 x) = ((m x).take j).filter (p1 x) ++ [v] := by
            rw [tk1, List.filter_append, List.filter_cons_of_pos pc1.symm]
            rfl
          refine ⟨acc, a1, Nat.lt_of_le_of_lt (by omega : acc.length ≤ 100000) (by decide), ⟨⟨acc ++ [z], upd_same, ?_⟩, ?_, ?_, ?_, ?_⟩, ?_, ?_⟩
          · rw [hh, en, List.map_append, ← List.append_assoc]
            exact pair_app a2 (.cons pz .nil)
          · rw [hid_upd (List.mem_singleton.mpr rfl)]; exact b10
          · refine ⟨fun a mm => ?_, d10.bag⟩
            by_cases ea : a = D
            · rw [ea]; exact Loc.of upd_same fun _ z => by cases z
            · exact (d10.there a mm).at fun o q => by rw [upd_ne ea]; exact q
          · rw [hh]; exact kn10
          · rw [hh]; exact k10
          · rw [hh]; exact StH.up up10 kn7
          · rw [hh]; exact Stb.up up10 rx7
      · have ej : j = (m x).length := by omega
        subst ej
        rw [List.take_length, ← hrow, ← fl] at st7
        exact .inl ⟨wk1.stop _ _ _ kn7 (Nat.le_refl _), st7⟩
  · have e4 : i = l.length := by omega
    subst e4
    rw [List.take_length] at st
    obtain ⟨⟨acc, a1, a2⟩, b3, _⟩ := st
    refine .inl ⟨wk.stop _ _ _ kn3 (Nat.le_refl _), q _ _ (e2.trans (b3.trans (re.same hid_same))) ⟨D, acc, rfl, ?_, Paired.mapP a2 fun _ _ z => Stb.up (Same.up (hid_sub fun a m => List.mem_cons_of_mem _ m)) z⟩⟩
    rw [hid_out (d2.new hD)]; exact a1
/-- {t for x in .. for y in ..} -/
theorem ev_sc2 {P : Program} {w : World} [TOrd β] [KeyR S] [StH K] [Stb R] [Stb S] (k : K (hid f.F H)) (hs : EvI f wi σ H R l) (p : α → Bool) (m : α → List δ) (p1 : α → δ → Bool) (fn : α → δ → β) (few : (l.flatMap (row p m p1 fn)).length < 63)
    (body : Turn2 f K H σ g tt wi1 g1 tt1 te vs vs1 R R1 l p m p1 fun x y => At S (fn x y)) : EvP f (tSc2 P w wi g tt wi1 g1 tt1 te vs vs1) σ H (SetK P w fun k => ∃ z ∈ l.flatMap (row p m p1 fn), k = KeyR.enc S z) := fun H1 e d Q q => hs H1 e d _ fun Jt Kn H2 e2 sk wk kn D hD => by
  have d2 := d.re e2
  have e02 := e.trans e2
  have nD : f.b ≠ some D := fun z => d2.new hD (d2.bag _ z)
  have k2 : K (hid f.F H2) := StH.up (known_up e02 d2) k
  let I : List β → Hp → Prop := fun out H' => (∃ L : MRows, H' D = some (SetMO P w D L) ∧ (∀ p ∈ L, hid (D :: f.F) H' p.1 = some (.tup (p.2.map kV))) ∧ (L.map (·.2)).Nodup ∧ L.length ≤ out.length ∧ ∀ k, k ∈ L.map (·.2) ↔ ∃ z ∈ out, k = KeyR.enc S z) ∧ re f.b H2 (hid [D] H') ∧ Dm (f.add D) H' ∧ Kn (hid (D :: f.F) H') ∧ K (hid (D :: f.F) H')
  have step : ∀ {out : List β} {Ha Hb : Hp}, re f.b Ha Hb → I out Ha → I out Hb := fun {out Ha Hb} ee ⟨⟨L, a1, a2, a3⟩, b, c, k1, k2⟩ => by
    have up : Same (hid (D :: f.F) Ha) (hid (D :: f.F) Hb) := re.known (f := f.add D) ee c.bag
    exact ⟨⟨L, ee.keep nD a1, fun p m => up _ _ (a2 p m), a3⟩, b.trans (ee.hid fun a m => by rw [List.mem_singleton.mp m]; exact nD), Dm.re (f := f.add D) c ee, StH.up up k1, StH.up up k2⟩
  have start : I [] (upd H2 D (SetMO P w D [])) := by
    refine ⟨⟨[], upd_same, fun p m => (nomatch m), List.nodup_nil, Nat.le_refl _, fun k => ⟨fun z => (nomatch z), fun ⟨z, m, _⟩ => (nomatch m)⟩⟩, ?_, (d2.re (re.same (same_new hD))).add (Loc.of upd_same fun _ z => by cases z), ?_, ?_⟩
    · have z := hid_cons_new (F := []) (o := SetMO P w D []) hD
      rw [z, hid_nil]; exact re.refl _
    · rw [hid_cons_new hD]; exact kn
    · rw [hid_cons_new hD]; exact k2
  refine ⟨fun i n H' => n = l.length - i ∧ i ≤ l.length ∧ I ((l.take i).flatMap (row p m p1 fn)) H', ⟨l.length, by simp, Nat.zero_le _, start⟩, ?_⟩
  rintro i n H3 ⟨rfl, hi, st⟩
  obtain ⟨_, e3, d3, kn3, k3⟩ := id st
  by_cases hlt : i < l.length
  · refine .inr ⟨wk.go _ _ _ kn3 hlt, I ((l.take (i + 1)).flatMap (row p m p1 fn)), fun H' z => ⟨l.length - (i + 1), by omega, rfl, hlt, z⟩, fun u H4 y => ?_⟩
    obtain ⟨x, hx, sm, hr⟩ := wk.yld _ _ _ _ _ d3.there kn3 hlt y
    have st4 := step (re.same sm) st
    obtain ⟨_, b4, d4, kn4, k4⟩ := id st4
    have eH4 : re f.b H H4 := e02.trans (b4.trans (re.same hid_same))
    have tk : l.take (i + 1) = l.take i ++ [x] := by
      rw [List.take_add_one, hx]; rfl
    have fl : (l.take (i + 1)).flatMap (row p m p1 fn) = (l.take i).flatMap (row p m p1 fn) ++ row p m p1 fn x := by
      rw [tk, List.flatMap_append, List.flatMap_cons, List.flatMap_nil, List.append_nil]
    have lx := List.mem_of_getElem? hx
    refine body x (f.add D) H4 u lx rfl d4 eH4 k4 hr _ fun σ2 ⟨w2, ht, he⟩ => ⟨w2, ht H4 (re.refl _) d4 _ fun c H5 e5 pc => ?_⟩
    have e5 : re f.b H4 H5 := e5
    have st5 := step e5 st4
    cases c with
    | false =>
      rw [if_neg Bool.false_ne_true]
      have : row p m p1 fn x = [] := by
        unfold row
        rw [← pc, if_neg Bool.false_ne_true]
      rw [fl, this, List.append_nil]
      exact st5
    | true =>
      rw [if_pos rfl]
      obtain ⟨hi1, inner⟩ := he pc.symm
      have hrow : row p m p1 fn x = ((m x).filter (p1 x)).map (fn x) := by
        unfold row
        rw [if_pos pc.symm]
      refine hi1 H5 e5 st5.2.2.1 _ fun J1 Kn1 H6 e6 sk1 wk1 kn1 => ?_
      have e6 : re f.b H5 H6 := e6
      have st6 := step e6 st5
      have rx6 : R (hid (D :: f.F) H6) u x := Stb.up (re.known (f := f.add D) (e5.trans e6) st4.2.2.1.bag) hr
      refine ⟨fun j n H' => n = (m x).length - j ∧ j ≤ (m x).length ∧ I ((l.take i).flatMap (row p m p1 fn) ++ (((m x).take j).filter (p1 x)).map (fn x)) H' ∧ Kn1 (hid (D :: f.F) H') ∧ R (hid (D :: f.F) H') u x, ⟨(m x).length, by simp, Nat.zero_le _, by simpa using st6, kn1, rx6⟩, ?_⟩
      rintro j n H7 ⟨rfl, hj, st7, kn7, rx7⟩
      by_cases hjt : j < (m x).length
      · refine .inr ⟨wk1.go _ _ _ kn7 hjt, fun H' => I ((l.take i).flatMap (row p m p1 fn) ++ (((m x).take (j + 1)).filter (p1 x)).map (fn x)) H' ∧ Kn1 (hid (D :: f.F) H') ∧ R (hid (D :: f.F) H') u x, fun H' z => ⟨(m x).length - (j + 1), by omega, rfl, hjt, z⟩, fun w H8 y8 => ?_⟩
        obtain ⟨v, hv, sm8, hr8⟩ := wk1.yld _ _ _ _ _ st7.2.2.1.there kn7 hjt y8
        have st8 := step (re.same sm8) st7
        obtain ⟨_, b8, d8, kn8, k8⟩ := id st8
        have up8 : Same (hid (D :: f.F) H7) (hid (D :: f.F) H8) := Same.hid sm8
        have eH8 : re f.b H H8 := e02.trans (b8.trans (re.same hid_same))
        have tk1 : (m x).take (j + 1) = (m x).take j ++ [v] := by
          rw [List.take_add_one, hv]; rfl
        refine inner v H8 w (List.mem_of_getElem? hv) d8 eH8 k8 (Stb.up up8 rx7) hr8 _ fun σ3 ⟨w3, ht1, he1⟩ => ⟨w3, ht1 H8 (re.refl _) d8 _ fun c1 H9 e9 pc1 => ?_⟩
        have e9 : re f.b H8 H9 := e9
        have st9 := step e9 st8
        have up9 : Same (hid (D :: f.F) H7) (hid (D :: f.F) H9) := fun a o z => re.known (f := f.add D) e9 d8.bag _ _ (up8 _ _ z)
        cases c1 with
        | false =>
          rw [if_neg Bool.false_ne_true]
          have en : ((m x).take (j + 1)).filter (p1 x) = ((m x).take j).filter (p1 x) := by
            rw [tk1, List.filter_append, List.filter_cons_of_neg (by rw [← pc1]; exact Bool.false_ne_true)]
            simp
          rw [en]
          exact ⟨st9, StH.up up9 kn7, Stb.up up9 rx7⟩
        | true =>
          rw [if_pos rfl]
          refine he1 pc1.symm H9 e9 st9.2.2.1 _ fun z H10 e10 pz => ?_
          have e10 : re f.b H9 H10 := e10
          obtain ⟨⟨L, a1, a2, a3, a4, a5⟩, b10, d10, kn10, k10⟩ := step e10 st9
          have up10 : Same (hid (D :: f.F) H7) (hid (D :: f.F) H10) := fun a o z => re.known (f := f.add D) e10 st9.2.2.1.bag _ _ (up9 _ _ z)
          have hh : ∀ o, hid (D :: f.F) (upd H10 D o) = hid (D :: f.F) H10 := fun o => hid_upd List.mem_cons_self
          have en : ((m x).take (j + 1)).filter (p1 x) = ((m x).take j).filter (p1 x) ++ [v] := by
            rw [tk1, List.filter_append, List.filter_cons_of_pos pc1.symm]
            rfl
          have lsub : ((l.take i).flatMap (row p m p1 fn) ++ (((m x).take j).filter (p1 x)).map (fn x)).length ≤ (l.flatMap (row p m p1 fn)).length := by
            have h1 : l = l.take (i + 1) ++ l.drop (i + 1) := (List.take_append_drop _ _).symm
            have h2 : ((((m x).take j).filter (p1 x)).map (fn x)).length ≤ (row p m p1 fn x).length := by
              rw [hrow, List.length_map, List.length_map]
              exact (List.Sublist.filter _ (List.take_sublist _ _)).length_le
            rw [h1, List.flatMap_append, fl, List.length_append, List.length_append, List.length_append, ← h1]
            omega
          obtain ⟨_, a, rfl, ha⟩ := KeyR.to pz
          refine ⟨L, a, KeyR.enc S (fn x v), rfl, a1, hid_same _ _ ha, fun p m => hid_same _ _ (a2 p m), by omega, fun L' c1 c2 => ⟨⟨⟨L', upd_same, ?_, ?_, ?_, ?_⟩, ?_, ?_, ?_, ?_⟩, ?_, ?_⟩⟩
          · intro r hr
            rw [hh]
            by_cases c : KeyR.enc S (fn x v) ∈ L.map (·.2)
            · rw [c1 c] at hr; exact a2 r hr
            · rcases List.mem_cons.mp ((c2 c).mem_iff.mp hr) with rfl | hr
              · exact ha
              · exact a2 r hr
          · by_cases c : KeyR.enc S (fn x v) ∈ L.map (·.2)
            · rw [c1 c]; exact a3
            · rw [((c2 c).map (·.2)).nodup_iff, List.map_cons]
              exact List.nodup_cons.mpr ⟨c, a3⟩
          · rw [en, List.map_append, ← List.append_assoc, List.length_append]
            by_cases c : KeyR.enc S (fn x v) ∈ L.map (·.2)
            · rw [c1 c]; exact Nat.le_trans a4 (Nat.le_add_right _ _)
            · rw [(c2 c).length_eq]; exact Nat.succ_le_succ a4
          · intro k
            rw [en, List.map_append, ← List.append_assoc]
            have key : (∃ z ∈ (l.take i).flatMap (row p m p1 fn) ++ (((m x).take j).filter (p1 x)).map (fn x) ++ [fn x v], k = KeyR.enc S z) ↔ (k ∈ L.map (·.2) ∨ k = KeyR.enc S (fn x v)) := by
              rw [a5]
              constructor
              · rintro ⟨z, hz, rfl⟩
                rcases List.mem_append.mp hz with hz | hz
                · exact .inl ⟨z, hz, rfl⟩
                · rw [List.mem_singleton.mp hz]; exact .inr rfl
              · rintro (⟨z, hz, rfl⟩ | rfl)
                · exact ⟨z, List.mem_append_left _ hz, rfl⟩
                · exact ⟨_, List.mem_append_right _ (List.mem_singleton.mpr rfl), rfl⟩
            show k ∈ L'.map (·.2) ↔ ∃ z ∈ (l.take i).flatMap (row p m p1 fn) ++ (((m x).take j).filter (p1 x)).map (fn x) ++ [fn x v], k = KeyR.enc S z
            rw [key]
            by_cases c : KeyR.enc S (fn x v) ∈ L.map (·.2)
            · rw [c1 c]
              exact ⟨.inl, fun h => h.elim id fun e => e ▸ c⟩
            · rw [((c2 c).map (·.2)).mem_iff, List.map_cons, List.mem_cons]
              exact ⟨fun h => h.elim .inr .inl, fun h => h.elim .inr .inl⟩
          · rw [hid_upd (List.mem_singleton.mpr rfl)]; exact b10
          · refine ⟨fun a mm => ?_, d10.bag⟩
            by_cases ea : a = D
            · rw [ea]; exact Loc.of upd_same fun _ z => by cases z
            · exact (d10.there a mm).at fun o q => by rw [upd_ne ea]; exact q
          · rw [hh]; exact kn10
          · rw [hh]; exact k10
          · rw [hh]; exact StH.up up10 kn7
          · rw [hh]; exact Stb.up up10 rx7
      · have ej : j = (m x).length := by omega
        subst ej
        rw [List.take_length, ← hrow, ← fl] at st7
        exact .inl ⟨wk1.stop _ _ _ kn7 (Nat.le_refl _), st7⟩
  · have e4 : i = l.length := by omega
    subst e4
    rw [List.take_length] at st
    obtain ⟨⟨L, a1, a2, a3, a4, a5⟩, b3, _⟩ := st
    refine .inl ⟨wk.stop _ _ _ kn3 (Nat.le_refl _), q _ _ (e2.trans (b3.trans (re.same hid_same))) ⟨D, L, rfl, ?_, fun p m => (hid_sub fun a m => List.mem_cons_of_mem _ m) _ _ (a2 p m), a3, a5⟩⟩
    rw [hid_out (d2.new hD)]; exact a1
end
end FF
namespace FF
open PySem PySem.Spec PyProof.Rows L2
structure PD where
  pl : Int
  bg : List Int
  ed : List E3
abbrev InR (pl x : Int) : Prop := 0 ≤ x ∧ x < pl
/-- what a program may be made of -/
structure RawP (pl : Int) (bl : List Int) (el : List E3) : Prop where
  p1 : 1 ≤ pl
  p2 : pl ≤ 2000
  b0 : bl ≠ []
  b1 : ∀ x ∈ bl, InR pl x
  e1 : ∀ e ∈ el, InR pl e.1 ∧ InR pl e.2.2
  bn : bl.length < 64
  en : el.length < 64
def mkP (pl : Int) (bl : List Int) (el : List E3) : PD := ⟨pl, canon bl, canon el⟩
def fieldsP (vp vb ve : V) : List (Str × V) := [("its_places", vp), ("its_begins", vb), ("its_edges", ve)]
/-- an instance of Program -/
def zPr (C : Addr) : Rep PD := fun G v P => ∃ a dx vp vb ve, v = .ref a ∧ G a = some (.ins C dx (fieldsP vp vb ve)) ∧ zI G vp P.pl ∧ zL zI G vb P.bg ∧ zL zE G ve P.ed
instance : Lkb zN := ⟨fun _ h => h⟩
instance {C : Addr} : Stb (zPr C) := ⟨fun u ⟨a, dx, vp, vb, ve, e, h, p, b, d⟩ => ⟨a, dx, vp, vb, ve, e, u _ _ h, p, Stb.up u b, Stb.up u d⟩⟩
instance {C : Addr} : Lkb (zPr C) := ⟨fun u ⟨a, dx, vp, vb, ve, e, h, p, b, d⟩ => ⟨a, dx, vp, vb, ve, e, u.ins h, p, Lkb.up u b, Lkb.up u d⟩⟩
section
variable {f : Fr} {L : List Addr} {K K' : Hp → Prop} {H H0 : Hp} {σ : L2.St} {te ta : TE} {tr : TA} {Kf : PySem.W.Frag} {mg : Str → Option Value} {C : Addr} {P : PD} {D : Ends} {Φ : Hp → V → Prop} {E : XK}
theorem ev_fP (T : Txt Kf mg C) (h : EvP f te σ H (At (zPr C) P)) : EvP f (tFld Kf te "its_places") σ H (At zI P.pl) := fun H1 e d Q q => h H1 e d _ fun v H2 e2 ⟨a, dx, vp, vb, ve, e3, ha, p, _, _⟩ =>
  ⟨a, C, dx, _, vp, e3, hid_same _ _ ha, T.cl, T.nP, rfl, q vp H2 e2 p⟩
theorem ev_fB (T : Txt Kf mg C) (h : EvP f te σ H (At (zPr C) P)) : EvP f (tFld Kf te "its_begins") σ H (At (zL zI) P.bg) := fun H1 e d Q q => h H1 e d _ fun v H2 e2 ⟨a, dx, vp, vb, ve, e3, ha, _, p, _⟩ =>
  ⟨a, C, dx, _, vb, e3, hid_same _ _ ha, T.cl, T.nB, rfl, q vb H2 e2 p⟩
theorem ev_fE (T : Txt Kf mg C) (h : EvP f te σ H (At (zPr C) P)) : EvP f (tFld Kf te "its_edges") σ H (At (zL zE) P.ed) := fun H1 e d Q q => h H1 e d _ fun v H2 e2 ⟨a, dx, vp, vb, ve, e3, ha, _, _, p⟩ =>
  ⟨a, C, dx, _, ve, e3, hid_same _ _ ha, T.cl, T.nE, rfl, q ve H2 e2 p⟩
theorem ins_of {m : Str} (hm : (fieldsP .non .non .non).lookup m = none) : ∀ G v, At (zPr C) P G v → ∃ a dx fs, v = .ref a ∧ G a = some (.ins C dx fs) ∧ fs.lookup m = none := fun G v ⟨a, dx, vp, vb, ve, e, ha, _⟩ => by
  refine ⟨a, dx, _, e, ha, ?_⟩
  have : ∀ {x y z x' y' z' : V}, (fieldsP x y z).lookup m = none → (fieldsP x' y' z').lookup m = none := fun {x y z x' y' z'} h => by
    unfold fieldsP at h ⊢
    simp only [List.lookup_cons] at h ⊢
    split at h
    · cases h
    · split at h
      · cases h
      · split at h
        · cases h
        · rfl
  exact this hm
theorem ins_at : ∀ G v, At (zPr C) P G v → ∃ a dx fs, v = .ref a ∧ G a = some (.ins C dx fs) := fun G v ⟨a, dx, vp, vb, ve, e, ha, _⟩ => ⟨a, dx, _, e, ha⟩
/-- a.field = e, a new here -/
theorem s_fld [StH K] {i : Nat} {p C dx : Addr} {fs : List (Str × V)} {m : Str} (c : Cls Kf C) (na : NoAttr Kf C m) (n : Now f L H0 K H) (hp : p ∈ L) (hv : σ[i]? = some (some (.ref p))) (hl : H p = some (.ins C dx fs)) (few : fs.length < 1000) (h : EvP f te σ H Φ)
    (k : ∀ v H1, re f.b H H1 → Now f L H0 (KAnd K (KV Φ v)) (upd H1 p (.ins C dx (putF m v fs))) → D.nx σ (upd H1 p (.ins C dx (putF m v fs)))) : sFld Kf (tVar i) te m D σ H :=
  h H (re.refl _) n.dm _ fun v H1 e pv => ⟨.ref p, hv, p, C, dx, fs, rfl, e.keep (n.lf p hp).2 hl, c, na, few, k v H1 e (Now.upd ((n.go e).know ⟨(n.go e).kn, pv⟩) hp)⟩
/-- if ..: no else, then the rest -/
theorem s_if1 {tt : TT} {tu tw : TS} {Pb : Bool → Prop} [StH K] (n : Now f L H0 K H) (h : EvT f tt σ H Pb) (h1 : Pb true → ∀ H1, re f.b H H1 → Now f L H0 K H1 → tu { D with nx := tw D } σ H1) (h2 : Pb false → ∀ H1, re f.b H H1 → Now f L H0 K H1 → tw D σ H1) : tSeq (tIfS tt tu tNext) tw D σ H :=
  s_if n h h1 fun p H1 e n1 => h2 p H1 e n1
/-- the promise of Program's __init__ -/
def sp_init (C : Addr) : Sp := fun vs H Q _ => ∃ (a dx : Addr) (vp vb ve : V) (pl : Int) (bl : List Int) (el : List E3) (F : List Addr), vs = [.ref a, vp, vb, ve] ∧ H a = some (.ins C dx []) ∧ a ∈ F ∧ (∀ x ∈ F, Loc H x) ∧ zI (hid F H) vp pl ∧ zL zI (hid F H) vb bl ∧ zL zE (hid F H) ve el ∧ RawP pl bl el ∧
  ∀ H2 vb' ve', (∀ x o, x ≠ a → H x = some o → H2 x = some o) → H2 a = some (.ins C dx (fieldsP vp vb' ve')) → zL zI (hid F H2) vb' (canon bl) → zL zE (hid F H2) ve' (canon el) → Q .non H2
theorem ev_make {pl : Int} {bl : List Int} {el : List E3} (raw : RawP pl bl el) (h : EvA f tr σ H (ACons (At zI pl) (ACons (At (zL zI) bl) (ACons (At (zL zE) el) ANil)))) : EvP f (tMake C (sp_init C) [] E tr) σ H (At (zPr C) (mkP pl bl el)) := fun H1 e d Q q =>
  h H1 e d _ fun vs H2 e2 ⟨vp, r, e3, p1, vb, r2, e4, p2, ve, r3, e5, p3, e6⟩ x dx hx hdx ne => by
    obtain rfl : r3 = [] := e6
    subst e5; subst e4; subst e3
    have d2 := d.re e2
    have nx : x ∉ f.F := d2.new hx
    have sm : Same H2 (upd (upd H2 dx (.own x)) x (.ins C dx [])) := fun a o z => by
      rw [upd_ne (ne_of_none z hx), upd_ne (ne_of_none z hdx)]; exact z
    have hG : Same (hid f.F H2) (hid (x :: f.F) (upd (upd H2 dx (.own x)) x (.ins C dx []))) := fun a o z => by
      obtain ⟨m, z⟩ := hid_some z
      rw [hid_out fun y => (List.mem_cons.mp y).elim (fun e => by rw [e, hx] at z; cases z) m]
      exact sm a o z
    refine ⟨x, dx, vp, vb, ve, pl, bl, el, x :: f.F, rfl, upd_same, List.mem_cons_self, fun a m => ?_, p1, Stb.up hG p2, Stb.up hG p3, raw, fun H3 vb' ve' kp ha hb he => ⟨rfl, q _ H3 (e2.trans (re.same fun a o z => kp a o (ne_of_none z hx) (sm a o z))) ⟨x, dx, vp, vb', ve', rfl, by rw [hid_out nx]; exact ha, p1, Stb.up (hid_sub fun a m => List.mem_cons_of_mem _ m) hb, Stb.up (hid_sub fun a m => List.mem_cons_of_mem _ m) he⟩⟩⟩
    rcases List.mem_cons.mp m with rfl | m
    · exact Loc.of upd_same fun _ z => by cases z
    · exact (d2.there a m).at (sm a)
end
end FF
namespace FF
open PySem PySem.Spec PyProof.Rows L2
def forW (J : It) (g : TG) (tb : TS) (D : Ends) (σ : L2.St) (H1 : Hp) : Prop := ∃ W : Nat → Nat → L2.St → Hp → Prop, (∃ m, W 0 m σ H1) ∧ ∀ i m σ H, W i m σ H →
  (J.stop i H ∧ D.nx σ H) ∨ (J.go i H ∧ ∃ N : L2.St → Hp → Prop, (∀ σ' H', N σ' H' → ∃ m', m' < m ∧ W (i + 1) m' σ' H') ∧ ∀ x H', J.yld i H x H' → g x σ H' fun σ2 H2 => tb { D with nx := N, ct := N, bk := D.nx } σ2 H2)
section
variable {f : Fr} {H H1 : Hp} {σ : L2.St} {D : Ends} {g : TG} {tb : TS} {wi : TI} {te : TE} {α : Type} {R : Rep α} {l : List α} {J : It} {Kn : Hp → Prop} {F : List Addr}
theorem for_run (wk : Walk J R l Kn) (Inv : Nat → L2.St → Hp → Prop) (i0 : Inv 0 σ H1) (il : ∀ i σ' H', Inv i σ' H' → (∀ a ∈ F, Loc H' a) ∧ Kn (hid F H')) (is : ∀ i x u σ' H' H'', l[i]? = some x → Inv i σ' H' → Same H' H'' → R (hid F H'') u x → g u σ' H'' fun σ2 H2 => tb { D with nx := Inv (i + 1), ct := Inv (i + 1), bk := D.nx } σ2 H2) (id : ∀ σ' H', Inv l.length σ' H' → D.nx σ' H') :
    forW J g tb D σ H1 := by
  refine ⟨fun i m σ H => m = l.length - i ∧ i ≤ l.length ∧ Inv i σ H, ⟨l.length, by simp, Nat.zero_le _, i0⟩, ?_⟩
  rintro i m σ' H' ⟨rfl, hi, q⟩
  obtain ⟨d, kn⟩ := il i σ' H' q
  by_cases hlt : i < l.length
  · refine .inr ⟨wk.go _ _ _ kn hlt, Inv (i + 1), fun σ2 H2 q2 => ⟨l.length - (i + 1), by omega, rfl, hlt, q2⟩, fun x H2 y => ?_⟩
    obtain ⟨z, hz, sm, hr⟩ := wk.yld _ _ _ _ _ d kn hlt y
    exact is i z x σ' H' H2 hz q sm hr
  · have e3 : i = l.length := by omega
    subst e3
    exact .inl ⟨wk.stop _ _ _ kn (Nat.le_refl _), id σ' H' q⟩
theorem tFor_of (h : wi σ H fun J H1 => forW J g tb D σ H1) : tFor wi g tb D σ H := h
/-- a list, by its place -/
theorem walk_list {Kf : PySem.W.Frag} [Stb R] {a : Addr} : Walk (Itl Kf a) R l (KV (At (zL R) l) (.ref a)) := by
  have rec_ : ∀ (F : List Addr) (H : Hp), KV (At (zL R) l) (.ref a) (hid F H) → ∃ xs, SqL Kf H a xs ∧ Paired (R (hid F H)) xs l := fun F H ⟨a', xs', e4, ha', hp'⟩ => by
    obtain rfl : a = a' := by injection e4
    exact ⟨xs', SqL.of (hid_same _ _ ha'), hp'⟩
  refine ⟨fun F H i k hi => ?_, fun F H i k hi => ?_, fun F H i x H' _ k _ y => ?_⟩
  · obtain ⟨xs, h1, h2⟩ := rec_ F H k
    have hlen := Paired.length h2
    exact ⟨xs, xs[i]'(by omega), h1, List.getElem?_eq_getElem (by omega)⟩
  · obtain ⟨xs, h1, h2⟩ := rec_ F H k
    have hlen := Paired.length h2
    exact ⟨xs, h1, by omega⟩
  · obtain ⟨xs, h1, h2⟩ := rec_ F H k
    obtain ⟨rfl, y⟩ := y
    obtain ⟨z, hz, hr⟩ := paired_get h2 (y xs h1)
    exact ⟨z, hz, Same.refl _, hr⟩
end
end FF
namespace FF
open PySem PySem.Spec PyProof.Rows L2
theorem s_newD {κ β γ : Type} {f : Fr} {H : Hp} {σ : L2.St} {Ds : Ends} {te : TE} {mk : List (κ × V) → HO} {enc : β → κ} {S : Rep γ} {l : List (β × γ)} {i : Nat} (d : Dm f H) (h : EvD f te σ H mk enc S l)
    (k : ∀ D H2 kvs, H D = none → re f.b H H2 → H2 D = some (mk kvs) → Paired (fun (kv : κ × V) (p : β × γ) => kv.1 = enc p.1 ∧ S (hid (D :: f.F) H2) kv.2 p.2) kvs l → Ds.nx (σ.set i (some (.ref D))) H2) : tAsg te (gName i) Ds σ H :=
  h H (re.refl _) d _ fun D H2 kvs hD e h2 hp => k D H2 kvs hD e h2 hp
theorem filter_yes {α : Type} (l : List α) : l.filter (fun _ => true) = l := List.filter_eq_self.mpr fun _ _ => rfl
theorem map_same {α : Type} (l : List α) : l.map (fun x => x) = l := List.map_id _
end FF
namespace FF
open PySem PySem.Spec PyProof.Rows L2
section
variable {P : Program} {w : World} {K : PySem.W.Frag} {mg : Str → Option Value} {base : Heap} {C : Addr}
abbrev s_is_integer : Stmt := topS 9
abbrev N_is_integer : List Str := ["thing"]
abbrev P_is_integer : List Str := ["thing"]
theorem sc_is_integer : FnScope N_is_integer P_is_integer (C8.fnScope s_is_integer) := C8.fnScope_by (by decide +kernel)
abbrev sp_is_integer : Sp := SpP (ι := Int) (fun i => ACons (At zI i) ANil) (fun _ => At zB true)
theorem ok_is_integer {f : Addr} {fd : FuncData} (F : C8.Def K mg "is_integer" s_is_integer f fd) (b : L2.Binds K fd P_is_integer []) (T : Txt K mg C) : C8.Cal P w K mg base 1 "is_integer" sp_is_integer [] := by
  refine C8.cal0 F b .nil sc_is_integer (spP_len fun x G vs h => alS h fun _ h => al0 h) (fun cdv A outer s H vs Q E hr h => ?_)
  obtain ⟨i, F, hF, ⟨v, r, rfl, p, rfl⟩, k⟩ := h
  have hu := hu_of hr
  refine ⟨_, (pss_one (ps_ret (pe_and (pe_callB call_isi (by rfl) T.m_isinstance (by decide +kernel) (pa_cons (pv 0) (pa_cons (pe_bltn (v := .ty "int") (u := .type "int") (by rfl) T.m_int (by decide +kernel) rfl) pa_nil))) (pe_one (pe_not (pe_callB call_isi (by rfl) T.m_isinstance (by decide +kernel) (pa_cons (pv 0) (pa_cons (pe_bltn (v := .ty "bool") (u := .type "bool") (by rfl) T.m_bool (by decide +kernel) rfl) pa_nil)))))))), ?_⟩
  have n : Now ⟨F, none⟩ [] H (KV (At zI i) v) H := Now.start (dmP hF) p
  have hi : ∀ (G H : Hp) v, Same G H → At zI i G v → TyX K H v (.type "int") := fun G H v _ p => by
    obtain rfl : v = .int i := p
    exact .base (.int i)
  refine s_ret n (ev_andV (ev_cb (ea_cons (ev_var rfl n.kn) (ea_cons ev_ty ea_nil)) (ra_isi (b := true) hi (by decide +kernel))) fun _ => ev_notV (ev_cb (ea_cons (ev_var rfl n.kn) (ea_cons ev_ty ea_nil)) (ra_isi (b := false) hi (by decide +kernel)))) fun v H1 e n1 => ?_
  exact k v H1 n1.pure n1.kn.2
abbrev s_is_number : Stmt := topS 11
abbrev N_is_number : List Str := ["many", "thing"]
abbrev P_is_number : List Str := ["many", "thing"]
theorem sc_is_number : FnScope N_is_number P_is_number (C8.fnScope s_is_number) := C8.fnScope_by (by decide +kernel)
abbrev sp_is_number : Sp := SpP (ι := Int × Int) (fun x => ACons (At zI x.1) (ACons (At zI x.2) ANil)) (fun x => At zB (decide (0 ≤ x.2) && decide (x.2 < x.1)))
theorem ok_is_number {f : Addr} {fd : FuncData} (F : C8.Def K mg "is_number" s_is_number f fd) (b : L2.Binds K fd P_is_number []) (T : Txt K mg C) (c_is_integer : C8.Cal P w K mg base 1 "is_integer" sp_is_integer []) : C8.Cal P w K mg base 2 "is_number" sp_is_number [] := by
  refine C8.cal0 F b .nil sc_is_number (spP_len fun x G vs h => alS h fun _ h => alS h fun _ h => al0 h) (fun cdv A outer s H vs Q E hr h => ?_)
  obtain ⟨⟨m, i⟩, F, hF, ⟨v, r, rfl, p, v2, r2, rfl, p2, rfl⟩, k⟩ := h
  have hu := hu_of hr
  refine ⟨_, (pss_one (ps_ret (pe_and (C8.pe_c c_is_integer hr (by decide) rfl (pa_cons (pv 1) pa_nil)) (pe_one (pe_chain op_le op_lt pe_int (pv 1) (pv 0)))))), ?_⟩
  have n : Now ⟨F, none⟩ [] H (KAnd (KV (At zI m) v) (KV (At zI i) v2)) H := Now.start (dmP hF) ⟨p, p2⟩
  refine s_ret n (ev_andV (ev_call (x := i) (ea_cons (ev_var rfl n.kn.2) ea_nil)) fun _ => ev_chain ev_int (ev_var rfl n.kn.2) ru_le (ev_var rfl n.kn.1) ru_lt) fun v H1 e n1 => ?_
  exact k v H1 n1.pure n1.kn.2
end
end FF
namespace FF
open PySem PySem.Spec PyProof.Rows L2
section
variable {P : Program} {w : World} {K : PySem.W.Frag} {mg : Str → Option Value} {base : Heap} {C : Addr}
theorem ty_str {x : Str} : ∀ (G H : Hp) v, Same G H → At zS x G v → TyX K H v (.type "str") := fun G H v _ p => by
  obtain rfl : v = .str x := p
  exact .base (.str x)
theorem ty_lst {α : Type} {R : Rep α} {l : List α} : ∀ (G H : Hp) v, Same G H → At (zL R) l G v → TyX K H v (.type "list") := fun G H v hs p => by
  obtain ⟨a, xs, rfl, ha, _⟩ := p
  exact .base (.lst (hs _ _ ha))
theorem ty_tup3 {α β γ : Type} {R : Rep α} {S : Rep β} {T : Rep γ} {x : α × β × γ} : ∀ (G H : Hp) v, Same G H → At (zT3 R S T) x G v → TyX K H v (.type "tuple") := fun G H v hs p => by
  obtain ⟨a, u, w, z, rfl, ha, _⟩ := p
  exact .base (.tup (hs _ _ ha))
theorem nm_str {x : Str} {G : Hp} {v : V} (h : At zN x G v) : At zS x G v := h.1
theorem chars_sub {x : Str} (h : IsNm x) : (chars x).map (fun c => decide (∀ k ∈ c.cps.toList, k ∈ ("abcdefghijklmnopqrstuvwxyz" : Str).cps.toList)) = (chars x).map fun _ => true := by
  refine List.map_congr_left fun c hc => ?_
  obtain ⟨k, hk, rfl⟩ := List.mem_map.mp hc
  rw [decide_eq_true_eq]
  intro j hj
  have : j = k := by simpa using hj
  rw [this]
  exact (nm_props x h).2.2.2.2 k hk
abbrev s_is_name : Stmt := topS 10
abbrev N_is_name : List Str := ["thing", "sign"]
abbrev P_is_name : List Str := ["thing"]
theorem sc_is_name : FnScope N_is_name P_is_name (C8.fnScope s_is_name) := C8.fnScope_by (by decide +kernel)
abbrev sp_is_name : Sp := SpP (ι := Str) (fun x => ACons (At zN x) ANil) (fun _ => At zB true)
theorem ok_is_name {f : Addr} {fd : FuncData} (F : C8.Def K mg "is_name" s_is_name f fd) (b : L2.Binds K fd P_is_name []) (T : Txt K mg C) : C8.Cal P w K mg base 1 "is_name" sp_is_name [] := by
  refine C8.cal0 F b .nil sc_is_name (spP_len fun x G vs h => alS h fun _ h => al0 h) (fun cdv A outer s H vs Q E hr h => ?_)
  obtain ⟨x, F, hF, ⟨v, r, rfl, p, rfl⟩, k⟩ := h
  have hu := hu_of hr
  have hx : IsNm x := p.2
  have pr := nm_props x hx
  have p : At zS x (hid F H) v := nm_str p
  refine ⟨_, (pss_cons (ps_if (PW.pt (pw_or (pt_not (pt_val (pe_callB call_isi (by rfl) T.m_isinstance (by decide +kernel) (pa_cons (pv 0) (pa_cons (pe_bltn (v := .ty "str") (u := .type "str") (by rfl) T.m_str (by decide +kernel) rfl) pa_nil))))) (pw_or1 (pt_not (pt_chain op_le op_le pe_int (pe_callB call_len_str (by rfl) T.m_len (by decide +kernel) (pa_cons (pv 0) pa_nil)) (C8.pe_gc rfl T.g_MOST_LETTERS)))))) (pss_one (ps_ret pe_bl)) pss_nil) (pss_one (ps_ret (pe_callB (cr_all rfl) (by rfl) T.m_all (by decide +kernel) (pa_cons (pe_lc (own := [("sign", 1)]) rfl sc_is_name.nd (pi_str (pv 0)) (blkOk_by (own := [("sign", 1)]) (N := N_is_name) (sc := C8.fnScope s_is_name) (by decide +kernel)) (fun _ _ _ _ _ => (pg_name (i := 1) sc_is_name.nd rfl (.inl rfl))) (fun _ _ _ _ _ => pts_nil) (fun _ _ _ _ _ => (pe_cmpR op_in_sign (pv 1) (C8.pe_gc rfl T.g_LETTERS) rfl))) pa_nil))))), ?_⟩
  have n : Now ⟨F, none⟩ [] H (KV (At zS x) v) H := Now.start (dmP hF) p
  refine (s_if1 n (et_or (a := false) (b := false) (et_not (a := true) (et_test1 (ev_cb (ea_cons (ev_var rfl n.kn) (ea_cons ev_ty ea_nil)) (ra_isi (b := true) ty_str (by decide +kernel))))) fun _ => et_is (et_not (et_B1 (ev_chain ev_int (ev_cb (ea_cons (ev_var rfl n.kn) ea_nil) (ra_lenS pr.2.1)) ru_le ev_int ru_le))) ?_) (fun h => absurd h (by decide)) fun _ H1 e1 n1 => ?_)
  · have h1 : (1 : Int) ≤ x.length := by have := pr.2.2.1; omega
    have h2 : (x.length : Int) ≤ 8 := by have := pr.2.2.2.1; omega
    rw [decide_eq_true h1, decide_eq_true h2]
    rfl
  · have hl : (chars x).length ≤ 100000 := by
      rw [chars_len]
      have := pr.2.2.2.1
      show x.length ≤ 100000
      omega
    refine s_ret n1 (EvP.is (ev_cb (ea_cons (ev_lcD (S := zB) n1.kn (ei_str (ev_var rfl n1.kn)) hl (fun _ => true) (fun _ => true) fun c f' H' u hc hb d e k' hr => bnd_name ⟨?_, et_yes, fun _ => ?_⟩) ea_nil) ra_all) ?_) fun v H1 e n1 => k v H1 n1.pure n1.kn.2
    · rfl
    · obtain ⟨k, hk, rfl⟩ := List.mem_map.mp hc
      exact EvP.is (ev_op (ev_var rfl hr) ev_str (ru_inLetters rfl)) (decide_eq_true (pr.2.2.2.2 k hk))
    · rw [List.all_eq_true]
      intro b hb
      obtain ⟨_, _, rfl⟩ := List.mem_map.mp hb
      rfl
end
end FF
namespace FF
open PySem PySem.Spec PyProof.Rows L2
def inR (pl x : Int) : Bool := decide (0 ≤ x) && decide (x < pl)
theorem inR_iff {pl x : Int} : inR pl x = true ↔ InR pl x := by
  unfold inR
  rw [Bool.and_eq_true, decide_eq_true_eq, decide_eq_true_eq]
section
variable {P : Program} {w : World} {K : PySem.W.Frag} {mg : Str → Option Value} {base : Heap} {C : Addr}
abbrev s_is_edge : Stmt := topS 22
abbrev N_is_edge : List Str := ["places", "thing"]
abbrev P_is_edge : List Str := ["places", "thing"]
theorem sc_is_edge : FnScope N_is_edge P_is_edge (C8.fnScope s_is_edge) := C8.fnScope_by (by decide +kernel)
abbrev sp_is_edge : Sp := SpP (ι := Int × E3) (fun x => ACons (At zI x.1) (ACons (At zE x.2) ANil)) (fun x => At zB (inR x.1 x.2.1 && (true && inR x.1 x.2.2.2)))
theorem ok_is_edge {f : Addr} {fd : FuncData} (F : C8.Def K mg "is_edge" s_is_edge f fd) (b : L2.Binds K fd P_is_edge []) (T : Txt K mg C) (c_is_number : C8.Cal P w K mg base 2 "is_number" sp_is_number []) (c_is_name : C8.Cal P w K mg base 1 "is_name" sp_is_name []) : C8.Cal P w K mg base 3 "is_edge" sp_is_edge [] := by
  refine C8.cal0 F b .nil sc_is_edge (spP_len fun x G vs h => alS h fun _ h => alS h fun _ h => al0 h) (fun cdv A outer s H vs Q E hr h => ?_)
  obtain ⟨⟨m, e⟩, F, hF, ⟨v, r, rfl, p, v2, r2, rfl, p2, rfl⟩, k⟩ := h
  have hu := hu_of hr
  refine ⟨_, (pss_cons (ps_if (PW.pt (pw_or (pt_not (pt_val (pe_callB call_isi (by rfl) T.m_isinstance (by decide +kernel) (pa_cons (pv 1) (pa_cons (pe_bltn (v := .ty "tuple") (u := .type "tuple") (by rfl) T.m_tuple (by decide +kernel) rfl) pa_nil))))) (pw_or1 (pt_cmpR op_ne (pe_callB call_len_seq (by rfl) T.m_len (by decide +kernel) (pa_cons (pv 1) pa_nil)) pe_int (nomark _))))) (pss_one (ps_ret pe_bl)) pss_nil) (pss_one (ps_ret (pe_and (C8.pe_c c_is_number hr (by decide) rfl (pa_cons (pv 0) (pa_cons (pe_ix ix_tup (pv 1) pe_int (fun _ _ => rfl)) pa_nil))) (pe_and (C8.pe_c c_is_name hr (by decide) rfl (pa_cons (pe_ix ix_tup (pv 1) pe_int (fun _ _ => rfl)) pa_nil)) (pe_one (C8.pe_c c_is_number hr (by decide) rfl (pa_cons (pv 0) (pa_cons (pe_ix ix_tup (pv 1) pe_int (fun _ _ => rfl)) pa_nil))))))))), ?_⟩
  have n : Now ⟨F, none⟩ [] H (KAnd (KV (At zI m) v) (KV (At zE e) v2)) H := Now.start (dmP hF) ⟨p, p2⟩
  refine (s_if1 n (et_or (a := false) (b := false) (et_not (a := true) (et_test1 (ev_cb (ea_cons (ev_var rfl n.kn.2) (ea_cons ev_ty ea_nil)) (ra_isi (b := true) ty_tup3 (by decide +kernel))))) fun _ => et_B1 (ev_op (ev_cb (ea_cons (ev_var rfl n.kn.2) ea_nil) ra_lenT3) ev_int ru_neI)) (fun h => absurd h (by decide)) fun _ H1 e1 n1 => ?_)
  refine s_ret n1 (ev_andV (ev_call (x := (m, e.1)) (ea_cons (ev_var rfl n1.kn.1) (ea_cons (ev_op (ev_var rfl n1.kn.2) ev_int ru_ix30) ea_nil))) fun _ => ev_andV (ev_call (x := e.2.1) (ea_cons (ev_op (ev_var rfl n1.kn.2) ev_int ru_ix31) ea_nil)) fun _ => ev_call (x := (m, e.2.2)) (ea_cons (ev_var rfl n1.kn.1) (ea_cons (ev_op (ev_var rfl n1.kn.2) ev_int ru_ix32) ea_nil))) fun v H2 e2 n2 => ?_
  exact k v H2 n2.pure n2.kn.2
abbrev s_need_parts : Stmt := topS 23
abbrev N_need_parts : List Str := ["places", "begins", "edges", "place", "edge"]
abbrev P_need_parts : List Str := ["places", "begins", "edges"]
theorem sc_need_parts : FnScope N_need_parts P_need_parts (C8.fnScope s_need_parts) := C8.fnScope_by (by decide +kernel)
abbrev Raw3 := { x : Int × List Int × List E3 // RawP x.1 x.2.1 x.2.2 }
abbrev sp_need_parts : Sp := SpP (ι := Raw3) (fun x => ACons (At zI x.1.1) (ACons (At (zL zI) x.1.2.1) (ACons (At (zL zE) x.1.2.2) ANil))) (fun _ => IsV .non)
theorem ok_need_parts {f : Addr} {fd : FuncData} (F : C8.Def K mg "need_parts" s_need_parts f fd) (b : L2.Binds K fd P_need_parts []) (T : Txt K mg C) (c_is_integer : C8.Cal P w K mg base 1 "is_integer" sp_is_integer []) (c_is_number : C8.Cal P w K mg base 2 "is_number" sp_is_number []) (c_is_edge : C8.Cal P w K mg base 3 "is_edge" sp_is_edge []) :
    C8.Cal P w K mg base 4 "need_parts" sp_need_parts [] := by
  refine C8.cal0 F b .nil sc_need_parts (spP_len fun x G vs h => alS h fun _ h => alS h fun _ h => alS h fun _ h => al0 h) (fun cdv A outer s H vs Q E hr h => ?_)
  obtain ⟨⟨⟨pl, bl, el⟩, raw⟩, F, hF, ⟨v, r, rfl, p, v2, r2, rfl, p2, v3, r3, rfl, p3, rfl⟩, k⟩ := h
  have hu := hu_of hr
  refine ⟨_, (pss_cons (ps_if (PW.pt (pw_or (pt_not (pt_val (C8.pe_c c_is_integer hr (by decide) rfl (pa_cons (pv 0) pa_nil)))) (pw_or1 (pt_not (pt_chain op_le op_le pe_int (pv 0) (C8.pe_gc rfl T.g_MOST_PLACES)))))) (pss_one ps_never) pss_nil) (pss_cons (ps_if (PW.pt (pw_or (pt_not (pt_val (pe_callB call_isi (by rfl) T.m_isinstance (by decide +kernel) (pa_cons (pv 1) (pa_cons (pe_bltn (v := .ty "list") (u := .type "list") (by rfl) T.m_list (by decide +kernel) rfl) pa_nil))))) (pw_or (pt_cmpR (op_eqD hr.units) (pv 1) (pe_lst pa_nil) (nomark _)) (pw_or1 (pt_not (pt_val (pe_callB (cr_all rfl) (by rfl) T.m_all (by decide +kernel) (pa_cons (pe_lc (own := [("place", 3)]) rfl sc_need_parts.nd (pi_list (pv 1)) (blkOk_by (own := [("place", 3)]) (N := N_need_parts) (sc := C8.fnScope s_need_parts) (by decide +kernel)) (fun _ _ _ _ _ => (pg_name (i := 3) sc_need_parts.nd rfl (.inl rfl))) (fun _ _ _ _ _ => pts_nil) (fun _ _ _ _ _ => (C8.pe_c c_is_number hr (by decide) rfl (pa_cons (pv 0) (pa_cons (pv 3) pa_nil))))) pa_nil)))))))) (pss_one ps_never) pss_nil) (pss_one (ps_if (PW.pt (pw_or (pt_not (pt_val (pe_callB call_isi (by rfl) T.m_isinstance (by decide +kernel) (pa_cons (pv 2) (pa_cons (pe_bltn (v := .ty "list") (u := .type "list") (by rfl) T.m_list (by decide +kernel) rfl) pa_nil))))) (pw_or1 (pt_not (pt_val (pe_callB (cr_all rfl) (by rfl) T.m_all (by decide +kernel) (pa_cons (pe_lc (own := [("edge", 4)]) rfl sc_need_parts.nd (pi_list (pv 2)) (blkOk_by (own := [("edge", 4)]) (N := N_need_parts) (sc := C8.fnScope s_need_parts) (by decide +kernel)) (fun _ _ _ _ _ => (pg_name (i := 4) sc_need_parts.nd rfl (.inl rfl))) (fun _ _ _ _ _ => pts_nil) (fun _ _ _ _ _ => (C8.pe_c c_is_edge hr (by decide) rfl (pa_cons (pv 0) (pa_cons (pv 4) pa_nil))))) pa_nil))))))) (pss_one ps_never) pss_nil)))), ?_⟩
  have n : Now ⟨F, none⟩ [] H (KAnd (KV (At zI pl) v) (KAnd (KV (At (zL zI) bl) v2) (KV (At (zL zE) el) v3))) H := Now.start (dmP hF) ⟨p, p2, p3⟩
  refine (s_if1 n (et_or (a := false) (b := false) (et_not (a := true) (et_test1 (ev_call (x := pl) (ea_cons (ev_var rfl n.kn.1) ea_nil)))) fun _ => et_is (et_not (et_B1 (ev_chain ev_int (ev_var rfl n.kn.1) ru_le ev_int ru_le))) ?_) (fun h => absurd h (by decide)) fun _ H1 e1 n1 => (s_if1 n1 (et_or (a := false) (b := false) (et_not (a := true) (et_test1 (ev_cb (ea_cons (ev_var rfl n1.kn.2.1) (ea_cons ev_ty ea_nil)) (ra_isi (b := true) ty_lst (by decide +kernel))))) fun _ => et_or (a := false) (b := false) (et_is (et_B1 (ev_op (ev_var rfl n1.kn.2.1) (ev_lst (R := zI) ee_nil (Nat.zero_le _)) ru_eqD)) ?_) fun _ => et_is (et_not (et_test1 (ev_cb (ea_cons (ev_lcD (S := zB) n1.kn (ei_list (ev_var rfl n1.kn.2.1)) ?_ (fun _ => true) (fun x => inR pl x) fun c f' H' u hc hb d e k' hr => bnd_name ⟨?_, et_yes, fun _ => ?_⟩) ea_nil) ra_all))) ?_) (fun h => absurd h (by decide)) fun _ H2 e2 n2 => ?_))
  · rw [decide_eq_true raw.p1, decide_eq_true raw.p2]; rfl
  · exact decide_eq_false raw.b0
  · have : bl.length < 64 := raw.bn
    omega
  · rfl
  · exact ev_call (x := (pl, c)) (ea_cons (ev_var rfl k'.1) (ea_cons (ev_var rfl hr) ea_nil))
  · rw [Bool.not_eq_false', List.all_eq_true]
    intro b hb
    obtain ⟨x, hx, rfl⟩ := List.mem_map.mp hb
    exact inR_iff.mpr (raw.b1 x (List.mem_filter.mp hx).1)
  · refine s_if n2 (et_or (a := false) (b := false) (et_not (a := true) (et_test1 (ev_cb (ea_cons (ev_var rfl n2.kn.2.2) (ea_cons ev_ty ea_nil)) (ra_isi (b := true) ty_lst (by decide +kernel))))) fun _ => et_is (et_not (et_test1 (ev_cb (ea_cons (ev_lcD (S := zB) n2.kn (ei_list (ev_var rfl n2.kn.2.2)) ?_ (fun _ => true) (fun x => inR pl x.1 && (true && inR pl x.2.2)) fun c f' H' u hc hb d e k' hr => bnd_name ⟨?_, et_yes, fun _ => ?_⟩) ea_nil) ra_all))) ?_) (fun h => absurd h (by decide)) fun _ H3 e3 n3 => ?_
    · have : el.length < 64 := raw.en
      omega
    · rfl
    · exact ev_call (x := (pl, c)) (ea_cons (ev_var rfl k'.1) (ea_cons (ev_var rfl hr) ea_nil))
    · rw [Bool.not_eq_false', List.all_eq_true]
      intro b hb
      obtain ⟨x, hx, rfl⟩ := List.mem_map.mp hb
      have h2 := raw.e1 x (List.mem_filter.mp hx).1
      show (inR pl x.1 && (true && inR pl x.2.2)) = true
      rw [inR_iff.mpr h2.1, inR_iff.mpr h2.2]
      rfl
    · exact k .non H3 n3.pure rfl
end
end FF
namespace FF
open PySem PySem.Spec PyProof.Rows L2 PySem.W
/-- the class stands first among its ancestors -/
def mroFirst (K : PySem.W.Frag) (C : Addr) : Bool := match clsIn K C with
  | some cd => (match cd.mro with
    | c :: _ => c == .ref C
    | [] => false)
  | none => false
section
variable {prog : Program} {w : World} {A : Around} {E : Value → Shared → Prop} {s : Shared} {K : PySem.W.Frag} {x y C f : Addr} {ox oy : Obj} {od od' : Option Obj}
theorem fills_add (X : K.In s.heap) (hm : mroFirst K C = true) (hs : findIn K (.ref C) "__add__" = some (some (.ref f))) {Q : Bool → Shared → Prop} (q : Q true s) : wpAny (model prog w) A (fillsNumberSlot (.ref C) "add") Q E s := by
  unfold mroFirst at hm
  split at hm
  · rename_i cd hc
    split at hm
    · rename_i c rest hmro
      obtain rfl : c = .ref C := by simpa using hm
      unfold fillsNumberSlot
      show wpAny _ _ (mroOf (.ref C) >>= _) _ _ s
      have L : Looks (model prog w) s.heap (mroOf (.ref C)) cd.mro := (looks_clsIn X hc).andThen .now
      refine wpAny_bind (L.here ?_)
      rw [hmro]
      show wpAny _ _ (_ >>= _) _ _ s
      refine wpAny_bind ?_
      show wpAny _ _ (_ >>= _) _ _ s
      refine wpAny_bind ?_
      show wpAny _ _ (typeLookup (.ref C) "__add__" >>= _) _ _ s
      refine wpAny_bind ((looks_findIn X hs).here ?_)
      exact wpAny_pure (wpAny_pure (wpAny_pure q))
    · cases hm
  · cases hm
def Given (Q : Value → Shared → Prop) (v : Value) (s' : Shared) : Prop := match v with
  | .notImplemented => False
  | v => Q v s'
theorem own_add {Q : Value → Shared → Prop} (X : K.In s.heap) (I : InstAt s.heap x ox C od) (J : InstAt s.heap y oy C od') (hm : mroFirst K C = true) (hs : findIn K (.ref C) "__add__" = some (some (.ref f))) (hf : isFn K (.ref f) = true)
    (h : wpAny (model prog w) A (call (.ref f) [.ref x, .ref y]) (Given Q) E s) : wpAny (model prog w) A (binaryOp .Add (.ref x) (.ref y)) Q E s := by
  unfold binaryOp
  refine wpAny_holding ?_
  show wpAny _ _ (binaryOp1 "add" (.ref x) (.ref y) >>= _) _ _ s
  have tryIt : wpAny (model prog w) A (tryMethod (.ref x) "__add__" (.ref y)) (fun r s' => ∃ v, r = some v ∧ Q v s') E s := by
    unfold tryMethod callSpecial?
    refine wpAny_bind (wpAny_bind ((I.type.andThen (looks_findIn X hs)).here ?_))
    refine wpAny_holding (wpAny_bind ((bind_fn X _ (beq_iff_eq.mp hf)).here (wpAny_bind (wpAny_mono h (fun v s' hv => wpAny_pure ?_) fun _ _ e => e))))
    cases v <;> first | exact hv.elim | exact wpAny_pure ⟨_, rfl, hv⟩
  refine wpAny_bind (wpAny_mono (Q := fun r s' => ∃ v, r = some v ∧ Q v s') ?_ (fun r s' z => ?_) fun _ _ e => e)
  · unfold binaryOp1
    refine wpAny_bind (I.type.here (wpAny_bind (J.type.here (wpAny_bind (fills_add X hm hs ?_)))))
    refine wp_if_pos (by simp) (wpAny_bind (wpAny_pure ?_))
    dsimp only
    simp only [Bool.and_false, Bool.false_and, Bool.false_eq_true, if_false, if_true]
    refine wpAny_bind (wpAny_pure ?_)
    simp only [Bool.and_false, Bool.false_and, Bool.false_eq_true, if_false, if_true]
    refine wpAny_bind (wpAny_mono tryIt (fun r s' z => ?_) fun _ _ e => e)
    obtain ⟨v, rfl, q⟩ := z
    exact wpAny_pure ⟨v, rfl, q⟩
  · obtain ⟨v, rfl, q⟩ := z
    exact wpAny_pure q
end
/-- the own + of the class at C -/
structure AddC (P : Program) (w : World) (K : PySem.W.Frag) (mg : Str → Option Value) (base : Heap) (k : Nat) (C : Addr) (sp : Sp) : Prop where
  ex : ∃ (f : Addr) (fd : FuncData) (ps : List Str), mroFirst K C = true ∧ findIn K (.ref C) "__add__" = some (some (.ref f)) ∧ isFn K (.ref f) = true ∧ FnOk P w K mg base C8.CX0 k f fd ps sp ∧ Binds K fd ps []
def rOwnAdd (C : Addr) (sp : Sp) : R2 := fun x y H Q => ∃ a b dx dy fs gs, x = .ref a ∧ y = .ref b ∧ H a = some (.ins C dx fs) ∧ H b = some (.ins C dy gs) ∧ sp [x, y] H (fun v H' => (∃ n, v = .ref n) ∧ Q v H') C8.E0
section
variable {X : Cx} {j k : Nat} {C : Addr} {sp : Sp}
theorem op_padd (c : AddC X.prog X.w X.K X.mg X.base k C sp) (hr : Room j X.A) (hk : k ≤ j) : OpR X (binaryOp .Add) (rOwnAdd C sp) := by
  intro pins z σ G x y u v Q I rx ry want
  obtain ⟨f, fd, ps, m1, m2, m3, F, hb⟩ := c.ex
  obtain ⟨a, b, dx, dy, fs, gs, rfl, rfl, ha, hb', hsp⟩ := want
  obtain rfl : u = Value.ref a := rx
  obtain rfl : v = Value.ref b := ry
  obtain ⟨mA, J, _⟩ := ins_get I.hok ha
  obtain ⟨mB, J', _⟩ := ins_get I.hok hb'
  obtain ⟨od, J, _⟩ := J.look
  obtain ⟨od', J', _⟩ := J'.look
  refine own_add I.kIn J J' m1 m2 m3 ?_
  have hl := F.len _ _ _ _ hsp
  have vals : Vals [V.ref a, V.ref b] [Value.ref a, Value.ref b] := .cons rfl (.cons rfl .nil)
  have bound := hb z [.ref a, .ref b] I.kIn (by simpa using hl)
  refine wpAny_call (codeAny_mono (F.run X.A X.stack z G ⟨[.ref a, .ref b], []⟩ [.ref a, .ref b] [.ref a, .ref b] _ C8.E0 (hr.mono hk) I.env0 (by simpa using bound) vals hsp) fun r z' hq => ?_)
  cases r with
  | error e => exact C8.pass0 (E := C8.E0) pins σ G z e z' I hq
  | ok fl =>
    cases fl with
    | ret v =>
      obtain ⟨y, G', I', ry, ⟨n, rfl⟩, q⟩ := I.after hq
      obtain rfl : v = Value.ref n := ry
      exact ⟨.ref n, G', I', rfl, q⟩
    | next => exact hq.elim
    | brk => exact hq.elim
    | cont => exact hq.elim
end
theorem _root_.L2.Room.unitsD {k : Nat} {A : Around} (r : Room k A) : A.units + 65 < cLine := by
  have := r.un
  omega
theorem blkK {X : Cx} {s : Shared} {H : Hp} {sc : Scope} {e : Env} {fp : List Addr} : (X.blk s H sc e fp).K = X.K := rfl
theorem blkK2 {X : Cx} {s : Shared} {H : Hp} {sc : Scope} {e : Env} {fp : List Addr} {s' : Shared} {H' : Hp} {sc' : Scope} {e' : Env} {fp' : List Addr} : ((X.blk s H sc e fp).blk s' H' sc' e' fp').K = X.K := rfl
section
variable {X : Cx} {Kf : PySem.W.Frag}
theorem ix_listK (hK : X.K = Kf) : IxR X (rIxL Kf) := hK ▸ ix_list
theorem ix_tupK (hK : X.K = Kf) : IxR X (rIxT Kf) := hK ▸ ix_tup
theorem pe_fldK (hK : X.K = Kf) {e : Expr} {m : Str} {pos : Pos} {ta : TE} (he : PE X e ta) (hb : attributeBase e m X.env (eval e X.env) = eval e X.env) : PE X (.Attribute e m pos) (tFld Kf ta m) := by
  subst hK
  exact pe_fld he hb
theorem op_eqDK (hK : X.K = Kf) (hu : X.A.units + 64 < cLine) : OpR X (compareOp .Eq) (rEqD Kf) := hK ▸ op_eqD hu
theorem op_neDK (hK : X.K = Kf) (hu : X.A.units + 64 < cLine) : OpR X (compareOp .NotEq) (rNeD Kf) := hK ▸ op_neD hu
theorem op_in_seqK (hK : X.K = Kf) : OpR X (compareOp .In) (rIn Kf false) := hK ▸ op_in_seq
theorem op_notIn_seqK (hK : X.K = Kf) : OpR X (compareOp .NotIn) (rIn Kf true) := hK ▸ op_notIn_seq
theorem op_inDK (hK : X.K = Kf) (hu : X.A.units + 65 < cLine) : OpR X (compareOp .In) (rInD Kf) := hK ▸ op_inD hu
theorem op_notInDK (hK : X.K = Kf) (hu : X.A.units + 65 < cLine) : OpR X (compareOp .NotIn) (rNotInD Kf) := hK ▸ op_notInD hu
theorem call_len_seqK (hK : X.K = Kf) : CallR X (.builtin "len") (fun xs H Q => ∃ p ys, xs = [.ref p] ∧ (SqL Kf H p ys ∨ SqT Kf H p ys) ∧ Q (.int ys.length) H) := hK ▸ call_len_seq
theorem call_list_ofK (hK : X.K = Kf) : CallR X (.type "list") (fun xs H Q => ∃ p ys, xs = [.ref p] ∧ (SqL Kf H p ys ∨ SqT Kf H p ys) ∧ ∀ l, H l = none → Q (.ref l) (upd H l (.lst ys))) := hK ▸ call_list_of
theorem cr_allK (hK : X.K = Kf) (hc : X.calm = true) : CallR X (.builtin "all") (rAll Kf) := hK ▸ cr_all hc
theorem cr_anyK (hK : X.K = Kf) (hc : X.calm = true) : CallR X (.builtin "any") (rAny Kf) := hK ▸ cr_any hc
theorem cr_minK (hK : X.K = Kf) (hc : X.calm = true) : CallR X (.builtin "min") (rMin Kf) := hK ▸ cr_min hc
theorem cr_sortedMK (hK : X.K = Kf) (room : X.A.units + 64 < cLine) : CallR X (.builtin "sorted") (rSortedM Kf) := hK ▸ cr_sortedM room
theorem pi_listK (hK : X.K = Kf) {l tg : Expr} {tl : TE} (hl : PE X l tl) : PI X tg l (iList Kf tl) := by
  subst hK
  exact pi_list hl
end
theorem pg_tupK {X : Cx} {Kf : PySem.W.Frag} {es : List Expr} {k n : Nat} {pos : Pos} {t : TGs} (hK : X.K = Kf) (hc : X.calm = true) (h : PGs X es t) (hn : (assignEach es X.env).length = n := by rfl) (hst : (assignEach es X.env).findIdx? (·.1) = none := by rfl) : PG X (.Tuple es k pos) (gTup Kf n t) := by
  subst hK
  exact pg_tup hc h hn hst
/-- a property of the class at C -/
structure ProC (P : Program) (w : World) (K : PySem.W.Frag) (mg : Str → Option Value) (base : Heap) (k : Nat) (C : Addr) (m : Str) (sp : Sp) : Prop where
  ex : ∃ (p g : Addr) (fd : FuncData) (ps : List Str), Cls K C ∧ PropOf K C m p g ∧ FnOk P w K mg base C8.CX0 k g fd ps sp ∧ Binds K fd ps []
theorem pe_pr {X : Cx} {j k : Nat} {C : Addr} {sp : Sp} {m : Str} {e : Expr} {pos : Pos} {ta : TE} (c : ProC X.prog X.w X.K X.mg X.base k C m sp) (hr : Room j X.A) (hk : k + 1 ≤ j) (he : PE X e ta) (hab : attributeBase e m X.env (eval e X.env) = eval e X.env := by rfl) :
    PE X (.Attribute e m pos) (tProp C sp [] C8.E0 ta) := by
  obtain ⟨p, g, fd, ps, c1, c2, F, b⟩ := c.ex
  exact pe_prop he c1 c2 F (hr.mono hk) b .nil C8.pass0 hab
end FF
namespace GQ
open PySem PySem.SeqAt
open AutoSeq1 (wpAny_loadPart')
open MeetsSeq MeetsSeq2 MeetsSeq3 SeqRoads2
section
variable {prog : Program} {w : World} {A : Around} {R : Result → Shared → Prop}
theorem tuple_neG (l b : Addr) (xs ys : Array Value) (n n2 : Nat) (dd dd2 : Option Addr) (sl sl2 : Array (Option Value)) (sz : xs.size = ys.size) (I : Nat → Shared → Prop)
    (turn : ∀ i (h1 : i < xs.size) (h2 : i < ys.size) s, I i s → wpAny (model prog w) A.in1 (eqBool xs[i] ys[i]) (fun r s' => r = true ∧ I (i + 1) s') (fun e s' => R (.error e) s') s)
    (done_ : ∀ s, I xs.size s → R (.ok (.ret (.bool false))) s) {s : Shared} (hl1 : s.heap.get? l = some { cls := .type "tuple", dict := dd, data := .seq xs n, slots := sl }) (hb1 : s.heap.get? b = some { cls := .type "tuple", dict := dd2, data := .seq ys n2, slots := sl2 }) (start_ : I 0 s) :
    wpAny (model prog w) A.in1 (Builtin.«tuple.__ne__» ⟨[.ref l, .ref b], []⟩) (FinOf prog w A R) (fun e s' => R (.error e) s') s := by
  have f2 := AutoSeq1.sub_tuple_tuple
  have len_ : (xs.toList.zip ys.toList).length = xs.size := by simp [sz]
  have start2 := start_
  obtain ⟨hp, g, d, tk, os⟩ := s
  wp_walk using wpAny_loadPart' hl1, wpAny_loadPart' hb1, wpAny_forIn_list _ (fun rest b s' => b.1 = none ∧ ∃ i, rest = (xs.toList.zip ys.toList).drop i ∧ i ≤ xs.size ∧ I i s') _
  case turn =>
    rintro ⟨y, x⟩ rest b s' ⟨no_, i, at_, le_, hI⟩
    have lt_ : i < (xs.toList.zip ys.toList).length := by
      refine Nat.lt_of_not_le fun ge_ => ?_
      rw [List.drop_of_length_le ge_] at at_
      cases at_
    have h1 : i < xs.size := len_ ▸ lt_
    have h2 : i < ys.size := sz ▸ h1
    rw [List.drop_eq_getElem_cons lt_] at at_
    injection at_ with head_ tail_
    obtain rfl : y = xs[i] := by simpa using congrArg Prod.fst head_
    obtain rfl : x = ys[i] := by simpa using congrArg Prod.snd head_
    refine wpAny_bind (wpAny_mono (turn i h1 h2 s' hI) (fun r s2 q2 => ?_) fun _ _ x => x)
    obtain ⟨rfl, q2⟩ := q2
    wp_walk
    exact ⟨rfl, i + 1, tail_, h1, q2⟩
  case fin =>
    rintro ⟨b1, b2⟩ s' ⟨no_, i, at_, le_, hI⟩
    obtain rfl : b1 = none := no_
    have ge_ : xs.size ≤ i := by
      refine Nat.le_of_not_lt fun lt_ => ?_
      rw [List.drop_eq_getElem_cons (len_.symm ▸ lt_)] at at_
      cases at_
    obtain rfl : i = xs.size := Nat.le_antisymm le_ ge_
    have fin_ := done_ s' hI
    wp_walk
    simpa [Builtin.Tuple.tupleCompareSizes, sz] using fin_
  case h =>
    exact ⟨rfl, 0, rfl, Nat.zero_le _, start2⟩
theorem rc_neG {E : Value → Shared → Prop} {s : Shared} {l b : Addr} {xs ys : Array Value} {Q : Value → Shared → Prop} (sz : xs.size = ys.size) (hu : A.units < cLine) (I : Nat → Shared → Prop) (hl : s.heap.IsTuple l xs) (hb : s.heap.IsTuple b ys)
    (turn : ∀ i (h1 : i < xs.size) (h2 : i < ys.size) s, I i s → wpAny (model prog w) A.in1 (eqBool xs[i] ys[i]) (fun r s' => r = true ∧ I (i + 1) s') E s)
    (done_ : ∀ s, I xs.size s → Q (.bool false) s) (start_ : I 0 s) : wpAny (model prog w) A (richCompare .NotEq (.ref l) (.ref b)) Q E s := by
  obtain ⟨⟨cls, dd, data, sl⟩, ho, hc, n, hd⟩ := id hl
  obtain ⟨⟨cls2, dd2, data2, sl2⟩, ho2, hc2, n2, hd2⟩ := id hb
  obtain rfl : cls = .type "tuple" := hc
  obtain rfl : data = .seq xs n := hd
  obtain rfl : cls2 = .type "tuple" := hc2
  obtain rfl : data2 = .seq ys n2 := hd2
  refine wpAny_richCompare_same_room (op := .NotEq) ⟨_, ho, rfl⟩ ⟨_, ho2, rfl⟩ F.slot_tuple_ne (call_here F.slot_tuple_ne ⟨_, ho, rfl⟩ F.entry_tuple_ne (F.args_tuple_ne_2 _ _) ?_) hu
  exact tuple_neG (R := wants (fun v s' => v ≠ .notImplemented ∧ Q v s') E) l b xs ys n n2 dd dd2 sl sl2 sz I turn (fun s' q => ⟨(fun x => nomatch x), done_ s' q⟩) ho ho2 start_
end
end GQ
namespace FF
open PySem PySem.Spec PyProof.Rows L2 PySem.W
section
variable {X : Cx} {n : Nat} {D : Eqv}
/-- x != y of two tuples whose items are seen to be equal: False -/
def rNeG (K : PySem.W.Frag) (D : Eqv) : R2 := fun x y H Q => DTup K D x y H ∧ ∀ H', Ext H H' → Q (.bl false) H'
theorem op_neG (mon : Mon D) (h : EqG X n D) (hr : Room (n + 1) X.A) : OpR X (compareOp .NotEq) (rNeG X.K D) := by
  intro pins z σ G x y u v Q I rx ry want
  obtain ⟨⟨a, b, xs, ys, rfl, rfl, ha, hb, p⟩, q⟩ := want
  obtain rfl : u = Value.ref a := rx
  obtain rfl : v = Value.ref b := ry
  obtain ⟨its, r, e, _⟩ := I.tuple ha
  obtain ⟨its2, r2, e2, _⟩ := I.tuple hb
  have sz : its.toArray.size = its2.toArray.size := by rw [List.size_toArray, List.size_toArray, ← r.length, ← r2.length]; exact p.1
  have sb : Sub X (n + 1) X.A := ⟨hr, rfl⟩
  show wpAny (model X.prog X.w) X.A (richCompare .NotEq (.ref a) (.ref b)) (EP X pins σ Q) X.xe z
  refine GQ.rc_neG sz sb.room.units0 (fun _ s' => LoopI X pins σ G s') e e2 (fun i h1 h2 s' l => turnG mon h sb p r r2 i h1 h2 s' l) (fun s' ⟨G', I', ex⟩ => ?_) ⟨G, I, Ext.rfl'⟩
  exact ⟨.bl false, G', I', rfl, q G' ex⟩
end
end FF
namespace FF
open PySem PySem.Spec PyProof.Rows L2
section
variable {P : Program} {w : World} {K : PySem.W.Frag} {mg : Str → Option Value} {base : Heap} {C : Addr}
abbrev s_P_init : Stmt := inCls (topS 25) 0
abbrev N_P_init : List Str := ["self", "places", "begins", "edges"]
abbrev P_P_init : List Str := ["self", "places", "begins", "edges"]
theorem sc_P_init : FnScope N_P_init P_P_init (C8.fnScope s_P_init) := C8.fnScope_by (by decide +kernel)
theorem ok_init {f : Addr} {fd : FuncData} (M : L2.Mk K C f) (hm : mg "Program" = some (.ref C)) (F : C8.Fun K "__init__" "Program.__init__" s_P_init f fd) (b : L2.Binds K fd P_P_init []) (T : Txt K mg C) (c_need_parts : C8.Cal P w K mg base 4 "need_parts" sp_need_parts []) :
    C8.Mak P w K mg base 5 "Program" C (sp_init C) [] := by
  refine C8.mak0 M hm F b .nil sc_P_init (fun vs H Q E ⟨a, dx, vp, vb, ve, pl, bl, el, F, e, _⟩ => by rw [e]; rfl) (fun cdv A outer s H vs Q E hr h => ?_)
  obtain ⟨a, dx, vp, vb, ve, pl, bl, el, F, rfl, ha, haF, hF, p1, p2, p3, raw, k⟩ := h
  have hu := hu_of hr
  refine ⟨_, (pss_cons (ps_expr (C8.pe_c c_need_parts hr (by decide) rfl (pa_cons (pv 1) (pa_cons (pv 2) (pa_cons (pv 3) pa_nil))))) (pss_cons (ps_fld (pv 0) (pv 1) rfl) (pss_cons (ps_fld (pv 0) (pe_callB (cr_sortedSet rfl) (by rfl) T.m_sorted (by decide +kernel) (pa_cons (pe_callTy (cr_setI rfl) (by rfl) T.m_set (by decide +kernel) (pa_cons (pv 2) pa_nil)) pa_nil)) rfl) (pss_one (ps_fld (pv 0) (pe_callB (cr_sortedMS rfl) (by rfl) T.m_sorted (by decide +kernel) (pa_cons (pe_callTy (cr_setM rfl hr.units) (by rfl) T.m_set (by decide +kernel) (pa_cons (pv 3) pa_nil)) pa_nil)) rfl))))), ?_⟩
  have n : Now ⟨F, none⟩ [a] (hid [a] H) (KAnd (KV (At zI pl) vp) (KAnd (KV (At (zL zI) bl) vb) (KV (At (zL zE) el) ve))) H := ⟨re.refl _, dmP hF, fun x m => by
    obtain rfl := List.mem_singleton.mp m
    exact ⟨haF, fun z => nomatch z⟩, ⟨p1, p2, p3⟩⟩
  refine seq_ (s_expr n (ev_call (x := (⟨(pl, bl, el), raw⟩ : Raw3)) (ea_cons (ev_var rfl n.kn.1) (ea_cons (ev_var rfl n.kn.2.1) (ea_cons (ev_var rfl n.kn.2.2) ea_nil)))) fun H1 e1 n1 => ?_)
  have ha1 : H1 a = some (.ins C dx []) := e1.keep (fun z => nomatch z) ha
  refine seq_ (s_fld T.cl T.nP n1 List.mem_cons_self rfl ha1 (by show 0 < 1000; omega) (ev_var rfl n1.kn.1) fun v H2 e2 n2 => ?_)
  have hv : v = vp := (show v = .int pl from n2.kn.2).trans (show vp = .int pl from p1).symm
  subst hv
  refine seq_ (s_fld T.cl T.nB n2 List.mem_cons_self rfl upd_same (by show 1 < 1000; omega) (ev_cb (ea_cons (ev_cb (ea_cons (ev_var rfl n2.kn.1.2.1) ea_nil) (ra_setI raw.bn)) ea_nil) ra_sortedIK) fun vb' H3 e3 n3 => ?_)
  refine s_fld T.cl T.nE n3 List.mem_cons_self rfl upd_same (by show 2 < 1000; omega) (ev_cb (ea_cons (ev_cb (ea_cons (ev_var rfl n3.kn.1.1.2.2) ea_nil) (ra_setM (R := zE) raw.en)) ea_nil) (ra_sortedK (R := zE) (l := el) ?_ fun _ => Iff.rfl)) fun ve' H4 e4 n4 => ?_
  · intro x hx
    obtain ⟨a, xs, _, _, hp⟩ := p3
    obtain ⟨ks, _, _, _, ho⟩ := rows_list (R := zE) hp
    exact ho x hx
  · refine k _ vb' ve' (fun x o ne hx => ?_) upd_same n4.kn.1.2 n4.kn.2
    have := n4.rel.pure x o (by rw [hid_out fun z => ne (List.mem_singleton.mp z)]; exact hx)
    exact (hid_some this).2
abbrev s_P_places : Stmt := inCls (topS 25) 1
abbrev N_P_places : List Str := ["self"]
abbrev P_P_places : List Str := ["self"]
theorem sc_P_places : FnScope N_P_places P_P_places (C8.fnScope s_P_places) := C8.fnScope_by (by decide +kernel)
abbrev sp_places (C : Addr) : Sp := SpP (ι := PD) (fun P => ACons (At (zPr C) P) ANil) (fun P => At zI P.pl)
theorem ok_places {f p : Addr} {fd : FuncData} (hc : Cls K C) (hp : PropOf K C "places" p f) (F : C8.Fun K "places" "Program.places" s_P_places f fd) (b : L2.Binds K fd P_P_places []) (T : Txt K mg C) : ProC P w K mg base 1 C "places" (sp_places C) := by
  refine ⟨p, f, fd, _, hc, hp, C8.fn0 F sc_P_places (spP_len fun x G vs h => alS h fun _ h => al0 h) (fun cdv A outer s H vs Q E hr h => ?_), b⟩
  obtain ⟨x, F, hF, ⟨v, r, rfl, p, rfl⟩, k⟩ := h
  have hu := hu_of hr
  refine ⟨_, (pss_one (ps_ret (pe_fld (pv 0) rfl))), ?_⟩
  have n : Now ⟨F, none⟩ [] H (KV (At (zPr C) x) v) H := Now.start (dmP hF) p
  refine s_ret n (ev_fP T (ev_var rfl n.kn)) fun v H1 e n1 => ?_
  exact k v H1 n1.pure n1.kn.2
abbrev s_P_begins : Stmt := inCls (topS 25) 2
abbrev N_P_begins : List Str := ["self"]
abbrev P_P_begins : List Str := ["self"]
theorem sc_P_begins : FnScope N_P_begins P_P_begins (C8.fnScope s_P_begins) := C8.fnScope_by (by decide +kernel)
abbrev sp_begins (C : Addr) : Sp := SpP (ι := PD) (fun P => ACons (At (zPr C) P) ANil) (fun P => At (zL zI) P.bg)
theorem ok_begins {f : Addr} {fd : FuncData} (me : Meth K C "begins" f) (F : C8.Fun K "begins" "Program.begins" s_P_begins f fd) (b : L2.Binds K fd P_P_begins []) (T : Txt K mg C) : C8.Met P w K mg base 1 C "begins" (sp_begins C) [] := by
  refine C8.met0 T.cl me F b sc_P_begins (spP_len fun x G vs h => alS h fun _ h => al0 h) (fun cdv A outer s H vs Q E hr h => ?_)
  obtain ⟨x, F, hF, ⟨v, r, rfl, p, rfl⟩, k⟩ := h
  have hu := hu_of hr
  refine ⟨_, (pss_one (ps_ret (pe_callTy call_list_of (by rfl) T.m_list (by decide +kernel) (pa_cons (pe_fld (pv 0) rfl) pa_nil)))), ?_⟩
  have n : Now ⟨F, none⟩ [] H (KV (At (zPr C) x) v) H := Now.start (dmP hF) p
  refine s_ret n (ev_cb (ea_cons (ev_fB T (ev_var rfl n.kn)) ea_nil) ra_listOf) fun v H1 e n1 => ?_
  exact k v H1 n1.pure n1.kn.2
abbrev s_P_edges : Stmt := inCls (topS 25) 3
abbrev N_P_edges : List Str := ["self"]
abbrev P_P_edges : List Str := ["self"]
theorem sc_P_edges : FnScope N_P_edges P_P_edges (C8.fnScope s_P_edges) := C8.fnScope_by (by decide +kernel)
abbrev sp_edges (C : Addr) : Sp := SpP (ι := PD) (fun P => ACons (At (zPr C) P) ANil) (fun P => At (zL zE) P.ed)
theorem ok_edges {f : Addr} {fd : FuncData} (me : Meth K C "edges" f) (F : C8.Fun K "edges" "Program.edges" s_P_edges f fd) (b : L2.Binds K fd P_P_edges []) (T : Txt K mg C) : C8.Met P w K mg base 1 C "edges" (sp_edges C) [] := by
  refine C8.met0 T.cl me F b sc_P_edges (spP_len fun x G vs h => alS h fun _ h => al0 h) (fun cdv A outer s H vs Q E hr h => ?_)
  obtain ⟨x, F, hF, ⟨v, r, rfl, p, rfl⟩, k⟩ := h
  have hu := hu_of hr
  refine ⟨_, (pss_one (ps_ret (pe_callTy call_list_of (by rfl) T.m_list (by decide +kernel) (pa_cons (pe_fld (pv 0) rfl) pa_nil)))), ?_⟩
  have n : Now ⟨F, none⟩ [] H (KV (At (zPr C) x) v) H := Now.start (dmP hF) p
  refine s_ret n (ev_cb (ea_cons (ev_fE T (ev_var rfl n.kn)) ea_nil) ra_listOf) fun v H1 e n1 => ?_
  exact k v H1 n1.pure n1.kn.2
abbrev s_P_need_place : Stmt := inCls (topS 25) 5
abbrev N_P_need_place : List Str := ["self", "place"]
abbrev P_P_need_place : List Str := ["self", "place"]
theorem sc_P_need_place : FnScope N_P_need_place P_P_need_place (C8.fnScope s_P_need_place) := C8.fnScope_by (by decide +kernel)
abbrev InPl := { x : PD × Int // InR x.1.pl x.2 }
abbrev sp_mneed (C : Addr) : Sp := SpP (ι := InPl) (fun x => ACons (At (zPr C) x.1.1) (ACons (At zI x.1.2) ANil)) (fun _ => IsV .non)
theorem ok_mneed {f : Addr} {fd : FuncData} (me : Meth K C "need_place" f) (F : C8.Fun K "need_place" "Program.need_place" s_P_need_place f fd) (b : L2.Binds K fd P_P_need_place []) (T : Txt K mg C) : C8.Met P w K mg base 1 C "need_place" (sp_mneed C) [] := by
  refine C8.met0 T.cl me F b sc_P_need_place (spP_len fun x G vs h => alS h fun _ h => alS h fun _ h => al0 h) (fun cdv A outer s H vs Q E hr h => ?_)
  obtain ⟨⟨⟨x, i⟩, hi⟩, F, hF, ⟨v, r, rfl, p, v2, r2, rfl, p2, rfl⟩, k⟩ := h
  have hu := hu_of hr
  refine ⟨_, (pss_one (ps_if (pt_not (pt_chain op_le op_lt pe_int (pv 1) (pe_fld (pv 0) rfl))) (pss_one ps_never) pss_nil)), ?_⟩
  have n : Now ⟨F, none⟩ [] H (KAnd (KV (At (zPr C) x) v) (KV (At zI i) v2)) H := Now.start (dmP hF) ⟨p, p2⟩
  refine s_if n (et_is (b := false) (et_not (et_B1 (ev_chain ev_int (ev_var rfl n.kn.2) ru_le (ev_fP T (ev_var rfl n.kn.1)) ru_lt))) ?_) (fun h => absurd h (by decide)) fun _ H1 e1 n1 => ?_
  · have hi : InR x.pl i := hi
    rw [decide_eq_true hi.1, decide_eq_true hi.2]; rfl
  · exact k .non H1 n1.pure rfl
abbrev s_P_into : Stmt := inCls (topS 25) 6
abbrev N_P_into : List Str := ["self", "place", "m", "s", "n"]
abbrev P_P_into : List Str := ["self", "place"]
theorem sc_P_into : FnScope N_P_into P_P_into (C8.fnScope s_P_into) := C8.fnScope_by (by decide +kernel)
def into (P : PD) (place : Int) : List (Int × Str) := (P.ed.filter fun e => decide (e.2.2 = place)).map fun e => (e.1, e.2.1)
abbrev sp_into (C : Addr) : Sp := SpP (ι := { x : PD × Int // InR x.1.pl x.2 ∧ x.1.ed.length < 64 }) (fun x => ACons (At (zPr C) x.1.1) (ACons (At zI x.1.2) ANil)) (fun x => At (zL zPN) (into x.1.1 x.1.2))
theorem ok_into {f : Addr} {fd : FuncData} (me : Meth K C "into" f) (F : C8.Fun K "into" "Program.into" s_P_into f fd) (b : L2.Binds K fd P_P_into []) (T : Txt K mg C) (c_need_place : C8.Met P w K mg base 1 C "need_place" (sp_mneed C) []) : C8.Met P w K mg base 2 C "into" (sp_into C) [] := by
  refine C8.met0 T.cl me F b sc_P_into (spP_len fun x G vs h => alS h fun _ h => alS h fun _ h => al0 h) (fun cdv A outer s H vs Q E hr h => ?_)
  obtain ⟨⟨⟨x, i⟩, hi, he⟩, F, hF, ⟨v, r, rfl, p, v2, r2, rfl, p2, rfl⟩, k⟩ := h
  have hu := hu_of hr
  refine ⟨_, (pss_cons (ps_expr (C8.pe_mt c_need_place hr (by decide) (pv 0) (pa_cons (pv 1) pa_nil))) (pss_one (ps_ret (pe_lc (own := [("m", 2), ("s", 3), ("n", 4)]) rfl sc_P_into.nd (pi_list (pe_fld (pv 0) rfl)) (blkOk_by (own := [("m", 2), ("s", 3), ("n", 4)]) (N := N_P_into) (sc := C8.fnScope s_P_into) (by decide +kernel)) (fun _ _ _ _ _ => (pg_tupK (n := 3) blkK (by rfl) (pgs_cons (pg_name (i := 2) sc_P_into.nd rfl (.inl rfl)) (pgs_cons (pg_name (i := 3) sc_P_into.nd rfl (.inl rfl)) (pgs_cons (pg_name (i := 4) sc_P_into.nd rfl (.inl rfl)) pgs_nil))))) (fun _ _ _ _ _ => (pts_one (pt_cmpR op_eq (pv 4) (pv 1) (nomark _)))) (fun _ _ _ _ _ => (pe_tup (pa_cons (pv 2) (pa_cons (pv 3) pa_nil)))))))), ?_⟩
  have n : Now ⟨F, none⟩ [] H (KAnd (KV (At (zPr C) x) v) (KV (At zI i) v2)) H := Now.start (dmP hF) ⟨p, p2⟩
  refine seq_ (s_expr n (ev_meth (x := (⟨(x, i), hi⟩ : InPl)) (ev_var (Φ := At (zPr C) x) rfl n.kn.1) (ins_of rfl) (ea_cons (ev_var (Φ := At zI i) rfl n.kn.2) ea_nil) fun G v vs h1 h2 => ⟨v, vs, rfl, h1, h2⟩) fun H1 e1 n1 => ?_)
  have he : x.ed.length < 64 := he
  refine s_ret n1 (ev_lcD (S := zPN) n1.kn (ei_list (ev_fE T (ev_var rfl n1.kn.1))) (by omega) (fun e => decide (e.2.2 = i)) (fun e => (e.1, e.2.1)) fun e f' H' u hc hb d e' k' hr => bnd_tup3 hr fun u1 u2 u3 h1 h2 h3 => ⟨?_, ?_, fun _ => ?_⟩) fun v H2 e2 n2 => ?_
  · rfl
  · exact et_B1 (ev_op (ev_var rfl h3) (ev_var rfl k'.2) ru_eqI)
  · exact ev_tup2 (R := zI) (S := zN) (ev_var rfl h1) (ev_var rfl h2)
  · exact k v H2 n2.pure n2.kn.2
end
end FF
namespace FF
inductive Clo (ps : List (Int × Int)) (st : List Int) : Int → Prop
  | base {n : Int} : n ∈ st → Clo ps st n
  | step {m n : Int} : Clo ps st m → (m, n) ∈ ps → Clo ps st n
/-- yes or no -/
noncomputable def yes (p : Prop) : Bool := @decide p (Classical.propDecidable p)
theorem yes_iff {p : Prop} : yes p = true ↔ p := @decide_eq_true_iff p (Classical.propDecidable p)
noncomputable def cloL (ps : List (Int × Int)) (st : List Int) : List Int := (canon (st ++ ps.map (·.2))).filter fun n => yes (Clo ps st n)
theorem mem_cloL {ps : List (Int × Int)} {st : List Int} {n : Int} : n ∈ cloL ps st ↔ Clo ps st n := by
  unfold cloL
  rw [List.mem_filter, mem_canon, yes_iff]
  refine ⟨fun h => h.2, fun h => ⟨?_, h⟩⟩
  cases h with
  | base h => exact List.mem_append_left _ h
  | step _ h => exact List.mem_append_right _ (List.mem_map.mpr ⟨_, h, rfl⟩)
theorem asc_cloL (ps : List (Int × Int)) (st : List Int) : Asc (cloL ps st) := asc_filter (asc_canon _) _
theorem cloL_is {ps : List (Int × Int)} {st l : List Int} (h : ∀ n, n ∈ l ↔ Clo ps st n) : canon l = cloL ps st := (canon_eq (asc_cloL ps st) fun n => mem_cloL.trans (h n).symm).symm
theorem cloL_len (ps : List (Int × Int)) (st : List Int) : (cloL ps st).length ≤ st.length + ps.length := by
  refine Nat.le_trans (List.length_filter_le _ _) (Nat.le_trans (canon_len _) ?_)
  rw [List.length_append, List.length_map]
  exact Nat.le_refl _
theorem nodup_len {α : Type} [DecidableEq α] : ∀ {l m : List α}, l.Nodup → (∀ x ∈ l, x ∈ m) → l.length ≤ m.length
  | [], _, _, _ => Nat.zero_le _
  | x :: l, m, nd, h => by
    obtain ⟨n1, n2⟩ := List.nodup_cons.mp nd
    have hx := h x List.mem_cons_self
    have ih := nodup_len (m := m.erase x) n2 fun y hy => (List.mem_erase_of_ne (fun e => n1 (by rw [← e]; exact hy))).mpr (h y (List.mem_cons_of_mem _ hy))
    rw [List.length_erase_of_mem hx] at ih
    have := List.length_pos_of_mem hx
    rw [List.length_cons]
    omega
/-- where the pairs lead from k -/
def succs (ps : List (Int × Int)) (k : Int) : List Int := (ps.filter fun p => decide (p.1 = k)).map (·.2)
theorem mem_succs {ps : List (Int × Int)} {k n : Int} : n ∈ succs ps k ↔ (k, n) ∈ ps := by
  unfold succs
  rw [List.mem_map]
  constructor
  · rintro ⟨⟨a, b⟩, h, rfl⟩
    obtain ⟨h1, h2⟩ := List.mem_filter.mp h
    have : a = k := of_decide_eq_true h2
    subst this
    exact h1
  · exact fun h => ⟨(k, n), List.mem_filter.mpr ⟨h, decide_eq_true rfl⟩, rfl⟩
/-- what has been found, what still waits; x is just being looked at, its first ways (l) are done -/
structure Fnd (ps : List (Int × Int)) (st Fs ws : List Int) (x : Option Int) (l : List Int) : Prop where
  nd : Fs.Nodup
  so : ∀ y ∈ Fs, Clo ps st y
  al : ∀ y ∈ st, y ∈ Fs
  wt : ∀ y ∈ ws, y ∈ Fs
  cl : ∀ y ∈ Fs, y ∈ ws ∨ some y = x ∨ ∀ z ∈ succs ps y, z ∈ Fs
  xm : ∀ y, x = some y → y ∈ Fs
  dn : ∀ z ∈ l, z ∈ Fs
theorem Fnd.len {ps : List (Int × Int)} {st Fs ws l : List Int} {x : Option Int} (h : Fnd ps st Fs ws x l) : Fs.length ≤ st.length + ps.length := by
  have := nodup_len (m := st ++ ps.map (·.2)) h.nd fun y hy => (by
    cases h.so y hy with
    | base h => exact List.mem_append_left _ h
    | step _ h => exact List.mem_append_right _ (List.mem_map.mpr ⟨_, h, rfl⟩))
  rw [List.length_append, List.length_map] at this
  exact this
theorem Fnd.pop {ps : List (Int × Int)} {st Fs ws : List Int} {x : Int} (h : Fnd ps st Fs (ws ++ [x]) none []) : Fnd ps st Fs ws (some x) [] where
  nd := h.nd
  so := h.so
  al := h.al
  wt := fun y hy => h.wt y (List.mem_append_left _ hy)
  cl := fun y hy => by
    rcases h.cl y hy with h | h | h
    · rcases List.mem_append.mp h with h | h
      · exact .inl h
      · exact .inr (.inl (by rw [List.mem_singleton.mp h]))
    · cases h
    · exact .inr (.inr h)
  xm := fun y e => by
    cases e
    exact h.wt _ (List.mem_append_right _ (List.mem_singleton.mpr rfl))
  dn := fun z h => nomatch h
theorem Fnd.old {ps : List (Int × Int)} {st Fs ws l : List Int} {x y : Int} (h : Fnd ps st Fs ws (some x) l) (hy : y ∈ Fs) : Fnd ps st Fs ws (some x) (l ++ [y]) := { h with dn := fun z hz => (List.mem_append.mp hz).elim (h.dn z) fun e => (List.mem_singleton.mp e) ▸ hy }
theorem Fnd.new {ps : List (Int × Int)} {st Fs ws l : List Int} {x y : Int} (h : Fnd ps st Fs ws (some x) l) (hy : y ∉ Fs) (hs : y ∈ succs ps x) : Fnd ps st (Fs ++ [y]) (ws ++ [y]) (some x) (l ++ [y]) where
  nd := List.nodup_append.mpr ⟨h.nd, List.pairwise_singleton _ _, fun a ha b hb e => hy ((List.mem_singleton.mp hb) ▸ e ▸ ha)⟩
  so := fun z hz => (List.mem_append.mp hz).elim (h.so z) fun e => by
    rw [List.mem_singleton.mp e]
    exact .step (h.so x (h.xm x rfl)) (mem_succs.mp hs)
  al := fun z hz => List.mem_append_left _ (h.al z hz)
  wt := fun z hz => (List.mem_append.mp hz).elim (fun k => List.mem_append_left _ (h.wt z k)) fun k => List.mem_append_right _ k
  cl := fun z hz => (List.mem_append.mp hz).elim (fun k => (h.cl z k).elim (fun m => .inl (List.mem_append_left _ m)) fun m => m.elim (fun m => .inr (.inl m)) fun m => .inr (.inr fun t ht => List.mem_append_left _ (m t ht))) fun k => .inl (List.mem_append_right _ k)
  xm := fun z e => List.mem_append_left _ (h.xm z e)
  dn := fun z hz => (List.mem_append.mp hz).elim (fun k => List.mem_append_left _ (h.dn z k)) fun k => List.mem_append_right _ k
theorem Fnd.next {ps : List (Int × Int)} {st Fs ws : List Int} {x : Int} (h : Fnd ps st Fs ws (some x) (succs ps x)) : Fnd ps st Fs ws none [] where
  nd := h.nd
  so := h.so
  al := h.al
  wt := h.wt
  cl := fun y hy => by
    rcases h.cl y hy with k | k | k
    · exact .inl k
    · cases k
      exact .inr (.inr h.dn)
    · exact .inr (.inr k)
  xm := fun y e => nomatch e
  dn := fun z h => nomatch h
theorem Fnd.done {ps : List (Int × Int)} {st Fs : List Int} (h : Fnd ps st Fs [] none []) (n : Int) : n ∈ Fs ↔ Clo ps st n := by
  refine ⟨h.so n, fun c => ?_⟩
  induction c with
  | base k => exact h.al _ k
  | step _ k ih =>
    rcases h.cl _ ih with c | c | c
    · cases c
    · cases c
    · exact c _ (mem_succs.mpr k)
end FF
namespace FF
open PySem PySem.Spec PyProof.Rows L2
/-- the dict of lists that is being made: key, the list's place, the list -/
abbrev WRow := Int × Addr × List Int
def wKvs (rows : List WRow) : List (Key × V) := rows.map fun r => (kI r.1, .ref r.2.1)
def wDat (rows : List WRow) : List (Int × List Int) := rows.map fun r => (r.1, r.2.2)
def wAds (rows : List WRow) : List Addr := rows.map fun r => r.2.1
structure WaysI (p : Addr) (F : List Addr) (H0 H : Hp) (K Kn : Hp → Prop) (ps : List (Int × Int)) (i : Nat) (rows : List WRow) : Prop where
  dict : H p = some (.dK (wKvs rows))
  lsts : ∀ r ∈ rows, H r.2.1 = some (.lst (r.2.2.map V.int))
  kn : (rows.map (·.1)).Nodup
  an : (wAds rows).Nodup
  ap : ∀ a ∈ wAds rows, a ≠ p ∧ a ∉ F
  rel : re none H0 (hid (p :: wAds rows) H)
  dm : Dm ⟨p :: F, none⟩ H
  k1 : K (hid (wAds rows ++ p :: F) H)
  k2 : Kn (hid (wAds rows ++ p :: F) H)
  say : ∀ k, ((valD (wDat rows) k).getD []) = succs (ps.take i) k
  few : ∀ r ∈ rows, r.2.2.length ≤ i
  many : rows.length ≤ i
theorem valV_rows {rows : List WRow} {k : Int} : (valV (wKvs rows) (kI k) = none ∧ ∀ r ∈ rows, r.1 ≠ k) ∨ ∃ r ∈ rows, r.1 = k ∧ valV (wKvs rows) (kI k) = some (.ref r.2.1) := by
  induction rows with
  | nil => exact .inl ⟨rfl, fun r h => nomatch h⟩
  | cons r rows ih =>
    by_cases e : r.1 = k
    · exact .inr ⟨r, List.mem_cons_self, e, valV_pos (p := (kI r.1, V.ref r.2.1)) (by rw [e])⟩
    · have ne : ¬ (kI r.1, V.ref r.2.1).1 = kI k := fun z => e (put_I.inj _ _ z)
      rcases ih with ⟨h1, h2⟩ | ⟨r', h1, h2, h3⟩
      · refine .inl ⟨(valV_neg ne).trans h1, fun s hs => ?_⟩
        rcases List.mem_cons.mp hs with rfl | hs
        · exact e
        · exact h2 s hs
      · exact .inr ⟨r', List.mem_cons_of_mem _ h1, h2, (valV_neg ne).trans h3⟩
theorem succs_snoc {ps : List (Int × Int)} {k a b : Int} : succs (ps ++ [(a, b)]) k = if a = k then succs ps k ++ [b] else succs ps k := by
  unfold succs
  rw [List.filter_append, List.map_append]
  by_cases e : a = k
  · rw [if_pos e]; simp [e]
  · rw [if_neg e]; simp [e]
/-- the row at key k, its list longer by b -/
def bump (k b : Int) (r : WRow) : WRow := if r.1 = k then (r.1, r.2.1, r.2.2 ++ [b]) else r
theorem wKvs_bump {rows : List WRow} {k b : Int} : wKvs (rows.map (bump k b)) = wKvs rows := by
  unfold wKvs
  rw [List.map_map]
  refine List.map_congr_left fun r _ => ?_
  show (kI (bump k b r).1, V.ref (bump k b r).2.1) = _
  unfold bump
  split <;> rfl
theorem wAds_bump {rows : List WRow} {k b : Int} : wAds (rows.map (bump k b)) = wAds rows := by
  unfold wAds
  rw [List.map_map]
  refine List.map_congr_left fun r _ => ?_
  show (bump k b r).2.1 = _
  unfold bump
  split <;> rfl
theorem keys_bump {rows : List WRow} {k b : Int} : (rows.map (bump k b)).map (·.1) = rows.map (·.1) := by
  rw [List.map_map]
  refine List.map_congr_left fun r _ => ?_
  show (bump k b r).1 = _
  unfold bump
  split <;> rfl
theorem say_bump {rows : List WRow} {k b j : Int} (h : ∃ r ∈ rows, r.1 = k) : ((valD (wDat (rows.map (bump k b))) j).getD []) = if k = j then ((valD (wDat rows) j).getD []) ++ [b] else (valD (wDat rows) j).getD [] := by
  induction rows with
  | nil => obtain ⟨r, hr, _⟩ := h; cases hr
  | cons r rows ih =>
    show ((valD (((bump k b r).1, (bump k b r).2.2) :: wDat (rows.map (bump k b))) j).getD []) = if k = j then ((valD ((r.1, r.2.2) :: wDat rows) j).getD []) ++ [b] else ((valD ((r.1, r.2.2) :: wDat rows) j).getD [])
    rw [valD_cons, valD_cons]
    by_cases e : r.1 = k
    · have e1 : bump k b r = (r.1, r.2.1, r.2.2 ++ [b]) := if_pos e
      rw [e1]
      by_cases ej : r.1 = j
      · rw [if_pos ej, if_pos ej, if_pos (e.symm.trans ej)]; rfl
      · rw [if_neg ej, if_neg ej, if_neg (fun z => ej (e.trans z))]
        by_cases hh : ∃ r ∈ rows, r.1 = k
        · rw [ih hh, if_neg (fun z => ej (e.trans z))]
        · have same : rows.map (bump k b) = rows := by
            conv => rhs; rw [← List.map_id rows]
            refine List.map_congr_left fun s hs => if_neg fun z => hh ⟨s, hs, z⟩
          rw [same]
    · have e1 : bump k b r = r := if_neg e
      rw [e1]
      have hh : ∃ r ∈ rows, r.1 = k := by
        obtain ⟨s, hs, ek⟩ := h
        rcases List.mem_cons.mp hs with rfl | hs
        · exact absurd ek e
        · exact ⟨s, hs, ek⟩
      by_cases ej : r.1 = j
      · rw [if_pos ej, if_pos ej, if_neg (fun z => e (ej.trans z.symm))]
      · rw [if_neg ej, if_neg ej]
        exact ih hh
theorem valD_none {rows : List WRow} {k : Int} (h : ∀ r ∈ rows, r.1 ≠ k) : valD (wDat rows) k = none := by
  cases q : valD (wDat rows) k with
  | none => rfl
  | some x =>
    have : (valD (wDat rows) k).isSome = true := by rw [q]; rfl
    obtain ⟨p, hp, e⟩ := List.mem_map.mp (valD_isSome.mp this)
    obtain ⟨r, hr, rfl⟩ := List.mem_map.mp hp
    exact absurd e (h r hr)
theorem nodup_map_inj {α β : Type} {f : α → β} : ∀ {l : List α}, (l.map f).Nodup → ∀ x ∈ l, ∀ y ∈ l, f x = f y → x = y
  | [], _, x, hx, _, _, _ => nomatch hx
  | z :: l, h, x, hx, y, hy, e => by
    rw [List.map_cons] at h
    obtain ⟨h1, h2⟩ := List.nodup_cons.mp h
    rcases List.mem_cons.mp hx with ex | hx2 <;> rcases List.mem_cons.mp hy with ey | hy2
    · rw [ex, ey]
    · exact absurd (List.mem_map.mpr ⟨y, hy2, by rw [← e, ex]⟩) h1
    · exact absurd (List.mem_map.mpr ⟨x, hx2, by rw [e, ey]⟩) h1
    · exact nodup_map_inj h2 x hx2 y hy2 e
theorem hid_eq {F F' : List Addr} {H H' : Hp} (h1 : ∀ a, a ∉ F' → a ∉ F ∧ H' a = H a) (h2 : ∀ a ∈ F', a ∉ F → H a = none) : hid F' H' = hid F H := by
  funext a
  by_cases m : a ∈ F'
  · rw [hid_in m]
    by_cases n : a ∈ F
    · rw [hid_in n]
    · rw [hid_out n, h2 a m n]
  · obtain ⟨n, e⟩ := h1 a m
    rw [hid_out m, hid_out n, e]
theorem WaysI.same {p : Addr} {F : List Addr} {H0 H H' : Hp} {K Kn : Hp → Prop} [StH K] [StH Kn] {ps : List (Int × Int)} {i : Nat} {rows : List WRow} (I : WaysI p F H0 H K Kn ps i rows) (s : Same H H') : WaysI p F H0 H' K Kn ps i rows :=
  { I with dict := s _ _ I.dict, lsts := fun r hr => s _ _ (I.lsts r hr), rel := I.rel.trans (re.same (Same.hid s)), dm := I.dm.re (re.same s), k1 := StH.up (Same.hid s) I.k1, k2 := StH.up (Same.hid s) I.k2 }
theorem WaysI.app {p : Addr} {F : List Addr} {H0 H : Hp} {K Kn : Hp → Prop} {ps : List (Int × Int)} {i : Nat} {rows : List WRow} (I : WaysI p F H0 H K Kn ps i rows) {r : WRow} {b : Int} (hr : r ∈ rows) (hi : ps[i]? = some (r.1, b)) :
    WaysI p F H0 (upd H r.2.1 (.lst (r.2.2.map V.int ++ [V.int b]))) K Kn ps (i + 1) (rows.map (bump r.1 b)) where
  dict := by
    rw [upd_ne (Ne.symm (I.ap _ (List.mem_map.mpr ⟨r, hr, rfl⟩)).1), wKvs_bump]
    exact I.dict
  lsts := fun s' hs => by
    obtain ⟨s, hm, rfl⟩ := List.mem_map.mp hs
    unfold bump
    by_cases e : s.1 = r.1
    · obtain rfl := nodup_map_inj I.kn s hm r hr e
      rw [if_pos rfl]
      show upd H s.2.1 _ s.2.1 = some (.lst ((s.2.2 ++ [b]).map V.int))
      rw [upd_same, List.map_append]
      rfl
    · rw [if_neg e, upd_ne fun z => e (by rw [nodup_map_inj I.an s hm r hr z])]
      exact I.lsts s hm
  kn := by rw [keys_bump]; exact I.kn
  an := by rw [wAds_bump]; exact I.an
  ap := by rw [wAds_bump]; exact I.ap
  rel := by
    have mA : r.2.1 ∈ wAds rows := List.mem_map.mpr ⟨r, hr, rfl⟩
    rw [wAds_bump, hid_upd (List.mem_cons_of_mem _ mA)]
    exact I.rel
  dm := dm_upd I.dm
  k1 := by
    have mA : r.2.1 ∈ wAds rows := List.mem_map.mpr ⟨r, hr, rfl⟩
    rw [wAds_bump, hid_upd (List.mem_append_left _ mA)]
    exact I.k1
  k2 := by
    have mA : r.2.1 ∈ wAds rows := List.mem_map.mpr ⟨r, hr, rfl⟩
    rw [wAds_bump, hid_upd (List.mem_append_left _ mA)]
    exact I.k2
  say := fun k => by
    rw [say_bump ⟨r, hr, rfl⟩, I.say k, List.take_add_one, hi]
    exact succs_snoc.symm
  few := fun s' hs => by
    obtain ⟨s, hm, rfl⟩ := List.mem_map.mp hs
    have := I.few s hm
    unfold bump
    split
    · show (s.2.2 ++ [b]).length ≤ i + 1
      rw [List.length_append]
      exact Nat.succ_le_succ this
    · omega
  many := by rw [List.length_map]; exact Nat.le_succ_of_le I.many
theorem WaysI.add {p : Addr} {F : List Addr} {H0 H : Hp} {K Kn : Hp → Prop} {ps : List (Int × Int)} {i : Nat} {rows : List WRow} (I : WaysI p F H0 H K Kn ps i rows) {q : Addr} {a b : Int} (hq : H q = none) (hi : ps[i]? = some (a, b)) (hk : ∀ r ∈ rows, r.1 ≠ a) (hv : valV (wKvs rows) (kI a) = none) :
    WaysI p F H0 (upd (upd (upd H q (.lst [])) p (.dK (putK (wKvs rows) (kI a) (.ref q)))) q (.lst [V.int b])) K Kn ps (i + 1) (rows ++ [(a, q, [b])]) := by
  have qp : q ≠ p := fun z => by rw [z, I.dict] at hq; cases hq
  have qF : q ∉ F := fun z => (I.dm.there q (List.mem_cons_of_mem _ z)).1 hq
  have qA : q ∉ wAds rows := fun z => by
    obtain ⟨r, hr, e⟩ := List.mem_map.mp z
    have := I.lsts r hr
    rw [e, hq] at this
    cases this
  have eA : wAds (rows ++ [(a, q, [b])]) = wAds rows ++ [q] := by unfold wAds; rw [List.map_append]; rfl
  have out : ∀ x, x ≠ q → x ≠ p → (upd (upd (upd H q (.lst [])) p (.dK (putK (wKvs rows) (kI a) (.ref q)))) q (.lst [V.int b])) x = H x := fun x h1 h2 => by
    rw [upd_ne h1, upd_ne h2, upd_ne h1]
  have vd : valD (wDat rows) a = none := valD_none hk
  refine ⟨?_, fun r hr => ?_, ?_, ?_, fun x hx => ?_, ?_, dm_upd (dm_upd (dm_upd I.dm)), ?_, ?_, fun k => ?_, fun r hr => ?_, ?_⟩
  · rw [upd_ne (Ne.symm qp), upd_same, putK_new _ hv]
    unfold wKvs
    rw [List.map_append]
    rfl
  · rcases List.mem_append.mp hr with hr | hr
    · have m : r.2.1 ∈ wAds rows := List.mem_map.mpr ⟨r, hr, rfl⟩
      rw [out _ (fun z => qA (z ▸ m)) (I.ap _ m).1]
      exact I.lsts r hr
    · rw [List.mem_singleton.mp hr]
      exact upd_same
  · rw [List.map_append]
    refine List.nodup_append.mpr ⟨I.kn, List.pairwise_singleton _ _, fun x hx y hy e => ?_⟩
    obtain ⟨r, hr, rfl⟩ := List.mem_map.mp hx
    exact hk r hr (e.trans (List.mem_singleton.mp hy))
  · rw [eA]
    exact List.nodup_append.mpr ⟨I.an, List.pairwise_singleton _ _, fun x hx y hy e => qA (by rw [← List.mem_singleton.mp hy, ← e]; exact hx)⟩
  · rw [eA] at hx
    rcases List.mem_append.mp hx with hx | hx
    · exact I.ap x hx
    · rw [List.mem_singleton.mp hx]; exact ⟨qp, qF⟩
  · rw [eA, hid_eq (F := p :: wAds rows) (H := H) (fun x hx => ?_) fun x hx hn => ?_]
    · exact I.rel
    · simp only [List.mem_cons, List.mem_append, List.not_mem_nil, or_false, not_or] at hx
      exact ⟨fun z => (List.mem_cons.mp z).elim hx.1 hx.2.1, out x hx.2.2 hx.1⟩
    · simp only [List.mem_cons, List.mem_append, List.not_mem_nil, or_false, not_or] at hx hn
      rcases hx with h | h | h
      · exact absurd h hn.1
      · exact absurd h hn.2
      · rw [h]; exact hq
  · rw [eA, hid_eq (F := wAds rows ++ p :: F) (H := H) (fun x hx => ?_) fun x hx hn => ?_]
    · exact I.k1
    · simp only [List.mem_cons, List.mem_append, List.not_mem_nil, or_false, not_or] at hx ⊢
      exact ⟨⟨hx.1.1, hx.2⟩, out x hx.1.2 hx.2.1⟩
    · simp only [List.mem_cons, List.mem_append, List.not_mem_nil, or_false, not_or] at hx hn
      rcases hx with (h | h) | h
      · exact absurd h hn.1
      · rw [h]; exact hq
      · exact absurd h (fun z => z.elim hn.2.1 hn.2.2)
  · rw [eA, hid_eq (F := wAds rows ++ p :: F) (H := H) (fun x hx => ?_) fun x hx hn => ?_]
    · exact I.k2
    · simp only [List.mem_cons, List.mem_append, List.not_mem_nil, or_false, not_or] at hx ⊢
      exact ⟨⟨hx.1.1, hx.2⟩, out x hx.1.2 hx.2.1⟩
    · simp only [List.mem_cons, List.mem_append, List.not_mem_nil, or_false, not_or] at hx hn
      rcases hx with (h | h) | h
      · exact absurd h hn.1
      · rw [h]; exact hq
      · exact absurd h (fun z => z.elim hn.2.1 hn.2.2)
  · have s1 : ∀ (l : List WRow), (∀ r ∈ l, r.1 ≠ a) → (valD (wDat (l ++ [(a, q, [b])])) k).getD [] = if a = k then [b] else (valD (wDat l) k).getD [] := by
      intro l
      induction l with
      | nil =>
        intro _
        show (valD [(a, [b])] k).getD [] = _
        rw [valD_cons]
        split <;> rfl
      | cons r l ih =>
        intro hl
        show (valD ((r.1, r.2.2) :: wDat (l ++ [(a, q, [b])])) k).getD [] = if a = k then [b] else (valD ((r.1, r.2.2) :: wDat l) k).getD []
        rw [valD_cons, valD_cons]
        by_cases e : r.1 = k
        · rw [if_pos e, if_pos e, if_neg fun z => hl r List.mem_cons_self (e.trans z.symm)]
        · rw [if_neg e, if_neg e]
          exact ih fun s hs => hl s (List.mem_cons_of_mem _ hs)
    rw [s1 rows hk, I.say k, List.take_add_one, hi]
    show _ = succs (ps.take i ++ [(a, b)]) k
    rw [succs_snoc]
    by_cases e : a = k
    · rw [if_pos e, if_pos e, ← e, ← I.say a, vd]
      rfl
    · rw [if_neg e, if_neg e]
  · rcases List.mem_append.mp hr with hr | hr
    · exact Nat.le_succ_of_le (I.few r hr)
    · rw [List.mem_singleton.mp hr]
      exact Nat.succ_le_succ (Nat.zero_le _)
  · rw [List.length_append]
    exact Nat.succ_le_succ I.many
section
variable {P : Program} {w : World} {K : PySem.W.Frag} {mg : Str → Option Value} {base : Heap} {C : Addr}
abbrev s_reached_from : Stmt := topS 24
abbrev N_reached_from : List Str := ["pairs", "places", "ways", "one", "other", "found", "place", "waiting"]
abbrev P_reached_from : List Str := ["pairs", "places"]
theorem sc_reached_from : FnScope N_reached_from P_reached_from (C8.fnScope s_reached_from) := C8.fnScope_by (by decide +kernel)
abbrev RFrom := { x : List (Int × Int) × List Int // x.1.length + x.2.length < 64 ∧ x.2.Nodup }
abbrev sp_reached_from : Sp := SpP (ι := RFrom) (fun x => ACons (At (zL zP2) x.1.1) (ACons (At (zL zI) x.1.2) ANil)) (fun x => At (zL zI) (cloL x.1.1 x.1.2))
theorem ok_reached_from {f : Addr} {fd : FuncData} (F : C8.Def K mg "reached_from" s_reached_from f fd) (b : L2.Binds K fd P_reached_from []) (T : Txt K mg C) : C8.Cal P w K mg base 1 "reached_from" sp_reached_from [] := by
  refine C8.cal0 F b .nil sc_reached_from (spP_len fun x G vs h => alS h fun _ h => alS h fun _ h => al0 h) (fun cdv A outer s H vs Q E hr h => ?_)
  obtain ⟨⟨⟨ps, st⟩, few, nd⟩, F, hF, ⟨v, r, rfl, p0, v2, r2, rfl, p2, rfl⟩, kk⟩ := h
  have few : ps.length + st.length < 64 := few
  have hu := hu_of hr
  refine ⟨_, (pss_cons (ps_set (i := 2) sc_reached_from.nd rfl (.inl rfl) pe_dnewK) (pss_cons (ps_for PassesOwn.never rfl (pi_list (pv 0)) (pg_tup rfl (pgs_cons (pg_name (i := 3) sc_reached_from.nd rfl (.inl rfl)) (pgs_cons (pg_name (i := 4) sc_reached_from.nd rfl (.inl rfl)) pgs_nil))) (pss_one (ps_expr (pe_bm PySem.F.plainAttrs_list PySem.F.slot_list_append PySem.F.type_list_append mt_append (pe_dsetd (pv 2) (pv 3) (pe_lst pa_nil) ⟨rfl, rfl, rfl, rfl⟩) (pa_cons (pv 4) pa_nil))))) (pss_cons (ps_setDcG (i := 5) (own := [("place", 6)]) (o0 := .dK []) (.inl rfl) hu rfl sc_reached_from.nd rfl rfl (sw_trueD rfl rfl rfl (by decide +kernel)) (pi_list (pv 1)) (blkOk_by (own := [("place", 6)]) (N := N_reached_from) (sc := C8.fnScope s_reached_from) (by decide +kernel)) (fun _ _ _ _ _ => (pg_name (i := 6) sc_reached_from.nd rfl (.inl rfl))) (fun _ _ _ _ _ => pts_nil) (fun _ _ _ _ _ => (pv 6)) (fun _ _ _ _ _ => pe_bl)) (pss_cons (ps_set (i := 7) sc_reached_from.nd rfl (.inl rfl) (pe_callTy (call_list_dK rfl) (by rfl) T.m_list (by decide +kernel) (pa_cons (pv 5) pa_nil))) (pss_cons (ps_while PassesOwn.never (pt_cmpR (op_neD hr.units) (pv 7) (pe_lst pa_nil) (nomark _)) (pss_one (ps_for PassesOwn.never rfl (pi_list (pe_dget2 hu (pv 2) (pe_bm0 PySem.F.plainAttrs_list PySem.F.slot_list_pop PySem.F.type_list_pop mt_pop (pv 7)) (pe_lst pa_nil) ⟨rfl, rfl, rfl, rfl⟩)) (pg_name (i := 4) sc_reached_from.nd rfl (.inl rfl)) (pss_one (ps_if (pt_cmp (pc_dnotin hu (pv 4) (pv 5))) (pss_cons (ps_dput hu (pv 5) (pv 4) pe_bl rfl) (pss_one (ps_expr (pe_bm PySem.F.plainAttrs_list PySem.F.slot_list_append PySem.F.type_list_append mt_append (pv 7) (pa_cons (pv 4) pa_nil))))) pss_nil))))) (pss_one (ps_ret (pe_callB (call_sortedDI rfl) (by rfl) T.m_sorted (by decide +kernel) (pa_cons (pv 5) pa_nil))))))))), ?_⟩
  have n : Now ⟨F, none⟩ [] H (KAnd (KV (At (zL zP2) ps) v) (KV (At (zL zI) st) v2)) H := Now.start (dmP hF) ⟨p0, p2⟩
  refine seq_ (s_newDK n fun p hp n1 => ?_)
  -- the lists of where each leads
  refine seq_ (s_for n1 (ei_list (R := zP2) (ev_var (v := v) rfl n1.kn.1)) fun Kn H1 sKn e1 n2 => ?_)
  have pF : p ∉ F := (dmP hF : Dm ⟨F, none⟩ H).new hp
  refine ⟨fun i σ' H' => ∃ a b rows, σ' = [some v, some v2, some (.ref p), a, b, none, none, none] ∧ WaysI p F H H' (KAnd (KV (At (zL zP2) ps) v) (KV (At (zL zI) st) v2)) Kn ps i rows, ?_, ?_, ?_, ?_⟩
  · refine ⟨none, none, [], rfl, ?_, fun r h => (nomatch h), List.nodup_nil, List.nodup_nil, fun a h => (nomatch h), n2.rel, n2.dm, n2.kn.1, n2.kn.2, fun k => ?_, fun r h => (nomatch h), Nat.zero_le _⟩
    · exact e1.keep (fun z => nomatch z) upd_same
    · rfl
  · rintro i σ' H' ⟨a, b, rows, rfl, I⟩
    exact ⟨I.dm, StH.up (hid_sub fun x m => List.mem_append_right _ m) I.k2⟩
  · rintro i x u σ' H' H'' hx ⟨a, b, rows, rfl, I⟩ sm hr'
    refine bnd_tup2 (F := p :: F) hr' (fun t u1 u2 _ _ h1 h2 => ?_) _ fun σ2 z => z
    obtain rfl : u1 = .int x.1 := h1
    obtain rfl : u2 = .int x.2 := h2
    have I2 := I.same sm
    have hx2 : ps[i]? = some (x.1, x.2) := hx
    have il : i < ps.length := (List.getElem?_eq_some_iff.mp hx).1
    refine ⟨.ref p, rfl, p, rfl, .inl ⟨_, .inl I2.dict⟩, .int x.1, rfl, Nat.zero_le _, fun q hq => ?_⟩
    have I3 := I2.same (same_new (o := .lst []) hq)
    have nq : p ≠ q := fun z => by rw [← z, I2.dict] at hq; cases hq
    refine ⟨wKvs rows, kI x.1, I3.dict, rfl, ?_, fun vv hv => ?_, fun hv => ?_⟩
    · have := I.many
      unfold wKvs
      rw [List.length_map]
      exact Nat.lt_of_le_of_lt (by omega : rows.length ≤ 100000) (by decide)
    · rcases valV_rows (rows := rows) (k := x.1) with ⟨h, _⟩ | ⟨r, hr1, hr2, hr3⟩
      · rw [h] at hv; cases hv
      · obtain rfl : vv = .ref r.2.1 := by rw [hr3] at hv; exact (Option.some.inj hv).symm
        have hl := I3.lsts r hr1
        refine ⟨.inl ⟨rfl, _, SqL.of hl⟩, .int x.2, rfl, r.2.1, _, .int x.2, rfl, rfl, hl, ?_, _, _, _, rfl, I3.app hr1 (by rw [hr2]; exact hx2)⟩
        have := I.few r hr1
        rw [List.length_map]
        exact Nat.lt_of_le_of_lt (by omega : r.2.2.length ≤ 100000) (by decide)
    · rcases valV_rows (rows := rows) (k := x.1) with ⟨_, h⟩ | ⟨r, hr1, hr2, hr3⟩
      · have hl : (upd (upd H'' q (.lst [])) p (.dK (putK (wKvs rows) (kI x.1) (.ref q)))) q = some (.lst []) := by rw [upd_ne (Ne.symm nq), upd_same]
        refine ⟨.inl ⟨rfl, _, SqL.of hl⟩, .int x.2, rfl, q, [], .int x.2, rfl, rfl, hl, by decide, _, _, _, rfl, I2.add hq hx2 h hv⟩
      · rw [hr3] at hv; cases hv
  · rintro σ' H' ⟨a, b, rows, rfl, I⟩
    have n3 : Now ⟨F, none⟩ [] H (KAnd (KAnd (KV (At (zL zP2) ps) v) (KV (At (zL zI) st) v2)) (KV (At (zDI (zL zI)) (wDat rows)) (.ref p))) H' := by
      refine ⟨?_, ⟨fun x m => I.dm.there x (List.mem_cons_of_mem _ m), fun x z => nomatch z⟩, fun x m => (nomatch m), StH.up (hid_sub fun x m => List.mem_append_right _ (List.mem_cons_of_mem _ m)) I.k1, p, wKvs rows, rfl, .inl ?_, ?_⟩
      · rw [hid_nil]
        exact I.rel.trans (re.same hid_same)
      · rw [hid_out pF]; exact I.dict
      · have lists : ∀ r ∈ rows, zL zI (hid F H') (.ref r.2.1) r.2.2 := fun r hr => ⟨r.2.1, _, rfl, by rw [hid_out (I.ap _ (List.mem_map.mpr ⟨r, hr, rfl⟩)).2]; exact I.lsts r hr, of_ints _⟩
        clear I
        induction rows with
        | nil => exact .nil
        | cons r rows ih => exact .cons ⟨rfl, lists r List.mem_cons_self⟩ (ih fun s hs => lists s (List.mem_cons_of_mem _ hs))
    have say : ∀ k, ((valD (wDat rows) k).getD []) = succs ps k := fun k => by rw [I.say k, List.take_length]
    -- what is found
    have st64 : st.length ≤ 100000 := by omega
    refine seq_ ?_
    refine s_newD n3.dm (ed_dc (mk := HO.dK) (enc := kI) (KR := zI) (S := zB) put_I n3.kn (ei_list (R := zI) (ev_var rfl n3.kn.1.2)) st64 (fun _ => true) (fun x => x) (fun _ => true) (by rw [filter_yes, map_same]; exact nd) (fun x f' H2 u hx hb d e k' hr' => bnd_name ⟨rfl, et_yes, fun _ => ⟨ev_var rfl hr', ev_bl⟩⟩)) fun D H2 kvs hD e2 h2 hp => ?_
    have hk : kvs.map (·.1) = st.map kI := by
      have := keys_map hp
      rw [this, List.map_map, List.map_map, filter_yes]
      rfl
    have n4 := n3.own hD e2 (Loc.of h2 (dict_no kvs))
    refine seq_ ?_
    refine ⟨.ref D, rfl, D, kvs, rfl, h2, fun q hq => ?_⟩
    have n5 := n4.new (o := .lst (kvs.map fun kv => kV kv.1)) hq
    have nqD : D ≠ q := fun z => by rw [← z, h2] at hq; cases hq
    have DF : D ∉ F := n3.dm.new hD
    have qF : q ∉ F := fun m => (n4.dm.there q (List.mem_cons_of_mem _ m)).1 hq
    have pD : p ≠ D := fun z => by
      obtain ⟨_, kv, e3, ha, _⟩ := n3.kn.2
      cases e3
      rcases ha with ha | ⟨od, ha⟩ <;> · have := (hid_some ha).2
                                         rw [z, hD] at this
                                         cases this
    have visD : ∀ {Hx : Hp} {kv : List (Key × V)} {Fs : List Int}, Hx D = some (.dK kv) → kv.map (·.1) = Fs.map kI → zDI zAny (hid F Hx) (.ref D) (Fs.map fun x => (x, ())) := fun {Hx kv Fs} h1 h2 => by
      refine ⟨D, kv, rfl, .inl (by rw [hid_out DF]; exact h1), ?_⟩
      clear h1
      induction Fs generalizing kv with
      | nil =>
        obtain rfl : kv = [] := List.map_eq_nil_iff.mp h2
        exact .nil
      | cons x Fs ih =>
        obtain ⟨y, ys, rfl, e1, e2⟩ := List.map_eq_cons_iff.mp h2
        exact .cons ⟨e1, trivial⟩ (ih e2)
    refine seq_ ?_
    refine ⟨fun m σ' H' => ∃ Fs ws b kv, σ' = [some v, some v2, some (.ref p), a, b, some (.ref D), none, some (.ref q)] ∧ H' D = some (.dK kv) ∧ kv.map (·.1) = Fs.map kI ∧ H' q = some (.lst (ws.map V.int)) ∧ Fnd ps st Fs ws none [] ∧
      Now ⟨q :: D :: F, none⟩ [q, D] H (KAnd (KAnd (KV (At (zL zP2) ps) v) (KV (At (zL zI) st) v2)) (KV (At (zDI (zL zI)) (wDat rows)) (.ref p))) H' ∧ ws.length ≤ Fs.length ∧ m = 2 * (st.length + ps.length - Fs.length) + ws.length, ⟨_, st, st, b, kvs, rfl, by rw [upd_ne nqD]; exact h2, hk, ?_, ⟨nd, fun y hy => .base hy, fun y hy => hy, fun y hy => hy, fun y hy => .inl hy, fun y z => (nomatch z), fun z h => (nomatch h)⟩, n5, Nat.le_refl _, rfl⟩, ?_⟩
    · rw [upd_same]
      have : kvs.map (fun kv => kV kv.1) = (kvs.map (·.1)).map kV := by rw [List.map_map]; rfl
      rw [this, hk, List.map_map]
      rfl
    rintro m σ' H3 ⟨Fs, ws, b, kv, rfl, hD3, hk3, hq3, fnd, n6, wle, rfl⟩
    have dmF : Dm ⟨F, none⟩ H3 := ⟨fun x m => n6.dm.there x (List.mem_cons_of_mem _ (List.mem_cons_of_mem _ m)), fun x z => nomatch z⟩
    have visq : zL zI (hid F H3) (.ref q) ws := ⟨q, _, rfl, by rw [hid_out qF]; exact hq3, of_ints _⟩
    refine (et_test1 (f := ⟨F, none⟩) (ev_op (ev_var (Φ := At (zL zI) ws) rfl visq) (ev_lst (R := zI) ee_nil (Nat.zero_le _)) ru_neD)) H3 (re.refl _) dmF _ fun c H4 e4 pc => ?_
    have n7 := n6.go e4
    have hD4 : H4 D = some (.dK kv) := e4.keep (fun z => nomatch z) hD3
    have hq4 : H4 q = some (.lst (ws.map V.int)) := e4.keep (fun z => nomatch z) hq3
    cases c with
    | false =>
      have ew : ws = [] := by simpa using pc.symm
      subst ew
      rw [if_neg Bool.false_ne_true]
      have n8 : Now ⟨F, none⟩ [] H (KV (At (zDI zAny) (Fs.map fun x => (x, ()))) (.ref D)) H4 := ⟨by rw [hid_nil]; exact n7.out, dmF.re e4, fun x m => (nomatch m), visD hD4 hk3⟩
      have ek : (Fs.map fun x => (x, ())).map (·.1) = Fs := by rw [List.map_map]; exact List.map_id _
      have := fnd.len
      refine s_ret n8 (EvP.is (y := cloL ps st) (ev_cb (ea_cons (ev_var rfl n8.kn) ea_nil) (ra_sortedDI (by rw [ek]; exact fnd.nd) (by rw [List.length_map]; omega))) (by rw [ek]; exact cloL_is fnd.done)) fun v3 H5 e5 n9 => ?_
      exact kk v3 H5 n9.pure n9.kn.2
    | true =>
      rw [if_pos rfl]
      have ne : ws ≠ [] := by
        rintro rfl
        simp at pc
      obtain ⟨ws0, x, rfl⟩ : ∃ ws0 x, ws = ws0 ++ [x] := ⟨ws.dropLast, ws.getLast ne, (List.dropLast_concat_getLast ne).symm⟩
      refine ⟨_, fun σ' H' h => h, tFor_of ?_⟩
      have hpop : (ws0 ++ [x]).map V.int = ws0.map V.int ++ [V.int x] := by rw [List.map_append]; rfl
      -- the last waiting one is taken; where it leads
      have n8 : Now ⟨q :: D :: F, none⟩ [q, D] H _ (upd H4 q (.lst (ws0.map V.int))) := n7.upd List.mem_cons_self
      have readW : ∀ (H' : Hp), KV (At (zDI (zL zI)) (wDat rows)) (.ref p) (hid (q :: D :: F) H') → ∃ kw, Rd H' p (.dK kw) ∧ ((valV kw (kI x) = none ∧ valD (wDat rows) x = none) ∨ ∃ u l, valV kw (kI x) = some u ∧ valD (wDat rows) x = some l ∧ zL zI (hid (q :: D :: F) H') u l) := fun H' ⟨p', kw, e1, h1, h2⟩ => by
        cases e1
        exact ⟨kw, same_rd hid_same h1, val_rel put_I.inj h2⟩
      obtain ⟨kw0, hw0, _⟩ := readW H4 n7.kn.2
      refine ⟨.ref p, rfl, p, rfl, .inl ⟨_, hw0⟩, .ref q, rfl, .inl ⟨rfl, _, SqL.of hq4⟩, q, _, .int x, rfl, rfl, hq4, ?_, ?_⟩
      · rw [hpop, List.length_append, List.getElem?_append_right (by simp)]
        simp
      have eH : upd H4 q (.lst ((ws0 ++ [x]).map V.int).dropLast) = upd H4 q (.lst (ws0.map V.int)) := by rw [hpop, List.dropLast_concat]
      rw [eH]
      refine ⟨Nat.zero_le _, fun r hr' => ?_⟩
      have n9 := n8.go (re.same (same_new (o := .lst []) hr'))
      obtain ⟨kw, hw, two⟩ := readW _ n9.kn.2
      have hD9 : upd (upd H4 q (.lst (ws0.map V.int))) r (.lst []) D = some (.dK kv) := by
        have h1 : upd H4 q (.lst (ws0.map V.int)) D = some (.dK kv) := by rw [upd_ne nqD]; exact hD4
        rw [upd_ne fun z => by rw [z, hr'] at h1; cases h1]
        exact h1
      have hq9 : upd (upd H4 q (.lst (ws0.map V.int))) r (.lst []) q = some (.lst (ws0.map V.int)) := by
        have h1 : upd H4 q (.lst (ws0.map V.int)) q = some (.lst (ws0.map V.int)) := upd_same
        have qr : q ≠ r := fun z => by
          rw [← z, h1] at hr'
          cases hr'
        rw [upd_ne qr]
        exact h1
      have rF : r ∉ q :: D :: F := n8.dm.new hr'
      refine ⟨valV kw (kI x), .inl ⟨kw, kI x, hw, rfl, rfl⟩, ?_⟩
      have look : zL zI (hid (q :: D :: F) (upd (upd H4 q (.lst (ws0.map V.int))) r (.lst []))) ((valV kw (kI x)).getD (.ref r)) (succs ps x) := by
        rcases two with ⟨h1, h2⟩ | ⟨u, l, h1, h2, h3⟩
        · rw [h1, ← say x, h2]
          exact ⟨r, [], rfl, by rw [hid_out rF, upd_same], .nil⟩
        · rw [h1, ← say x, h2]
          exact h3
      obtain ⟨a0, xs0, ea0, ha0, _⟩ := id look
      rw [ea0] at look ⊢
      refine ⟨a0, rfl, ⟨xs0, SqL.of (hid_same _ _ ha0)⟩, ?_⟩
      have n10 := n9.know (K' := KAnd (KAnd (KAnd (KV (At (zL zP2) ps) v) (KV (At (zL zI) st) v2)) (KV (At (zDI (zL zI)) (wDat rows)) (.ref p))) (KV (At (zL zI) (succs ps x)) (.ref a0))) ⟨n9.kn, look⟩
      refine for_run (F := q :: D :: F) (R := zI) (l := succs ps x) walk_list (fun j σ' H' => ∃ Fs' ws' b' kv', σ' = [some v, some v2, some (.ref p), a, b', some (.ref D), none, some (.ref q)] ∧ H' D = some (.dK kv') ∧ kv'.map (·.1) = Fs'.map kI ∧ H' q = some (.lst (ws'.map V.int)) ∧ Fnd ps st Fs' ws' (some x) ((succs ps x).take j) ∧
        Now ⟨q :: D :: F, none⟩ [q, D] H (KAnd (KAnd (KAnd (KV (At (zL zP2) ps) v) (KV (At (zL zI) st) v2)) (KV (At (zDI (zL zI)) (wDat rows)) (.ref p))) (KV (At (zL zI) (succs ps x)) (.ref a0))) H' ∧ Fs.length ≤ Fs'.length ∧ ws'.length + Fs.length = ws0.length + Fs'.length) ⟨Fs, ws0, b, kv, rfl, hD9, hk3, hq9, fnd.pop, n10, Nat.le_refl _, rfl⟩ ?_ ?_ ?_
      · rintro j σ' H' ⟨Fs', ws', b', kv', rfl, _, _, _, _, n11, _, _⟩
        exact ⟨n11.dm.there, n11.kn.2⟩
      · rintro j y u σ' H5 H6 hy ⟨Fs', ws', b', kv', rfl, hD5, hk5, hq5, fnd5, n11, gro5, len5⟩ sm hu6
        obtain rfl : u = .int y := hu6
        have n12 := n11.go (re.same sm)
        have hD6 := sm _ _ hD5
        have hq6 := sm _ _ hq5
        have dm6 : Dm ⟨F, none⟩ H6 := ⟨fun x m => n12.dm.there x (List.mem_cons_of_mem _ (List.mem_cons_of_mem _ m)), fun x z => nomatch z⟩
        have tk : (succs ps x).take (j + 1) = (succs ps x).take j ++ [y] := by
          rw [List.take_add_one, hy]; rfl
        have ymem : y ∈ succs ps x := List.mem_of_getElem? hy
        refine (et_test1 (f := ⟨F, none⟩) (ev_dnotin get_I (ev_var (Φ := At zI y) rfl rfl) (ev_var (Φ := At (zDI zAny) (Fs'.map fun x => (x, ()))) rfl (visD hD6 hk5)))) H6 (re.refl _) dm6 _ fun c H7 e7 pc7 => ?_
        have n13 := n12.go e7
        have hD7 : H7 D = some (.dK kv') := e7.keep (fun z => nomatch z) hD6
        have hq7 : H7 q = some (.lst (ws'.map V.int)) := e7.keep (fun z => nomatch z) hq6
        have yk : (valD (Fs'.map fun x => (x, ())) y).isSome = true ↔ y ∈ Fs' := by
          rw [valD_isSome, List.map_map]
          exact ⟨fun h => by simpa using h, fun h => by simpa using h⟩
        have fl := fnd5.len
        have kl : kv'.length = Fs'.length := by
          have := congrArg List.length hk5
          rw [List.length_map, List.length_map] at this
          exact this
        cases c with
        | false =>
          rw [if_neg Bool.false_ne_true]
          have ym : y ∈ Fs' := by
            rw [← yk]
            simpa using pc7.symm
          refine ⟨Fs', ws', _, kv', rfl, hD7, hk5, hq7, ?_, n13, gro5, len5⟩
          rw [tk]; exact fnd5.old ym
        | true =>
          rw [if_pos rfl]
          have ym : y ∉ Fs' := fun h => by
            rw [← yk] at h
            rw [h] at pc7
            cases pc7
          have kn : valV kv' (kI y) = none := valV_none fun p hp e => ym (by
            have : p.1 ∈ kv'.map (·.1) := List.mem_map.mpr ⟨p, hp, rfl⟩
            rw [hk5, e] at this
            obtain ⟨z, hz, ez⟩ := List.mem_map.mp this
            rw [← put_I.inj _ _ ez]
            exact hz)
          refine ⟨.ref D, rfl, .int y, rfl, D, _, rfl, DPut.k (k := kI y) hD7 (Nat.lt_of_le_of_lt (by omega : kv'.length ≤ 100000) (by decide)), ?_⟩
          have hq8 : upd H7 D (.dK (putK kv' (kI y) (.bl true))) q = some (.lst (ws'.map V.int)) := by rw [upd_ne (Ne.symm nqD)]; exact hq7
          have wl : ws'.length ≤ 100000 := by
            rw [List.length_append] at wle
            have e1 : [x].length = 1 := rfl
            omega
          refine ⟨.ref q, rfl, .inl ⟨rfl, _, SqL.of hq8⟩, .int y, rfl, q, _, .int y, rfl, rfl, hq8, by rw [List.length_map]; exact Nat.lt_of_le_of_lt wl (by decide), Fs' ++ [y], ws' ++ [y], _, putK kv' (kI y) (.bl true), rfl, ?_, ?_, ?_, ?_, ?_, ?_, ?_⟩
          · rw [upd_ne nqD, upd_same]
          · rw [putK_new _ kn, List.map_append, List.map_append, hk5]
            rfl
          · rw [upd_same, List.map_append]
            rfl
          · rw [tk]; exact fnd5.new ym ymem
          · exact (n13.upd (List.mem_cons_of_mem _ List.mem_cons_self)).upd List.mem_cons_self
          · rw [List.length_append]
            omega
          · rw [List.length_append, List.length_append]
            show ws'.length + 1 + Fs.length = ws0.length + (Fs'.length + 1)
            omega
      · rintro σ' H5 ⟨Fs', ws', b', kv', rfl, hD5, hk5, hq5, fnd5, n11, gro5, len5⟩
        rw [List.take_length] at fnd5
        have fl := fnd5.len
        refine ⟨_, ?_, Fs', ws', b', kv', rfl, hD5, hk5, hq5, fnd5.next, ⟨n11.rel, n11.dm, n11.lf, n11.kn.1⟩, ?_, rfl⟩
        · rw [List.length_append]
          show 2 * (st.length + ps.length - Fs'.length) + ws'.length < 2 * (st.length + ps.length - Fs.length) + (ws0.length + 1)
          omega
        · rw [List.length_append] at wle
          have e1 : [x].length = 1 := rfl
          omega
end
end FF
namespace FF
open PySem PySem.Spec PyProof.Rows L2
/-- a program that stands -/
structure OkP (P : PD) : Prop where
  p1 : 1 ≤ P.pl
  p9 : P.pl ≤ 10
  b0 : P.bg ≠ []
  b1 : ∀ x ∈ P.bg, InR P.pl x
  e1 : ∀ e ∈ P.ed, InR P.pl e.1 ∧ InR P.pl e.2.2
  ab : Asc P.bg
  ae : Asc P.ed
  few : P.ed.length + P.bg.length < 60
theorem okP_mk {pl : Int} {bl : List Int} {el : List E3} (r : RawP pl bl el) (h9 : pl ≤ 10) (h : el.length + bl.length < 60) : OkP (mkP pl bl el) where
  p1 := r.p1
  p9 := h9
  b0 := canon_ne r.b0
  b1 := fun x hx => r.b1 x (mem_canon.mp hx)
  e1 := fun e he => r.e1 e (mem_canon.mp he)
  ab := asc_canon _
  ae := asc_canon _
  few := by
    have h1 := canon_len el
    have h2 := canon_len bl
    show (canon el).length + (canon bl).length < 60
    omega
def arcs (P : PD) : List (Int × Int) := P.ed.map fun e => (e.1, e.2.2)
noncomputable def reachL (P : PD) : List Int := cloL (arcs P) P.bg
abbrev PDo := { P : PD // OkP P }
def ordF (o : List Int) (i : Int) : Int := o.getD i.toNat 0
def movedP (P : PD) (o : List Int) : PD := mkP P.pl (P.bg.map (ordF o)) (P.ed.map fun e => (ordF o e.1, e.2.1, ordF o e.2.2))
structure OkOrd (P : PD) (o : List Int) : Prop where
  ok : OkP P
  len : (o.length : Int) = P.pl
  rng : ∀ x ∈ o, InR P.pl x
def besideP (P Q : PD) : PD := mkP (P.pl + Q.pl) (P.bg ++ Q.bg.map fun x => x + P.pl) (P.ed ++ Q.ed.map fun e => (e.1 + P.pl, e.2.1, e.2.2 + P.pl))
theorem ord_at {P : PD} {o : List Int} (h : OkOrd P o) {i : Int} (hi : InR P.pl i) : o[i.toNat]? = some (ordF o i) ∧ InR P.pl (ordF o i) := by
  have hl := h.len
  have lt : i.toNat < o.length := by omega
  have e : o[i.toNat]? = some (ordF o i) := by
    unfold ordF
    rw [List.getD_eq_getElem?_getD, List.getElem?_eq_getElem lt]
    rfl
  exact ⟨e, h.rng _ (List.mem_of_getElem? e)⟩
section
variable {P : Program} {w : World} {K : PySem.W.Frag} {mg : Str → Option Value} {base : Heap} {C : Addr}
abbrev s_P_reached : Stmt := inCls (topS 25) 8
abbrev N_P_reached : List Str := ["self", "m", "s", "n"]
abbrev P_P_reached : List Str := ["self"]
theorem sc_P_reached : FnScope N_P_reached P_P_reached (C8.fnScope s_P_reached) := C8.fnScope_by (by decide +kernel)
abbrev sp_reached (C : Addr) : Sp := SpP (ι := PDo) (fun x => ACons (At (zPr C) x.1) ANil) (fun x => At (zL zI) (reachL x.1))
theorem ok_reached {f : Addr} {fd : FuncData} (me : Meth K C "reached" f) (F : C8.Fun K "reached" "Program.reached" s_P_reached f fd) (b : L2.Binds K fd P_P_reached []) (T : Txt K mg C) (c_reached_from : C8.Cal P w K mg base 1 "reached_from" sp_reached_from []) : C8.Met P w K mg base 2 C "reached" (sp_reached C) [] := by
  refine C8.met0 T.cl me F b sc_P_reached (spP_len fun x G vs h => alS h fun _ h => al0 h) (fun cdv A outer s H vs Q E hr h => ?_)
  obtain ⟨⟨x, ok⟩, F, hF, ⟨v, r, rfl, p, rfl⟩, k⟩ := h
  have hu := hu_of hr
  refine ⟨_, (pss_one (ps_ret (C8.pe_c c_reached_from hr (by decide) rfl (pa_cons (pe_lc (own := [("m", 1), ("s", 2), ("n", 3)]) rfl sc_P_reached.nd (pi_list (pe_fld (pv 0) rfl)) (blkOk_by (own := [("m", 1), ("s", 2), ("n", 3)]) (N := N_P_reached) (sc := C8.fnScope s_P_reached) (by decide +kernel)) (fun _ _ _ _ _ => (pg_tupK (n := 3) blkK (by rfl) (pgs_cons (pg_name (i := 1) sc_P_reached.nd rfl (.inl rfl)) (pgs_cons (pg_name (i := 2) sc_P_reached.nd rfl (.inl rfl)) (pgs_cons (pg_name (i := 3) sc_P_reached.nd rfl (.inl rfl)) pgs_nil))))) (fun _ _ _ _ _ => pts_nil) (fun _ _ _ _ _ => (pe_tup (pa_cons (pv 1) (pa_cons (pv 3) pa_nil))))) (pa_cons (pe_fld (pv 0) rfl) pa_nil))))), ?_⟩
  have n : Now ⟨F, none⟩ [] H (KV (At (zPr C) x) v) H := Now.start (dmP hF) p
  have few := ok.few
  have fw : (arcs x).length + x.bg.length < 64 := by
    unfold arcs
    rw [List.length_map]
    omega
  refine s_ret n (ev_call (x := (⟨(arcs x, x.bg), fw, asc_nodup ok.ab⟩ : RFrom)) (ea_cons (EvP.is (y := arcs x) (ev_lcD (S := zP2) n.kn (ei_list (ev_fE T (ev_var rfl n.kn))) (by omega) (fun _ => true) (fun e => (e.1, e.2.2)) fun e f' H' u hc hb d e' k' hr => bnd_tup3 hr fun u1 u2 u3 h1 h2 h3 => ⟨rfl, et_yes, fun _ => ev_tup2 (R := zI) (S := zI) (ev_var rfl h1) (ev_var rfl h3)⟩) ?_) (ea_cons (ev_fB T (ev_var rfl n.kn)) ea_nil))) fun v H2 e2 n2 => ?_
  · rw [filter_yes]; rfl
  · exact k v H2 n2.pure n2.kn.2
abbrev s_P_moved : Stmt := inCls (topS 25) 15
abbrev N_P_moved : List Str := ["self", "order", "edges", "m", "s", "n", "place"]
abbrev P_P_moved : List Str := ["self", "order"]
theorem sc_P_moved : FnScope N_P_moved P_P_moved (C8.fnScope s_P_moved) := C8.fnScope_by (by decide +kernel)
abbrev sp_moved (C : Addr) : Sp := SpP (ι := { x : PD × List Int // OkOrd x.1 x.2 }) (fun x => ACons (At (zPr C) x.1.1) (ACons (At (zL zI) x.1.2) ANil)) (fun x => At (zPr C) (movedP x.1.1 x.1.2))
theorem ok_moved {f : Addr} {fd : FuncData} (me : Meth K C "moved" f) (F : C8.Fun K "moved" "Program.moved" s_P_moved f fd) (b : L2.Binds K fd P_P_moved []) (T : Txt K mg C) (c_Program : C8.Mak P w K mg base 5 "Program" C (sp_init C) []) : C8.Met P w K mg base 7 C "moved" (sp_moved C) [] := by
  refine C8.met0 T.cl me F b sc_P_moved (spP_len fun x G vs h => alS h fun _ h => alS h fun _ h => al0 h) (fun cdv A outer s H vs Q E hr h => ?_)
  obtain ⟨⟨⟨x, o⟩, ok⟩, F, hF, ⟨v, r, rfl, p, v2, r2, rfl, p2, rfl⟩, k⟩ := h
  have ok : OkOrd x o := ok
  have hu := hu_of hr
  refine ⟨_, (pss_cons (ps_setLc (i := 2) (own := [("m", 3), ("s", 4), ("n", 5)]) rfl sc_P_moved.nd rfl rfl (sw_true rfl rfl rfl (by decide +kernel)) (pi_list (pe_fld (pv 0) rfl)) (blkOk_by (own := [("m", 3), ("s", 4), ("n", 5)]) (N := N_P_moved) (sc := C8.fnScope s_P_moved) (by decide +kernel)) (fun _ _ _ _ _ => (pg_tupK (n := 3) blkK (by rfl) (pgs_cons (pg_name (i := 3) sc_P_moved.nd rfl (.inl rfl)) (pgs_cons (pg_name (i := 4) sc_P_moved.nd rfl (.inl rfl)) (pgs_cons (pg_name (i := 5) sc_P_moved.nd rfl (.inl rfl)) pgs_nil))))) (fun _ _ _ _ _ => pts_nil) (fun _ _ _ _ _ => (pe_tup (pa_cons (pe_ix (ix_listK blkK) (pv 1) (pv 3) (fun _ _ => rfl)) (pa_cons (pv 4) (pa_cons (pe_ix (ix_listK blkK) (pv 1) (pv 5) (fun _ _ => rfl)) pa_nil)))))) (pss_one (ps_ret (C8.pe_mk c_Program hr (by decide) rfl (pa_cons (pe_fld (pv 0) rfl) (pa_cons (pe_lc (own := [("place", 6)]) rfl sc_P_moved.nd (pi_list (pe_fld (pv 0) rfl)) (blkOk_by (own := [("place", 6)]) (N := N_P_moved) (sc := C8.fnScope s_P_moved) (by decide +kernel)) (fun _ _ _ _ _ => (pg_name (i := 6) sc_P_moved.nd rfl (.inl rfl))) (fun _ _ _ _ _ => pts_nil) (fun _ _ _ _ _ => (pe_ix (ix_listK blkK) (pv 1) (pv 6) (fun _ _ => rfl)))) (pa_cons (pv 2) pa_nil))))))), ?_⟩
  have n : Now ⟨F, none⟩ [] H (KAnd (KV (At (zPr C) x) v) (KV (At (zL zI) o) v2)) H := Now.start (dmP hF) ⟨p, p2⟩
  have few := ok.ok.few
  refine seq_ (s_set n (EvP.is (y := x.ed.map fun e => (ordF o e.1, e.2.1, ordF o e.2.2)) (ev_lcD (S := zE) n.kn (ei_list (ev_fE T (ev_var rfl n.kn.1))) (by omega) (fun _ => true) (fun e => (ordF o e.1, e.2.1, ordF o e.2.2)) fun e f' H' u hc hb d e' k' hr => bnd_tup3 hr fun u1 u2 u3 h1 h2 h3 => ⟨rfl, et_yes, fun _ => ?_⟩) ?_) fun v3 H1 e1 n1 => ?_)
  · have he := ok.ok.e1 e hc
    exact ev_tup3 (R := zI) (S := zN) (T := zI) (ev_op (ev_var rfl k'.2) (ev_var (Φ := At zI e.1) rfl h1) (ru_ixL he.1.1 (ord_at ok he.1).1)) (ev_var rfl h2) (ev_op (ev_var rfl k'.2) (ev_var (Φ := At zI e.2.2) rfl h3) (ru_ixL he.2.1 (ord_at ok he.2).1))
  · rw [filter_yes]
  have raw : RawP x.pl (x.bg.map (ordF o)) (x.ed.map fun e => (ordF o e.1, e.2.1, ordF o e.2.2)) := by
    refine ⟨ok.ok.p1, by have := ok.ok.p9; omega, fun z => ok.ok.b0 (List.map_eq_nil_iff.mp z), fun y hy => ?_, fun e he => ?_, by rw [List.length_map]; omega, by rw [List.length_map]; omega⟩
    · obtain ⟨z, hz, rfl⟩ := List.mem_map.mp hy
      exact (ord_at ok (ok.ok.b1 z hz)).2
    · obtain ⟨z, hz, rfl⟩ := List.mem_map.mp he
      exact ⟨(ord_at ok (ok.ok.e1 z hz).1).2, (ord_at ok (ok.ok.e1 z hz).2).2⟩
  refine s_ret n1 (ev_make raw (ea_cons (ev_fP T (ev_var rfl n1.kn.1.1)) (ea_cons (EvP.is (y := x.bg.map (ordF o)) (ev_lcD (S := zI) n1.kn (ei_list (ev_fB T (ev_var rfl n1.kn.1.1))) (by omega) (fun _ => true) (ordF o) fun y f' H' u hc hb d e' k' hr => bnd_name ⟨rfl, et_yes, fun _ => ?_⟩) ?_) (ea_cons (ev_var rfl n1.kn.2) ea_nil)))) fun v4 H2 e2 n2 => ?_
  · have hy := ok.ok.b1 y hc
    exact ev_op (ev_var rfl k'.1.2) (ev_var (Φ := At zI y) rfl hr) (ru_ixL hy.1 (ord_at ok hy).1)
  · rw [filter_yes]
  · exact k v4 H2 n2.pure n2.kn.2
end
end FF
namespace FF
open PySem PySem.Spec PyProof.Rows L2
structure OkAdd (P Q : PD) : Prop where
  a : OkP P
  b : OkP Q
  p9 : P.pl + Q.pl ≤ 10
  few : P.ed.length + P.bg.length + (Q.ed.length + Q.bg.length) < 60
theorem raw_add {P Q : PD} (h : OkAdd P Q) : RawP (P.pl + Q.pl) (P.bg ++ Q.bg.map fun x => x + P.pl) (P.ed ++ Q.ed.map fun e => (e.1 + P.pl, e.2.1, e.2.2 + P.pl)) := by
  have p1 := h.a.p1
  have q1 := h.b.p1
  have p9 := h.p9
  have few := h.few
  refine ⟨by omega, by omega, fun z => h.a.b0 (List.append_eq_nil_iff.mp z).1, fun x hx => ?_, fun e he => ?_, by rw [List.length_append, List.length_map]; omega, by rw [List.length_append, List.length_map]; omega⟩
  · rcases List.mem_append.mp hx with hx | hx
    · have := h.a.b1 x hx
      exact ⟨this.1, by omega⟩
    · obtain ⟨y, hy, rfl⟩ := List.mem_map.mp hx
      have := h.b.b1 y hy
      exact ⟨by omega, by omega⟩
  · rcases List.mem_append.mp he with he | he
    · have := h.a.e1 e he
      exact ⟨⟨this.1.1, by omega⟩, this.2.1, by omega⟩
    · obtain ⟨y, hy, rfl⟩ := List.mem_map.mp he
      have := h.b.e1 y hy
      exact ⟨⟨by show 0 ≤ y.1 + P.pl; omega, by show y.1 + P.pl < P.pl + Q.pl; omega⟩, by show 0 ≤ y.2.2 + P.pl; omega, by show y.2.2 + P.pl < P.pl + Q.pl; omega⟩
section
variable {P : Program} {w : World} {K : PySem.W.Frag} {mg : Str → Option Value} {base : Heap} {C : Addr}
abbrev s_P_add : Stmt := inCls (topS 25) 17
abbrev N_P_add : List Str := ["self", "other", "many", "begins", "place", "edges", "m", "s", "n"]
abbrev P_P_add : List Str := ["self", "other"]
theorem sc_P_add : FnScope N_P_add P_P_add (C8.fnScope s_P_add) := C8.fnScope_by (by decide +kernel)
abbrev sp_padd (C : Addr) : Sp := SpP (ι := { x : PD × PD // OkAdd x.1 x.2 }) (fun x => ACons (At (zPr C) x.1.1) (ACons (At (zPr C) x.1.2) ANil)) (fun x => At (zPr C) (besideP x.1.1 x.1.2))
theorem ok_padd {f : Addr} {fd : FuncData} (m1 : mroFirst K C = true) (m2 : PySem.W.findIn K (.ref C) "__add__" = some (some (.ref f))) (m3 : PySem.W.isFn K (.ref f) = true) (F : C8.Fun K "__add__" "Program.__add__" s_P_add f fd) (b : L2.Binds K fd P_P_add []) (T : Txt K mg C) (c_Program : C8.Mak P w K mg base 5 "Program" C (sp_init C) []) :
    AddC P w K mg base 7 C (sp_padd C) := by
  refine ⟨f, fd, _, m1, m2, m3, C8.fn0 F sc_P_add (spP_len fun x G vs h => alS h fun _ h => alS h fun _ h => al0 h) (fun cdv A outer s H vs Q E hr h => ?_), b⟩
  obtain ⟨⟨⟨x, y⟩, ok⟩, F, hF, ⟨v, r, rfl, p, v2, r2, rfl, p2, rfl⟩, k⟩ := h
  have ok : OkAdd x y := ok
  have few := ok.few
  have hu := hu_of hr
  refine ⟨_, (pss_cons (ps_set (i := 2) sc_P_add.nd rfl (.inr rfl) (pe_fld (pv 0) rfl)) (pss_cons (ps_set (i := 3) sc_P_add.nd rfl (.inl rfl) (pe_op op_cat (pe_fld (pv 0) rfl) (pe_lc (own := [("place", 4)]) rfl sc_P_add.nd (pi_list (pe_fld (pv 1) rfl)) (blkOk_by (own := [("place", 4)]) (N := N_P_add) (sc := C8.fnScope s_P_add) (by decide +kernel)) (fun _ _ _ _ _ => (pg_name (i := 4) sc_P_add.nd rfl (.inl rfl))) (fun _ _ _ _ _ => pts_nil) (fun _ _ _ _ _ => (pe_op op_add (pv 4) (pv 2)))))) (pss_cons (ps_set (i := 5) sc_P_add.nd rfl (.inl rfl) (pe_op op_cat (pe_fld (pv 0) rfl) (pe_lc (own := [("m", 6), ("s", 7), ("n", 8)]) rfl sc_P_add.nd (pi_list (pe_fld (pv 1) rfl)) (blkOk_by (own := [("m", 6), ("s", 7), ("n", 8)]) (N := N_P_add) (sc := C8.fnScope s_P_add) (by decide +kernel)) (fun _ _ _ _ _ => (pg_tupK (n := 3) blkK (by rfl) (pgs_cons (pg_name (i := 6) sc_P_add.nd rfl (.inl rfl)) (pgs_cons (pg_name (i := 7) sc_P_add.nd rfl (.inl rfl)) (pgs_cons (pg_name (i := 8) sc_P_add.nd rfl (.inl rfl)) pgs_nil))))) (fun _ _ _ _ _ => pts_nil) (fun _ _ _ _ _ => (pe_tup (pa_cons (pe_op op_add (pv 6) (pv 2)) (pa_cons (pv 7) (pa_cons (pe_op op_add (pv 8) (pv 2)) pa_nil)))))))) (pss_one (ps_ret (C8.pe_mk c_Program hr (by decide) rfl (pa_cons (pe_op op_add (pv 2) (pe_fld (pv 1) rfl)) (pa_cons (pv 3) (pa_cons (pv 5) pa_nil))))))))), ?_⟩
  have n : Now ⟨F, none⟩ [] H (KAnd (KV (At (zPr C) x) v) (KV (At (zPr C) y) v2)) H := Now.start (dmP hF) ⟨p, p2⟩
  refine seq_ (s_set n (ev_fP T (ev_var rfl n.kn.1)) fun v3 H1 e1 n1 => ?_)
  refine seq_ (s_set n1 (ev_op (ev_fB T (ev_var rfl n1.kn.1.1)) (EvP.is (y := y.bg.map fun z => z + x.pl) (ev_lcD (S := zI) n1.kn (ei_list (ev_fB T (ev_var rfl n1.kn.1.2))) (by omega) (fun _ => true) (fun z => z + x.pl) fun z f' H' u hc hb d e k' hr => bnd_name ⟨rfl, et_yes, fun _ => ev_op (ev_var rfl hr) (ev_var rfl k'.2) ru_add⟩) (by rw [filter_yes])) (ru_cat (by rw [List.length_map]; omega))) fun v4 H2 e2 n2 => ?_)
  refine seq_ (s_set n2 (ev_op (ev_fE T (ev_var rfl n2.kn.1.1.1)) (EvP.is (y := y.ed.map fun e => (e.1 + x.pl, e.2.1, e.2.2 + x.pl)) (ev_lcD (S := zE) n2.kn (ei_list (ev_fE T (ev_var rfl n2.kn.1.1.2))) (by omega) (fun _ => true) (fun e => (e.1 + x.pl, e.2.1, e.2.2 + x.pl)) fun z f' H' u hc hb d e k' hr => bnd_tup3 hr fun u1 u2 u3 h1 h2 h3 => ⟨rfl, et_yes, fun _ => ?_⟩) (by rw [filter_yes])) (ru_cat (by rw [List.length_map]; omega))) fun v5 H3 e3 n3 => ?_)
  · exact ev_tup3 (R := zI) (S := zN) (T := zI) (ev_op (ev_var (Φ := At zI z.1) rfl h1) (ev_var rfl k'.1.2) ru_add) (ev_var rfl h2) (ev_op (ev_var (Φ := At zI z.2.2) rfl h3) (ev_var rfl k'.1.2) ru_add)
  refine s_ret n3 (ev_make (raw_add ok) (ea_cons (ev_op (ev_var rfl n3.kn.1.1.2) (ev_fP T (ev_var rfl n3.kn.1.1.1.2)) ru_add) (ea_cons (ev_var rfl n3.kn.1.2) (ea_cons (ev_var rfl n3.kn.2) ea_nil)))) fun v6 H4 e4 n4 => ?_
  exact k v6 H4 n4.pure n4.kn.2
/-- two that are alike -/
def Alike (C : Addr) (a b : Addr) (H : Hp) : Prop := ∃ x : PD, zPr C H (.ref a) x ∧ zPr C H (.ref b) x
abbrev s_P_eq : Stmt := inCls (topS 25) 18
abbrev N_P_eq : List Str := ["self", "other"]
abbrev P_P_eq : List Str := ["self", "other"]
theorem sc_P_eq : FnScope N_P_eq P_P_eq (C8.fnScope s_P_eq) := C8.fnScope_by (by decide +kernel)
theorem ok_peq {f : Addr} {fd : FuncData} (F : C8.Fun K "__eq__" "Program.__eq__" s_P_eq f fd) (T : Txt K mg C) : FnOk P w K mg base C8.CX0 2 f fd P_P_eq (spEq (Alike C)) := by
  refine C8.fn0 F sc_P_eq (fun vs H Q E ⟨a, b, e, _⟩ => by rw [e]; rfl) (fun cdv A outer s H vs Q E hr h => ?_)
  obtain ⟨a, b, rfl, ⟨x, p, p2⟩, k⟩ := h
  have hu := hu_of hr
  refine ⟨_, (pss_cons (ps_if (PW.pt (pw_or (pt_not (pt_val (pe_callB (C8.call_isC T.isC) (by rfl) T.m_isinstance (by decide +kernel) (pa_cons (pv 1) (pa_cons (C8.pe_gc rfl T.g_Program) pa_nil))))) (pw_or1 (pt_cmpR op_ne (pe_fld (pv 0) rfl) (pe_fld (pv 1) rfl) (nomark _))))) (pss_one (ps_ret pe_bl)) pss_nil) (pss_one (ps_ret (pe_and (pe_cmpR (op_eqD hr.units) (pe_fld (pv 0) rfl) (pe_fld (pv 1) rfl) (nomark _)) (pe_one (pe_cmpR (op_eqD hr.units) (pe_fld (pv 0) rfl) (pe_fld (pv 1) rfl) (nomark _))))))), ?_⟩
  have n : Now ⟨[], none⟩ [] H (KAnd (KV (At (zPr C) x) (.ref a)) (KV (At (zPr C) x) (.ref b))) H := Now.start (dmP fun _ m => nomatch m) ⟨by rw [hid_nil]; exact p, by rw [hid_nil]; exact p2⟩
  refine (s_if1 n (et_or (a := false) (b := false) (et_not (a := true) (et_test1 (ev_cb (Φ := At zB true) (ea_cons (ev_var (Φ := At (zPr C) x) rfl n.kn.2) (ea_cons (Φ := IsV (.ref C)) (ev_c fun _ => rfl) ea_nil)) ?_))) fun _ => et_is (et_B1 (ev_op (ev_fP T (ev_var rfl n.kn.1)) (ev_fP T (ev_var rfl n.kn.2)) ru_neI)) (by simp)) (fun h => absurd h (by decide)) fun _ H1 e1 n1 => ?_)
  · intro H1 vs e d ⟨v, r, e1, ⟨i, dx, vp, vb, ve, e5, ha, _⟩, w, r2, e2, p2, e3⟩ Q q
    obtain rfl : r2 = [] := e3
    obtain rfl : w = .ref C := p2
    subst e5; subst e2
    exact ⟨i, dx, _, e1, hid_same _ _ ha, q _ _ (re.refl _) rfl⟩
  · refine s_ret n1 (ev_andV (a := true) (b := true) (EvP.is (ev_op (ev_fB T (ev_var rfl n1.kn.1)) (ev_fB T (ev_var rfl n1.kn.2)) ru_eqD) (by simp)) fun _ => EvP.is (ev_op (ev_fE T (ev_var rfl n1.kn.1)) (ev_fE T (ev_var rfl n1.kn.2)) ru_eqD) (by simp)) fun v H2 e2 n2 => ?_
    have : v = .bl true := n2.kn.2
    rw [this]
    exact k H2 n2.pure
end
end FF
namespace FF
open PySem
/-- the ways into n from places that are reached -/
noncomputable def wayP (P : PD) (n : Int) : List (Int × Str) := (into P n).filter fun p => decide (p.1 ∈ reachL P)
noncomputable def waysL (P : PD) : List (Int × List (Int × Str)) := (reachL P).map fun n => (n, wayP P n)
structure IsSim (A B : PD) (R : Int → Int → Prop) : Prop where
  a : ∀ {m n}, R m n → m ∈ reachL A
  b : ∀ {m n}, R m n → n ∈ reachL B
  bg : ∀ {m n}, R m n → m ∈ A.bg → n ∈ B.bg
  st : ∀ {m n}, R m n → ∀ k s, (k, s) ∈ wayP A m → ∃ l, (l, s) ∈ wayP B n ∧ R k l
/-- n follows m -/
def Fol (A B : PD) (m n : Int) : Prop := ∃ R, IsSim A B R ∧ R m n
theorem fol_sim (A B : PD) : IsSim A B (Fol A B) where
  a := fun ⟨R, h, r⟩ => h.a r
  b := fun ⟨R, h, r⟩ => h.b r
  bg := fun ⟨R, h, r⟩ => h.bg r
  st := fun ⟨R, h, r⟩ k s hk => let ⟨l, h1, h2⟩ := h.st r k s hk; ⟨l, h1, R, h, h2⟩
theorem valD_ways {P : PD} {n : Int} (h : n ∈ reachL P) : valD (waysL P) n = some (wayP P n) := by
  unfold waysL
  exact valD_map (ky := fun n => n) (fn := wayP P) (fun x _ y _ e => e) h
theorem ways_keys (P : PD) : (waysL P).map (·.1) = reachL P := by
  unfold waysL
  rw [List.map_map]
  exact List.map_id _
theorem reach_nodup (P : PD) : (reachL P).Nodup := asc_nodup (asc_cloL _ _)
theorem reach_len {P : PD} (h : OkP P) : (reachL P).length ≤ 60 := by
  have h1 := cloL_len (arcs P) P.bg
  have h2 := h.few
  unfold arcs at h1
  rw [List.length_map] at h1
  unfold reachL arcs
  omega
theorem into_len {P : PD} (n : Int) : (into P n).length ≤ P.ed.length := by
  unfold into
  rw [List.length_map]
  exact List.length_filter_le _ _
theorem way_len {P : PD} (n : Int) : (wayP P n).length ≤ P.ed.length := Nat.le_trans (List.length_filter_le _ _) (into_len n)
theorem mem_into {P : PD} {n k : Int} {s : Str} : (k, s) ∈ into P n ↔ (k, s, n) ∈ P.ed := by
  unfold into
  rw [List.mem_map]
  constructor
  · rintro ⟨⟨a, b, c⟩, h, e⟩
    obtain ⟨h1, h2⟩ := List.mem_filter.mp h
    have h2 : c = n := of_decide_eq_true h2
    injection e with e1 e2
    have e1 : a = k := e1
    have e2 : b = s := e2
    subst h2; subst e1; subst e2
    exact h1
  · exact fun h => ⟨(k, s, n), List.mem_filter.mpr ⟨h, decide_eq_true rfl⟩, rfl⟩
theorem mem_way {P : PD} {n k : Int} {s : Str} : (k, s) ∈ wayP P n ↔ (k, s, n) ∈ P.ed ∧ k ∈ reachL P := by
  unfold wayP
  rw [List.mem_filter, mem_into, decide_eq_true_eq]
theorem reach_bg {P : PD} {n : Int} (h : n ∈ P.bg) : n ∈ reachL P := mem_cloL.mpr (.base h)
theorem reach_step {P : PD} {m n : Int} {s : Str} (h : m ∈ reachL P) (e : (m, s, n) ∈ P.ed) : n ∈ reachL P := mem_cloL.mpr (.step (mem_cloL.mp h) (List.mem_map.mpr ⟨(m, s, n), e, rfl⟩))
theorem reach_rng {P : PD} (ok : OkP P) {n : Int} (h : n ∈ reachL P) : InR P.pl n := by
  cases mem_cloL.mp h with
  | base h => exact ok.b1 n h
  | step _ h =>
    obtain ⟨e, he, e2⟩ := List.mem_map.mp h
    injection e2 with _ e2
    rw [← e2]
    exact (ok.e1 e he).2
/-- the l with a way of that name -/
def fellowsL (wl : List (Int × List (Int × Str))) (n : Int) (s : Str) : List Int := (((valD wl n).getD []).filter fun p => decide (p.2 = s)).map (·.1)
theorem mem_fellows {P : PD} {n l : Int} {s : Str} (h : n ∈ reachL P) : l ∈ fellowsL (waysL P) n s ↔ (l, s) ∈ wayP P n := by
  unfold fellowsL
  rw [valD_ways h]
  show l ∈ ((wayP P n).filter _).map _ ↔ _
  rw [List.mem_map]
  constructor
  · rintro ⟨⟨a, b⟩, h1, h2⟩
    obtain ⟨h3, h4⟩ := List.mem_filter.mp h1
    have h4 : b = s := of_decide_eq_true h4
    have h2 : a = l := h2
    subst h4; subst h2
    exact h3
  · exact fun h1 => ⟨(l, s), List.mem_filter.mpr ⟨h1, decide_eq_true rfl⟩, rfl⟩
/-- the first way of m that n can't go -/
def firstWhy (mine its : List (Int × List (Int × Str))) (p : Int × Int) (rk : List (Int × Int)) : Option (Int × Str) := ((valD mine p.1).getD []).find? fun q => (fellowsL its p.2 q.2).all fun l => decide ((q.1, l) ∈ rk)
theorem firstWhy_no {A B : PD} {m n : Int} {rk : List (Int × Int)} (hm : m ∈ reachL A) (hn : n ∈ reachL B) (hf : ∀ p ∈ rk, ¬ Fol A B p.1 p.2) (h : (firstWhy (waysL A) (waysL B) (m, n) rk).isSome = true) : ¬ Fol A B m n := fun f => by
  unfold firstWhy at h
  rw [List.find?_isSome] at h
  obtain ⟨⟨k, s⟩, h1, h2⟩ := h
  rw [valD_ways hm] at h1
  obtain ⟨l, h3, h4⟩ := (fol_sim A B).st f k s h1
  rw [List.all_eq_true] at h2
  have := h2 l ((mem_fellows hn).mpr h3)
  exact hf (k, l) (of_decide_eq_true this) h4
/-- what is left is followed -/
theorem left_fol {A B : PD} {rk : List (Int × Int)} (h0 : ∀ m ∈ reachL A, ∀ n ∈ reachL B, m ∈ A.bg → n ∉ B.bg → (m, n) ∈ rk) (h1 : ∀ m ∈ reachL A, ∀ n ∈ reachL B, (m, n) ∉ rk → firstWhy (waysL A) (waysL B) (m, n) rk = none) {m n : Int} (hm : m ∈ reachL A) (hn : n ∈ reachL B) (h : (m, n) ∉ rk) : Fol A B m n := by
  refine ⟨fun m n => m ∈ reachL A ∧ n ∈ reachL B ∧ (m, n) ∉ rk, ⟨fun r => r.1, fun r => r.2.1, fun {m n} r hb => ?_, fun {m n} r k s hk => ?_⟩, hm, hn, h⟩
  · by_cases c : n ∈ B.bg
    · exact c
    · exact absurd (h0 m r.1 n r.2.1 hb c) r.2.2
  · have := h1 m r.1 n r.2.1 r.2.2
    unfold firstWhy at this
    rw [List.find?_eq_none] at this
    have h2 := this (k, s) (by rw [valD_ways r.1]; exact hk)
    rw [List.all_eq_true] at h2
    have h3 : ∃ l ∈ fellowsL (waysL B) n s, (k, l) ∉ rk := by
      refine Classical.byContradiction fun hno => h2 fun l hl => ?_
      rw [decide_eq_true_eq]
      exact Classical.byContradiction fun hn => hno ⟨l, hl, hn⟩
    obtain ⟨l, h4, h5⟩ := h3
    have h6 := (mem_fellows r.2.1).mp h4
    exact ⟨l, h6, (mem_way.mp hk).2, (mem_way.mp h6).2, h5⟩
end FF
namespace FF
open PySem PySem.Spec PyProof.Rows L2
theorem nx_ {t : TS} {D : Ends} {σ : L2.St} {H : Hp} {rt : VK} {bk ct : L2.St → Hp → Prop} (h : t D σ H) : Ends.nx ⟨t D, rt, bk, ct⟩ σ H := h
def compSc : Expr → Scope
  | .ListComp _ _ s _ => s
  | .SetComp _ _ s _ => s
  | .DictComp _ _ _ s _ => s
  | _ => default
def stE : Stmt → Expr
  | .Return (some e) _ => e
  | .Assign _ e _ => e
  | .Expr e _ => e
  | _ => .Name "x" ⟨0, 0, 0, 0⟩
def nthS (s : Stmt) (i : Nat) : Stmt := (C8.fnBody s).getD i (.Pass ⟨0, 0, 0, 0⟩)
/-- nothing changes; the result is new -/
def SpN {ι : Type} (Arg : ι → Hp → List V → Prop) (Res : ι → Hp → V → Prop) : Sp := fun vs H Q _ => ∃ (x : ι) (F : List Addr), (∀ a ∈ F, Loc H a) ∧ Arg x (hid F H) vs ∧ ∀ D H2, Same H H2 → H D = none → Res x (hid F H2) (.ref D) → Q (.ref D) H2
theorem spN_len {ι : Type} {Arg : ι → Hp → List V → Prop} {Res : ι → Hp → V → Prop} {n : Nat} (h : ∀ x G vs, Arg x G vs → vs.length = n) : ∀ vs H Q E, SpN Arg Res vs H Q E → vs.length = n :=
  fun vs H Q E ⟨x, F, _, a, _⟩ => h x _ vs a
/-- .. as an expression -/
def EvN (f : Fr) (te : TE) (σ : L2.St) (H : Hp) (Φ : Hp → V → Prop) : Prop := ∀ H1, re f.b H H1 → Dm f H1 → ∀ Q : VK, (∀ D H2, H1 D = none → re f.b H1 H2 → Φ (hid f.F H2) (.ref D) → Q (.ref D) H2) → te σ H1 Q
/-- a dict that is not locked -/
def zU {κ β γ : Type} (mk : List (κ × V) → HO) (enc : β → κ) (S : Rep γ) : Rep (List (β × γ)) := fun G v l => ∃ a kvs, v = .ref a ∧ G a = some (mk kvs) ∧ Paired (fun (kv : κ × V) (p : β × γ) => kv.1 = enc p.1 ∧ S G kv.2 p.2) kvs l
instance {κ β γ : Type} {mk : List (κ × V) → HO} {enc : β → κ} {S : Rep γ} [Stb S] : Stb (zU mk enc S) := ⟨fun u ⟨a, kvs, e, h, p⟩ => ⟨a, kvs, e, u _ _ h, Paired.mapP p fun _ _ q => ⟨q.1, Stb.up u q.2⟩⟩⟩
abbrev zUI {γ : Type} (S : Rep γ) : Rep (List (Int × γ)) := zU HO.dK kI S
abbrev zUP {γ : Type} (S : Rep γ) : Rep (List ((Int × Int) × γ)) := zU HO.dT kP S
theorem zU_zD {κ β γ : Type} {mk : List (κ × V) → HO} {enc : β → κ} {S : Rep γ} {G : Hp} {v : V} {l : List (β × γ)} (h : zU mk enc S G v l) : zD mk enc S G v l := by
  obtain ⟨a, kvs, e, ha, hp⟩ := h
  exact ⟨a, kvs, e, .inl ha, hp⟩
section
variable {f : Fr} {L : List Addr} {K K' : Hp → Prop} {H H0 H1 : Hp} {σ : L2.St} {te ta : TE} {tr : TA} {D : Ends} {Φ Φ' : Hp → V → Prop} {E : XK} {ι : Type} {Arg : ι → Hp → List V → Prop} {Res : ι → Hp → V → Prop}
theorem en_call {x : ι} (h : EvA f tr σ H (Arg x)) : EvN f (tCall (SpN Arg Res) [] E tr) σ H (Res x) := fun H1 e d Q q => h H1 e d _ fun vs H2 e2 p => by
  show SpN Arg Res (vs ++ []) H2 Q E
  rw [List.append_nil]
  exact ⟨x, f.F, (d.re e2).there, p, fun D H3 s hD k => q D H3 (e2.free hD) (e2.trans (re.same s)) k⟩
theorem EvN.ev (h : EvN f te σ H Φ) : EvP f te σ H Φ := fun H1 e d Q q => h H1 e d Q fun D H2 _ e2 p => q _ H2 e2 p
theorem EvN.imp (h : EvN f te σ H Φ) (i : ∀ G v, Φ G v → Φ' G v) : EvN f te σ H Φ' := fun H1 e d Q q => h H1 e d Q fun D H2 hD e2 p => q D H2 hD e2 (i _ _ p)
theorem EvN.re (h : EvN f te σ H Φ) (e : FF.re f.b H H1) : EvN f te σ H1 Φ := fun H2 e1 d Q q => h H2 (e.trans e1) d Q q
theorem EvD.evN {κ β γ : Type} {mk : List (κ × V) → HO} {enc : β → κ} {S : Rep γ} [Stb S] {l : List (β × γ)} (h : EvD f te σ H mk enc S l) : EvN f te σ H (At (zU mk enc S) l) := fun H1 e d Q q =>
  h H1 e d Q fun D H2 kvs hD e2 h2 hp => q D H2 hD e2 ⟨D, kvs, rfl, by rw [hid_out (d.new hD)]; exact h2, Paired.mapP hp fun _ _ z => ⟨z.1, Stb.up (hid_sub fun a m => List.mem_cons_of_mem _ m) z.2⟩⟩
/-- return a new thing -/
theorem s_retN [StH K] (n : Now f L H0 K H) (h : EvN f te σ H Φ) (k : ∀ d H1, H d = none → re f.b H H1 → Now f L H0 (KAnd K (KV Φ (.ref d))) H1 → D.rt (.ref d) H1) : tRet te D σ H :=
  h H (re.refl _) n.dm _ fun d H1 hd e p => k d H1 hd e ((n.go e).know ⟨(n.go e).kn, p⟩)
theorem s_setN {i : Nat} [StH K] (n : Now f L H0 K H) (h : EvN f te σ H Φ) (k : ∀ d H1, H d = none → re f.b H H1 → Now f L H0 (KAnd K (KV Φ (.ref d))) H1 → D.nx (σ.set i (some (.ref d))) H1) : tAsg te (gName i) D σ H :=
  h H (re.refl _) n.dm _ fun d H1 hd e p => k d H1 hd e ((n.go e).know ⟨(n.go e).kn, p⟩)
/-- a, b = two new things -/
theorem s_parN {i j : Nat} [StH K] [StP Φ] {tb : TE} (n : Now f L H0 K H) (h : EvN f ta σ H Φ) (h2 : EvN f tb σ H Φ')
    (k : ∀ d d2 H1 H2, H d = none → H2 d2 = none → re f.b H H2 → re f.b H2 H1 → H2 d ≠ none → Now f L H0 (KAnd (KAnd K (KV Φ (.ref d))) (KV Φ' (.ref d2))) H1 → D.nx ((σ.set i (some (.ref d))).set j (some (.ref d2))) H1) (ne : ∀ G v, Φ G v → ∀ a, v = .ref a → G a ≠ none) : tPar i j (tCons ta (tCons tb tNil)) D σ H :=
  h H (re.refl _) n.dm _ fun d H2 hd e p => h2 H2 e (n.dm.re e) _ fun d2 H1 hd2 e2 p2 => by
    have n1 := (n.go e).know (K' := KAnd K (KV Φ (.ref d))) ⟨(n.go e).kn, p⟩
    have there : H2 d ≠ none := fun z => by
      have h1 := ne _ _ p d rfl
      cases q : hid f.F H2 d with
      | none => exact h1 q
      | some o => rw [(hid_some q).2] at z; cases z
    exact ⟨_, _, rfl, k d d2 H1 H2 hd hd2 e e2 there ((n1.go e2).know ⟨(n1.go e2).kn, p2⟩)⟩
/-- a thing that was made here is changed, seen by all that is known -/
theorem Now.chg [LkH K] {d : Addr} {o : HO} (n : Now f L H0 K H) (h0 : H0 d = none) (hF : d ∉ f.F) (up : Up (hid f.F H) (hid f.F (L2.upd H d o))) (no : ∀ xs, o ≠ .tup xs := by intro _ z; cases z) : Now f L H0 K (L2.upd H d o) where
  rel := by
    have nb : ∀ {a : Addr}, f.b = some a → a ≠ d := fun e z => hF (z ▸ n.dm.bag _ e)
    have hid_d : ∀ a, a ≠ d → hid L (L2.upd H d o) a = hid L H a := fun a ne => by
      by_cases m : a ∈ L
      · rw [hid_in m, hid_in m]
      · rw [hid_out m, hid_out m, upd_ne ne]
    refine ⟨fun a u na h => ?_, fun a e => ⟨⟨fun z => ?_, fun z => ?_⟩, fun c z => ?_⟩⟩
    · have ne : a ≠ d := fun z => by rw [z, h0] at h; cases h
      rw [hid_d a ne]
      exact n.rel.1 a u na h
    · rw [hid_d a (nb e)]
      exact (n.rel.2 a e).1.1 z
    · have := (n.rel.2 a e).1.2 z
      unfold Loc at this ⊢
      rw [hid_d a (nb e)]
      exact this
    · have ne : c ≠ d := by
        rintro rfl
        obtain ⟨_, _, _, _, _, h2, _⟩ := z
        rw [h0] at h2
        cases h2
      obtain ⟨i, j, k, ns, h1, h2, r⟩ := (n.rel.2 a e).2 c z
      exact ⟨i, j, k, ns, by rw [hid_d a (nb e)]; exact h1, by rw [hid_d c ne]; exact h2, r⟩
  dm := dm_upd n.dm no
  lf := n.lf
  kn := LkH.up up n.kn
/-- a statement under a lock -/
theorem s_lock [LkH K] {tu : TS} {d : Addr} {u : HO} (n : Now f L H0 K H) (h0 : H0 d = none) (hF : d ∉ f.F) (du : DictO u) (hd : H d = some u)
    (k : ∀ od, Now f L H0 K (upd H d (.frz od u)) → tu ⟨fun σ' H' => H' d = some (.frz od u) ∧ D.nx σ' (upd H' d u), fun v H' => H' d = some (.frz od u) ∧ D.rt v (upd H' d u), fun σ' H' => H' d = some (.frz od u) ∧ D.bk σ' (upd H' d u), fun σ' H' => H' d = some (.frz od u) ∧ D.ct σ' (upd H' d u)⟩ σ (upd H d (.frz od u))) :
    tLock tu D σ H := ⟨d, u, hd, du.mut, fun od => k od (n.chg h0 hF (up_lock du hd))⟩
theorem Now.unlock [LkH K] {d : Addr} {od} {u : HO} (n : Now f L H0 K H) (h0 : H0 d = none) (hF : d ∉ f.F) (du : DictO u) (hd : H d = some (.frz od u)) : Now f L H0 K (L2.upd H d u) := n.chg h0 hF (up_unlock du hd) fun xs z => by
  rw [z] at du
  exact du
theorem lkd_of {κ β γ : Type} {mk : List (κ × V) → HO} [DMk mk] (inj : ∀ a b, mk a = mk b → a = b) {enc : β → κ} {S : Rep γ} {l : List (β × γ)} {G : Hp} {d : Addr} {od} {kvs : List (κ × V)} (h : zD mk enc S G (.ref d) l) (hd : G d = some (.frz od (mk kvs))) : Lkd mk enc S d l G := by
  obtain ⟨a, kv, e, ha, hp⟩ := h
  cases e
  refine ⟨od, kvs, hd, ?_⟩
  rcases ha with ha | ⟨od', ha⟩
  · rw [hd] at ha
    have := DMk.dict (mk := mk) kv
    rw [← Option.some.inj ha] at this
    exact this.elim
  · rw [hd] at ha
    injection ha with ha
    injection ha with _ ha
    rw [inj _ _ ha]
    exact hp
theorem dK_inj (a b : List (Key × V)) (h : HO.dK a = HO.dK b) : a = b := by injection h
theorem dT_inj (a b : List (List Key × V)) (h : HO.dT a = HO.dT b) : a = b := by injection h
end
end FF
namespace FF
open PySem PySem.Spec PyProof.Rows L2
section
variable {f : Fr} {L : List Addr} {K K' : Hp → Prop} {H H0 H1 : Hp} {σ : L2.St} {te ta tb : TE} {tr : TA} {D : Ends} {Φ Φ1 Φ2 : Hp → V → Prop} {Kf : PySem.W.Frag}
theorem tAsg_tup {g : TG} (h : tr σ H fun vs H1 => vs.length ≤ sizeLine ∧ ∀ p, H1 p = none → g (.ref p) σ (upd H1 p (.tup vs)) D.nx) : tAsg (tTup tr) g D σ H := h
/-- x, y = (a, b), the pair laid -/
theorem s_asgP {i j : Nat} [StH K] [StP Φ1] [StP Φ2] (n : Now f L H0 K H) (h1 : EvP f ta σ H Φ1) (h2 : EvP f tb σ H Φ2) (k : ∀ v w H1, re f.b H H1 → Now f L H0 (KAnd (KAnd K (KV Φ1 v)) (KV Φ2 w)) H1 → D.nx ((σ.set i (some v)).set j (some w)) H1) :
    tAsg (tTup (tCons ta (tCons tb tNil))) (gTup Kf 2 (gCons (gName i) (gCons (gName j) gNil))) D σ H :=
  tAsg_tup <| ea_cons h1 (ea_cons h2 ea_nil) H (re.refl _) n.dm _ fun vs H2 e2 ⟨u, r1, e3, p1, w, r2, e4, p2, e5⟩ => by
    obtain rfl : r2 = [] := e5
    subst e4; subst e3
    refine ⟨by show 2 ≤ sizeLine; decide, fun p hp => ⟨p, _, rfl, SqT.of upd_same, rfl, u, _, rfl, w, _, rfl, rfl, ?_⟩⟩
    have n1 := (n.go e2).know (K' := KAnd (KAnd K (KV Φ1 u)) (KV Φ2 w)) ⟨⟨(n.go e2).kn, p1⟩, p2⟩
    exact k u w _ (e2.trans (re.same (same_new hp))) (n1.go (re.same (same_new hp)))
/-- .. of two new things -/
theorem s_asgN {i j : Nat} {Φ' : Hp → V → Prop} [StH K] [StP Φ] [StP Φ'] (n : Now f L H0 K H) (h : EvN f ta σ H Φ) (h2 : EvN f tb σ H Φ') (ne : ∀ G v, Φ G v → ∀ a, v = .ref a → G a ≠ none)
    (k : ∀ d d2 H1, H d = none → H d2 = none → d ≠ d2 → re f.b H H1 → Now f L H0 (KAnd (KAnd K (KV Φ (.ref d))) (KV Φ' (.ref d2))) H1 → D.nx ((σ.set i (some (.ref d))).set j (some (.ref d2))) H1) :
    tAsg (tTup (tCons ta (tCons tb tNil))) (gTup Kf 2 (gCons (gName i) (gCons (gName j) gNil))) D σ H :=
  h H (re.refl _) n.dm _ fun d H2 hd e p => h2 H2 e (n.dm.re e) _ fun d2 H1 hd2 e2 p2 => by
    have n1 := (n.go e).know (K' := KAnd K (KV Φ (.ref d))) ⟨(n.go e).kn, p⟩
    have n2 := (n1.go e2).know (K' := KAnd (KAnd K (KV Φ (.ref d))) (KV Φ' (.ref d2))) ⟨(n1.go e2).kn, p2⟩
    have apart : d ≠ d2 := fun z => by
      have h1 := ne _ _ p d rfl
      cases q : hid f.F H2 d with
      | none => exact h1 q
      | some o =>
        have := (hid_some q).2
        rw [z, hd2] at this
        cases this
    refine ⟨by show 2 ≤ sizeLine; decide, fun p hp => ⟨p, _, rfl, SqT.of upd_same, rfl, _, _, rfl, _, _, rfl, rfl, ?_⟩⟩
    exact k d d2 _ hd (e.free hd2) apart ((e.trans e2).trans (re.same (same_new hp))) (n2.go (re.same (same_new hp)))
theorem ra_lenDT {β γ : Type} {enc : β → List Key} {S : Rep γ} {l : List (β × γ)} : RuA f rLenT H (ACons (At (zU HO.dT enc S) l) ANil) (At zI (l.length : Int)) := fun H1 vs e d ⟨v, r, e1, p, e2⟩ Q q => by
  obtain rfl : r = [] := e2
  obtain ⟨a, kvs, rfl, ha, hp⟩ := p
  refine ⟨a, kvs, e1, hid_same _ _ ha, q _ H1 (re.refl _) ?_⟩
  show V.int _ = V.int _
  rw [Paired.length hp]
theorem ev_any (h : EvP f te σ H Φ) : EvP f te σ H (At zAny ()) := h.imp fun _ _ _ => trivial
end
end FF
namespace FF
open PySem PySem.Spec PyProof.Rows L2
theorem ru_inDb {f : Fr} {H : Hp} {Kf : PySem.W.Frag} {α : Type} {R : Rep α} [Deep R] [Flat1 R] [DecidableEq α] {x : α} {l : List α} {b : Bool} (hb : b = true ↔ x ∈ l) : Ru2 f (rInD Kf) H (At R x) (At (zL R) l) (At zB b) := by
  have e : decide (x ∈ l) = b := Bool.eq_iff_iff.mpr (decide_eq_true_iff.trans hb.symm)
  rw [← e]
  exact ru_inD
theorem ru_notInDb {f : Fr} {H : Hp} {Kf : PySem.W.Frag} {α : Type} {R : Rep α} [Deep R] [Flat1 R] [DecidableEq α] {x : α} {l : List α} {b : Bool} (hb : b = true ↔ x ∉ l) : Ru2 f (rNotInD Kf) H (At R x) (At (zL R) l) (At zB b) := by
  have e : (!decide (x ∈ l)) = b := Bool.eq_iff_iff.mpr (by rw [hb, Bool.not_eq_true', decide_eq_false_iff_not])
  rw [← e]
  exact ru_notInD
theorem ru_eqDb {f : Fr} {H : Hp} {Kf : PySem.W.Frag} {α : Type} {R : Rep α} [Deep R] [DecidableEq α] {x y : α} {b : Bool} (hb : b = true ↔ x = y) : Ru2 f (rEqD Kf) H (At R x) (At R y) (At zB b) := by
  have e : decide (x = y) = b := Bool.eq_iff_iff.mpr (decide_eq_true_iff.trans hb.symm)
  rw [← e]
  exact ru_eqD
theorem ru_neDb {f : Fr} {H : Hp} {Kf : PySem.W.Frag} {α : Type} {R : Rep α} [Deep R] [DecidableEq α] {x y : α} {b : Bool} (hb : b = true ↔ x ≠ y) : Ru2 f (rNeD Kf) H (At R x) (At R y) (At zB b) := by
  have e : (!decide (x = y)) = b := Bool.eq_iff_iff.mpr (by rw [hb, Bool.not_eq_true', decide_eq_false_iff_not])
  rw [← e]
  exact ru_neD
end FF
namespace FF
open PySem PySem.Spec PyProof.Rows L2
/-- ways by place -/
abbrev WayD := List (Int × List (Int × Str))
abbrev zW : Rep WayD := zDI (zL zPN)
def OkW (wl : WayD) : Prop := ∀ p ∈ wl, p.2.length ≤ 1000
theorem okW_ways {P : PD} (h : OkP P) : OkW (waysL P) := fun p hp => by
  unfold waysL at hp
  obtain ⟨n, _, rfl⟩ := List.mem_map.mp hp
  have h1 := way_len (P := P) n
  have h2 := h.few
  show (wayP P n).length ≤ 1000
  omega
theorem valD_mem {β γ : Type} [DecidableEq β] {l : List (β × γ)} {b : β} {x : γ} (h : valD l b = some x) : (b, x) ∈ l := by
  induction l with
  | nil => cases h
  | cons p l ih =>
    rw [valD_cons] at h
    by_cases e : p.1 = b
    · rw [if_pos e] at h
      cases h
      rw [← e]
      exact List.mem_cons_self
    · rw [if_neg e] at h
      exact List.mem_cons_of_mem _ (ih h)
theorem valD_some {β γ : Type} [DecidableEq β] {l : List (β × γ)} {b : β} (h : b ∈ l.map (·.1)) : ∃ x, valD l b = some x := Option.isSome_iff_exists.mp (valD_isSome.mpr h)
section
variable {P : Program} {w : World} {K : PySem.W.Frag} {mg : Str → Option Value} {base : Heap} {C : Addr}
abbrev s_need_place : Stmt := topS 13
abbrev N_need_place : List Str := ["program", "place"]
abbrev P_need_place : List Str := ["program", "place"]
theorem sc_need_place : FnScope N_need_place P_need_place (C8.fnScope s_need_place) := C8.fnScope_by (by decide +kernel)
abbrev sp_need_place (C : Addr) : Sp := SpP (ι := InPl) (fun x => ACons (At (zPr C) x.1.1) (ACons (At zI x.1.2) ANil)) (fun _ => IsV .non)
theorem ok_need_place {f : Addr} {fd : FuncData} (F : C8.Def K mg "need_place" s_need_place f fd) (b : L2.Binds K fd P_need_place []) (T : Txt K mg C) (c_places : ProC P w K mg base 1 C "places" (sp_places C)) (c_is_number : C8.Cal P w K mg base 2 "is_number" sp_is_number []) : C8.Cal P w K mg base 3 "need_place" (sp_need_place C) [] := by
  refine C8.cal0 F b .nil sc_need_place (spP_len fun x G vs h => alS h fun _ h => alS h fun _ h => al0 h) (fun cdv A outer s H vs Q E hr h => ?_)
  obtain ⟨⟨⟨x, i⟩, hi⟩, F, hF, ⟨v, r, rfl, p, v2, r2, rfl, p2, rfl⟩, k⟩ := h
  have hu := hu_of hr
  refine ⟨_, (pss_one (ps_if (pt_not (pt_val (C8.pe_c c_is_number hr (by decide) rfl (pa_cons (pe_pr c_places hr (by decide) (pv 0)) (pa_cons (pv 1) pa_nil))))) (pss_one ps_never) pss_nil)), ?_⟩
  have n : Now ⟨F, none⟩ [] H (KAnd (KV (At (zPr C) x) v) (KV (At zI i) v2)) H := Now.start (dmP hF) ⟨p, p2⟩
  refine s_if n (et_is (b := false) (et_not (et_test1 (ev_call (x := (x.pl, i)) (ea_cons (ev_prop (x := x) (ev_var (Φ := At (zPr C) x) rfl n.kn.1) ins_at fun G v h => ⟨v, [], rfl, h, rfl⟩) (ea_cons (ev_var rfl n.kn.2) ea_nil))))) ?_) (fun h => absurd h (by decide)) fun _ H1 e1 n1 => ?_
  · have hi : InR x.pl i := hi
    rw [decide_eq_true hi.1, decide_eq_true hi.2]; rfl
  · exact k .non H1 n1.pure rfl
abbrev s_ways_in : Stmt := topS 15
abbrev N_ways_in : List Str := ["program", "reached", "known", "place", "k", "name"]
abbrev P_ways_in : List Str := ["program"]
theorem sc_ways_in : FnScope N_ways_in P_ways_in (C8.fnScope s_ways_in) := C8.fnScope_by (by decide +kernel)
abbrev sp_ways_in (C : Addr) : Sp := SpN (ι := PDo) (fun x => ACons (At (zPr C) x.1) ANil) (fun x => At (zUI (zL zPN)) (waysL x.1))
theorem ok_ways_in {f : Addr} {fd : FuncData} (F : C8.Def K mg "ways_in" s_ways_in f fd) (b : L2.Binds K fd P_ways_in []) (T : Txt K mg C) (c_reached : C8.Met P w K mg base 2 C "reached" (sp_reached C) []) (c_into : C8.Met P w K mg base 2 C "into" (sp_into C) []) : C8.Cal P w K mg base 3 "ways_in" (sp_ways_in C) [] := by
  refine C8.cal0 F b .nil sc_ways_in (spN_len fun x G vs h => alS h fun _ h => al0 h) (fun cdv A outer s H vs Q E hr h => ?_)
  obtain ⟨⟨x, ok⟩, F, hF, ⟨v, r, rfl, p, rfl⟩, k⟩ := h
  have hu := hu_of hr
  refine ⟨_, (pss_cons (ps_set (i := 1) sc_ways_in.nd rfl (.inl rfl) (C8.pe_mt0 c_reached hr (by decide) (pv 0))) (pss_cons (ps_set (i := 2) sc_ways_in.nd rfl (.inr rfl) (pe_dcG (own := [("place", 3)]) (o0 := .dK []) (.inl rfl) hu rfl sc_ways_in.nd (pi_list (pv 1)) (blkOk_by (own := [("place", 3)]) (N := N_ways_in) (sc := C8.fnScope s_ways_in) (by decide +kernel)) (fun _ _ _ _ _ => (pg_name (i := 3) sc_ways_in.nd rfl (.inl rfl))) (fun _ _ _ _ _ => pts_nil) (fun _ _ _ _ _ => (pv 3)) (fun _ _ _ _ _ => pe_bl))) (pss_one (ps_ret (pe_dcG (own := [("place", 3)]) (o0 := .dK []) (.inl rfl) hu rfl sc_ways_in.nd (pi_list (pv 1)) (blkOk_by (own := [("place", 3)]) (N := N_ways_in) (sc := C8.fnScope s_ways_in) (by decide +kernel)) (fun _ _ _ _ _ => (pg_name (i := 3) sc_ways_in.nd rfl (.inl rfl))) (fun _ _ _ _ _ => pts_nil) (fun _ _ _ _ _ => (pv 3)) (fun _ _ _ _ _ => (pe_lc (own := [("k", 4), ("name", 5)]) rfl sc_ways_in.nd (pi_listK blkK (C8.pe_mt c_into hr (by decide) (pv 0) (pa_cons (pv 3) pa_nil))) (blkOk_by (own := [("k", 4), ("name", 5)]) (N := N_ways_in) (sc := (relS (compSc (stE (nthS s_ways_in 2))) (C8.fnScope s_ways_in))) (by decide +kernel)) (fun _ _ _ _ _ => (pg_tupK (n := 2) blkK2 (by rfl) (pgs_cons (pg_name (i := 4) sc_ways_in.nd rfl (.inl rfl)) (pgs_cons (pg_name (i := 5) sc_ways_in.nd rfl (.inl rfl)) pgs_nil)))) (fun _ _ _ _ _ => (pts_one (pt_cmp (pc_din hu (pv 4) (pv 2))))) (fun _ _ _ _ _ => (pe_tup (pa_cons (pv 4) (pa_cons (pv 5) pa_nil))))))))))), ?_⟩
  have n : Now ⟨F, none⟩ [] H (KV (At (zPr C) x) v) H := Now.start (dmP hF) p
  have rl := reach_len ok
  have few := ok.few
  refine seq_ (s_set n (ev_meth (x := (⟨x, ok⟩ : PDo)) (ev_var (Φ := At (zPr C) x) rfl n.kn) (ins_of rfl) ea_nil fun G v vs h1 h2 => ⟨v, vs, rfl, h1, h2⟩) fun v2 H1 e1 n1 => ?_)
  refine seq_ (s_set n1 (EvD.evP (ed_dc (mk := HO.dK) (enc := kI) (KR := zI) (S := zB) put_I n1.kn (ei_list (R := zI) (ev_var (v := v2) rfl n1.kn.2)) (by show (reachL x).length ≤ 100000; omega) (fun _ => true) (fun y => y) (fun _ => true) (by rw [filter_yes, map_same]; exact reach_nodup x) (fun y f' H2 u hx hb d e k' hr' => bnd_name ⟨rfl, et_yes, fun _ => ⟨ev_var rfl hr', ev_bl⟩⟩))) fun v3 H2 e2 n2 => ?_)
  have kmem : ∀ y : Int, (valD (((reachL x).filter fun _ => true).map fun y => (y, true)) y).isSome = decide (y ∈ reachL x) := fun y => by
    refine Bool.eq_iff_iff.mpr ?_
    rw [valD_isSome, filter_yes, List.map_map, decide_eq_true_eq]
    exact ⟨fun h => by simpa using h, fun h => by simpa using h⟩
  refine nx_ ?_
  refine s_retN (Φ := At (zUI (zL zPN)) (waysL x)) n2 ?_ fun d H3 hd e3 n3 => ?_
  · have he : waysL x = ((reachL x).filter fun _ => true).map fun y => (y, wayP x y) := by rw [filter_yes]; rfl
    rw [he]
    refine EvD.evN (ed_dc (mk := HO.dK) (enc := kI) (KR := zI) (S := zL zPN) put_I n2.kn (ei_list (R := zI) (ev_var (v := v2) rfl n2.kn.1.2)) (by show (reachL x).length ≤ 100000; omega) (fun _ => true) (fun y => y) (wayP x) (by rw [filter_yes, map_same]; exact reach_nodup x) (fun y f' H2 u hx hb d e k' hr' => bnd_name ⟨rfl, et_yes, fun _ => ⟨ev_var rfl hr', ?_⟩⟩))
    have inr : InR x.pl y ∧ x.ed.length < 64 := ⟨reach_rng ok hx, by omega⟩
    refine EvP.is (y := wayP x y) (ev_lcD (S := zPN) (K := KAnd (KAnd (KAnd (KV (At (zPr C) x) v) (KV (At (zL zI) (reachL x)) v2)) (KV (At (zDI zB) (((reachL x).filter fun _ => true).map fun y => (y, true))) v3)) (KV (At zI y) u)) ⟨k', hr'⟩ (ei_list (ev_meth (x := (⟨(x, y), inr⟩ : { x : PD × Int // InR x.1.pl x.2 ∧ x.1.ed.length < 64 })) (ev_var (Φ := At (zPr C) x) rfl k'.1.1) (ins_of rfl) (ea_cons (ev_var (Φ := At zI y) rfl hr') ea_nil) fun G v vs h1 h2 => ⟨v, vs, rfl, h1, h2⟩)) ?_ (fun q => decide (q.1 ∈ reachL x)) (fun q => q) fun q f'' H3 u2 hq hb2 d2 e2 k2 hr2 => bnd_tup2 hr2 fun t u3 u4 _ _ h1 h2 => ⟨rfl, ?_, fun _ => ?_⟩) ?_
    · have := into_len (P := x) y
      show (into x y).length ≤ 100000
      omega
    · exact et_is (et_B1 (ev_din get_I (ev_var (Φ := At zI q.1) rfl h1) (ev_var rfl k2.1.2))) (kmem q.1)
    · exact ev_tup2 (R := zI) (S := zN) (ev_var rfl h1) (ev_var rfl h2)
    · rw [map_same]; rfl
  · exact k d H3 n3.pure (n2.out.free hd) n3.kn.2
abbrev s_fellows : Stmt := topS 16
abbrev N_fellows : List Str := ["ways", "place", "name", "k", "other"]
abbrev P_fellows : List Str := ["ways", "place", "name"]
theorem sc_fellows : FnScope N_fellows P_fellows (C8.fnScope s_fellows) := C8.fnScope_by (by decide +kernel)
abbrev FellI := { x : WayD × Int × Str // OkW x.1 ∧ x.2.1 ∈ x.1.map (·.1) }
abbrev sp_fellows : Sp := SpP (ι := FellI) (fun x => ACons (At zW x.1.1) (ACons (At zI x.1.2.1) (ACons (At zN x.1.2.2) ANil))) (fun x => At (zL zI) (fellowsL x.1.1 x.1.2.1 x.1.2.2))
theorem ok_fellows {f : Addr} {fd : FuncData} (F : C8.Def K mg "fellows" s_fellows f fd) (b : L2.Binds K fd P_fellows []) (T : Txt K mg C) : C8.Cal P w K mg base 1 "fellows" sp_fellows [] := by
  refine C8.cal0 F b .nil sc_fellows (spP_len fun x G vs h => alS h fun _ h => alS h fun _ h => alS h fun _ h => al0 h) (fun cdv A outer s H vs Q E hr h => ?_)
  obtain ⟨⟨⟨wl, n0, s0⟩, ow, hn⟩, F, hF, ⟨v, r, rfl, p, v2, r2, rfl, p2, v3, r3, rfl, p3, rfl⟩, k⟩ := h
  have hu := hu_of hr
  refine ⟨_, (pss_one (ps_ret (pe_lc (own := [("k", 3), ("other", 4)]) rfl sc_fellows.nd (pi_list (pe_dget hu (pv 0) (pv 1) (fun _ _ => rfl))) (blkOk_by (own := [("k", 3), ("other", 4)]) (N := N_fellows) (sc := C8.fnScope s_fellows) (by decide +kernel)) (fun _ _ _ _ _ => (pg_tupK (n := 2) blkK (by rfl) (pgs_cons (pg_name (i := 3) sc_fellows.nd rfl (.inl rfl)) (pgs_cons (pg_name (i := 4) sc_fellows.nd rfl (.inl rfl)) pgs_nil)))) (fun _ _ _ _ _ => (pts_one (pt_cmpR op_eq (pv 4) (pv 2) (nomark _)))) (fun _ _ _ _ _ => (pv 3))))), ?_⟩
  have n : Now ⟨F, none⟩ [] H (KAnd (KV (At zW wl) v) (KAnd (KV (At zI n0) v2) (KV (At zN s0) v3))) H := Now.start (dmP hF) ⟨p, p2, p3⟩
  obtain ⟨l, hl⟩ := valD_some (l := wl) (b := n0) hn
  refine s_ret n (EvP.is (y := fellowsL wl n0 s0) (ev_lcD (S := zI) n.kn (ei_list (ev_dget get_I (ev_var rfl n.kn.1) (ev_var rfl n.kn.2.1) hl)) ?_ (fun q => decide (q.2 = s0)) (fun q => q.1) fun q f' H2 u hq hb d e k' hr' => bnd_tup2 hr' fun t u3 u4 _ _ h1 h2 => ⟨rfl, et_B1 (ev_op (ev_var rfl (nm_str h2)) (ev_var rfl (nm_str k'.2.2)) ru_eqS), fun _ => ev_var rfl h1⟩) ?_) fun v H2 e2 n2 => ?_
  · have := ow _ (valD_mem hl)
    show l.length ≤ 100000
    have h1 : l.length ≤ 1000 := this
    omega
  · unfold fellowsL
    rw [hl]
    rfl
  · exact k v H2 n2.pure n2.kn.2
end
end FF
namespace FF
open PySem PySem.Spec PyProof.Rows L2
theorem find_take {α : Type} {p : α → Bool} {l : List α} {i : Nat} {x : α} (h : l[i]? = some x) (no : (l.take i).find? p = none) : l.find? p = if p x = true then some x else (l.drop (i + 1)).find? p := by
  have e : l = l.take i ++ (x :: l.drop (i + 1)) := by
    have := List.take_append_drop i l
    rw [List.drop_eq_getElem_cons (List.getElem?_eq_some_iff.mp h).1, (List.getElem?_eq_some_iff.mp h).2] at this
    exact this.symm
  conv => lhs; rw [e]
  rw [List.find?_append, no, List.find?_cons]
  cases p x <;> simp
section
variable {P : Program} {w : World} {K : PySem.W.Frag} {mg : Str → Option Value} {base : Heap} {C : Addr}
abbrev s_first_why : Stmt := topS 17
abbrev N_first_why : List Str := ["mine", "its", "pair", "ranks", "m", "n", "k", "name", "l"]
abbrev P_first_why : List Str := ["mine", "its", "pair", "ranks"]
theorem sc_first_why : FnScope N_first_why P_first_why (C8.fnScope s_first_why) := C8.fnScope_by (by decide +kernel)
structure WhyI where
  mine : WayD
  its : WayD
  pair : Int × Int
  rk : List ((Int × Int) × Unit)
  o1 : OkW mine
  o2 : OkW its
  k1 : pair.1 ∈ mine.map (·.1)
  k2 : pair.2 ∈ its.map (·.1)
abbrev sp_first_why : Sp := SpP (ι := WhyI) (fun x => ACons (At zW x.mine) (ACons (At zW x.its) (ACons (At zP2 x.pair) (ACons (At (zDP zAny) x.rk) ANil)))) (fun x => At (zO zPN) (firstWhy x.mine x.its x.pair (x.rk.map (·.1))))
theorem ok_first_why {f : Addr} {fd : FuncData} (F : C8.Def K mg "first_why" s_first_why f fd) (b : L2.Binds K fd P_first_why []) (T : Txt K mg C) (c_fellows : C8.Cal P w K mg base 1 "fellows" sp_fellows []) : C8.Cal P w K mg base 2 "first_why" sp_first_why [] := by
  refine C8.cal0 F b .nil sc_first_why (spP_len fun x G vs h => alS h fun _ h => alS h fun _ h => alS h fun _ h => alS h fun _ h => al0 h) (fun cdv A outer s H vs Q E hr h => ?_)
  obtain ⟨⟨mine, its, ⟨m, n0⟩, rk, o1, o2, k1, k2⟩, F, hF, ⟨v, r, rfl, p, v2, r2, rfl, p2, v3, r3, rfl, p3, v4, r4, rfl, p4, rfl⟩, k⟩ := h
  have hu := hu_of hr
  refine ⟨_, (pss_cons (ps_asg (pv 2) (pg_tup rfl (pgs_cons (pg_name (i := 4) sc_first_why.nd rfl (.inl rfl)) (pgs_cons (pg_name (i := 5) sc_first_why.nd rfl (.inl rfl)) pgs_nil)))) (pss_cons (ps_for PassesOwn.never rfl (pi_list (pe_dget hu (pv 0) (pv 4) (fun _ _ => rfl))) (pg_tup rfl (pgs_cons (pg_name (i := 6) sc_first_why.nd rfl (.inr rfl)) (pgs_cons (pg_name (i := 7) sc_first_why.nd rfl (.inl rfl)) pgs_nil))) (pss_one (ps_if (pt_val (pe_callB (cr_all rfl) (by rfl) T.m_all (by decide +kernel) (pa_cons (pe_lc (own := [("l", 8)]) rfl sc_first_why.nd (pi_list (C8.pe_c c_fellows hr (by decide) rfl (pa_cons (pv 1) (pa_cons (pv 5) (pa_cons (pv 7) pa_nil))))) (blkOk_by (own := [("l", 8)]) (N := N_first_why) (sc := C8.fnScope s_first_why) (by decide +kernel)) (fun _ _ _ _ _ => (pg_name (i := 8) sc_first_why.nd rfl (.inl rfl))) (fun _ _ _ _ _ => pts_nil) (fun _ _ _ _ _ => (pe_cmp (pc_din hu (pe_tup (pa_cons (pv 6) (pa_cons (pv 8) pa_nil))) (pv 3)) (by rfl)))) pa_nil))) (pss_one (ps_ret (pe_tup (pa_cons (pv 6) (pa_cons (pv 7) pa_nil))))) pss_nil))) (pss_one (ps_ret pe_non)))), ?_⟩
  have n : Now ⟨F, none⟩ [] H (KAnd (KAnd (KV (At zW mine) v) (KV (At zW its) v2)) (KAnd (KV (At zP2 (m, n0)) v3) (KV (At (zDP zAny) rk) v4))) H := Now.start (dmP hF) ⟨⟨p, p2⟩, p3, p4⟩
  obtain ⟨l, hl⟩ := valD_some (l := mine) (b := m) k1
  obtain ⟨l2, hl2⟩ := valD_some (l := its) (b := n0) k2
  have ll : l.length ≤ 1000 := o1 _ (valD_mem hl)
  have ll2 : l2.length ≤ 1000 := o2 _ (valD_mem hl2)
  refine seq_ (s_asg2 (R := zI) (S := zI) (x := (m, n0)) n (ev_var (v := v3) rfl n.kn.2.1) fun u w1 H1 e1 n1 => ?_)
  obtain rfl : u = .int m := n1.kn.1.2
  obtain rfl : w1 = .int n0 := n1.kn.2
  refine seq_ (s_for n1 (ei_list (R := zPN) (ev_dget get_I (ev_var (v := v) rfl n1.kn.1.1.1.1) (ev_var (Φ := At zI m) (v := .int m) rfl rfl) hl)) fun Kn H2 sKn e2 n2 => ?_)
  have e0 : firstWhy mine its (m, n0) (rk.map (·.1)) = l.find? fun q => (fellowsL its n0 q.2).all fun j => decide ((q.1, j) ∈ rk.map (·.1)) := by
    unfold firstWhy
    rw [hl]
    rfl
  refine ⟨fun i σ' H' => ∃ a b c, σ' = [some v, some v2, some v3, some v4, some (.int m), some (.int n0), a, b, c] ∧ Now ⟨F, none⟩ [] H (KAnd (KAnd (KAnd (KAnd (KAnd (KV (At zW mine) v) (KV (At zW its) v2)) (KAnd (KV (At zP2 (m, n0)) v3) (KV (At (zDP zAny) rk) v4))) (KV (At zI m) (.int m))) (KV (At zI n0) (.int n0))) Kn) H' ∧ ((l.take i).find? fun q => (fellowsL its n0 q.2).all fun j => decide ((q.1, j) ∈ rk.map (·.1))) = none, ⟨none, none, none, rfl, n2, rfl⟩, ?_, ?_, ?_⟩
  · rintro i σ' H' ⟨a, b, c, rfl, n3, _⟩
    exact ⟨n3.dm, n3.kn.2⟩
  · rintro i ⟨kk, ss⟩ u σ' H' H'' hx ⟨a, b, c, rfl, n3, no⟩ sm hu'
    have n4 := n3.go (re.same sm)
    refine bnd_tup2 (F := F) hu' (fun t u1 u2 _ _ h1 h2 => ?_) _ fun σ2 z => z
    obtain rfl : u1 = .int kk := h1
    obtain ⟨eu2, hs⟩ := id h2
    subst eu2
    have tk : l.take (i + 1) = l.take i ++ [(kk, ss)] := by
      rw [List.take_add_one, hx]; rfl
    have n5 := n4.know (K' := KAnd (KAnd (KAnd (KAnd (KAnd (KAnd (KV (At zW mine) v) (KV (At zW its) v2)) (KAnd (KV (At zP2 (m, n0)) v3) (KV (At (zDP zAny) rk) v4))) (KV (At zI m) (.int m))) (KV (At zI n0) (.int n0))) Kn) (KV (At zN ss) (.str ss))) ⟨n4.kn, h2⟩
    have inl : (fellowsL its n0 ss).length ≤ 100000 := by
      unfold fellowsL
      rw [hl2, List.length_map]
      have := List.length_filter_le (fun p : Int × Str => decide (p.2 = ss)) l2
      show (l2.filter _).length ≤ 100000
      omega
    refine s_if n5 (et_test1 (EvP.is (y := (fellowsL its n0 ss).all fun j => decide ((kk, j) ∈ rk.map (·.1))) (ev_cb (ea_cons (ev_lcD (S := zB) n5.kn (ei_list (ev_call (x := (⟨(its, n0, ss), o2, k2⟩ : FellI)) (ea_cons (ev_var (Φ := At zW its) (v := v2) rfl n5.kn.1.1.1.1.1.2) (ea_cons (ev_var (Φ := At zI n0) (v := .int n0) rfl rfl) (ea_cons (ev_var (Φ := At zN ss) (v := .str ss) rfl n5.kn.2) ea_nil))))) inl (fun _ => true) (fun j => decide ((kk, j) ∈ rk.map (·.1))) fun j f' H3 u hj hb d e k' hr' => bnd_name ⟨rfl, et_yes, fun _ => ?_⟩) ea_nil) ra_all) ?_)) (fun pt H3 e3 n6 => ?_) (fun pf H3 e3 n6 => ?_)
    · refine EvP.is (ev_din get_P (ev_tup2 (R := zI) (S := zI) (ev_var (Φ := At zI kk) (v := .int kk) rfl rfl) (ev_var (Φ := At zI j) rfl hr')) (ev_var (Φ := At (zDP zAny) rk) (v := v4) rfl k'.1.1.1.1.2.2)) ?_
      refine Bool.eq_iff_iff.mpr ?_
      rw [valD_isSome, decide_eq_true_eq]
    · rw [filter_yes, List.all_map]
      rfl
    · refine s_ret n6 (ev_tup2 (R := zI) (S := zN) (ev_var (Φ := At zI kk) (v := .int kk) rfl rfl) (ev_var (Φ := At zN ss) (v := .str ss) rfl n6.kn.2)) fun v7 H4 e4 n7 => ?_
      refine k v7 H4 n7.pure ?_
      show zO zPN _ v7 (firstWhy mine its (m, n0) (rk.map (·.1)))
      rw [e0, find_take hx no, if_pos pt.symm]
      exact n7.kn.2
    · refine ⟨_, _, _, rfl, ⟨n6.rel, n6.dm, n6.lf, n6.kn.1⟩, ?_⟩
      rw [tk, List.find?_append, no, List.find?_cons, ← pf]
      rfl
  · rintro σ' H' ⟨a, b, c, rfl, n3, no⟩
    rw [List.take_length] at no
    refine k .non H' n3.pure ?_
    show zO zPN _ .non (firstWhy mine its (m, n0) (rk.map (·.1)))
    rw [e0, no]
    exact rfl
end
end FF
namespace FF
open PySem PySem.Spec PyProof.Rows L2
theorem reach_ten {P : PD} (ok : OkP P) : (reachL P).length ≤ 10 := by
  have h := nodup_len (m := upto 10) (reach_nodup P) fun x hx => (by
    have h1 := reach_rng ok hx
    have h2 := ok.p9
    refine mem_upto.mpr ⟨h1.1, ?_⟩
    have h3 := h1.2
    show x < 10
    omega)
  rw [upto_length] at h
  exact h
/-- all pairs of places that are reached -/
noncomputable def pairsL (A B : PD) : List (Int × Int) := (reachL A).flatMap (row (fun _ => true) (fun _ => reachL B) (fun _ _ => true) fun m n => (m, n))
theorem row_all {α β δ : Type} {m : α → List δ} {fn : α → δ → β} {x : α} : row (fun _ => true) m (fun _ _ => true) fn x = (m x).map (fn x) := by
  unfold row
  rw [if_pos rfl, filter_yes]
theorem mem_pairs {A B : PD} {p : Int × Int} : p ∈ pairsL A B ↔ p.1 ∈ reachL A ∧ p.2 ∈ reachL B := by
  unfold pairsL
  rw [List.mem_flatMap]
  constructor
  · rintro ⟨m, hm, h⟩
    rw [row_all] at h
    obtain ⟨n, hn, rfl⟩ := List.mem_map.mp h
    exact ⟨hm, hn⟩
  · rintro ⟨h1, h2⟩
    exact ⟨p.1, h1, by rw [row_all]; exact List.mem_map.mpr ⟨p.2, h2, rfl⟩⟩
theorem nodup_pairs {A B : PD} : (pairsL A B).Nodup := by
  have key : ∀ l : List Int, l.Nodup → (l.flatMap (row (fun _ => true) (fun _ => reachL B) (fun _ _ => true) fun m n => (m, n))).Nodup := by
    intro l
    induction l with
    | nil => exact fun _ => List.nodup_nil
    | cons m l ih =>
      intro nd
      obtain ⟨h1, h2⟩ := List.nodup_cons.mp nd
      rw [List.flatMap_cons, row_all]
      refine List.nodup_append.mpr ⟨List.pairwise_map.mpr (List.Pairwise.imp (fun h e => h (by injection e)) (reach_nodup B)), ih h2, fun a ha b hb e => ?_⟩
      obtain ⟨n, _, rfl⟩ := List.mem_map.mp ha
      obtain ⟨m', hm', hb⟩ := List.mem_flatMap.mp hb
      rw [row_all] at hb
      obtain ⟨n', _, rfl⟩ := List.mem_map.mp hb
      injection e with e1 _
      exact h1 (e1 ▸ hm')
  exact key _ (reach_nodup A)
theorem pairs_len {A B : PD} (a : OkP A) (b : OkP B) : (pairsL A B).length ≤ 100 := by
  have h1 := reach_ten a
  have h2 := reach_ten b
  refine Nat.le_trans (flat_len (c := 10) fun x _ => ?_) (Nat.mul_le_mul_right 10 h1)
  rw [row_all, List.length_map]
  exact h2
/-- the pairs so far, one by one shown not to follow -/
structure Rnk (A B : PD) (rk : List (Int × Int)) : Prop where
  nd : rk.Nodup
  sub : ∀ p ∈ rk, p ∈ pairsL A B
  no : ∀ p ∈ rk, ¬ Fol A B p.1 p.2
  bg : ∀ m ∈ reachL A, ∀ n ∈ reachL B, m ∈ A.bg → n ∉ B.bg → (m, n) ∈ rk
theorem Rnk.len {A B : PD} {rk : List (Int × Int)} (h : Rnk A B rk) : rk.length ≤ (pairsL A B).length := nodup_len h.nd h.sub
/-- what a round adds -/
noncomputable def newR (A B : PD) (rk : List (Int × Int)) : List (Int × Int) := ((pairsL A B).filter fun p => !decide (p ∈ rk)).filter fun p => (firstWhy (waysL A) (waysL B) p rk).isSome
theorem mem_new {A B : PD} {rk : List (Int × Int)} {p : Int × Int} : p ∈ newR A B rk ↔ p ∈ pairsL A B ∧ p ∉ rk ∧ (firstWhy (waysL A) (waysL B) p rk).isSome = true := by
  unfold newR
  rw [List.mem_filter, List.mem_filter]
  simp [and_assoc]
theorem nodup_new {A B : PD} {rk : List (Int × Int)} : (newR A B rk).Nodup := List.Pairwise.filter _ (List.Pairwise.filter _ nodup_pairs)
theorem Rnk.next {A B : PD} {rk : List (Int × Int)} (h : Rnk A B rk) : Rnk A B (rk ++ newR A B rk) where
  nd := List.nodup_append.mpr ⟨h.nd, nodup_new, fun a ha b hb e => (mem_new.mp hb).2.1 (e ▸ ha)⟩
  sub := fun p hp => (List.mem_append.mp hp).elim (h.sub p) fun hp => (mem_new.mp hp).1
  no := fun p hp => (List.mem_append.mp hp).elim (h.no p) fun hp => by
    obtain ⟨h1, h2, h3⟩ := mem_new.mp hp
    obtain ⟨h4, h5⟩ := mem_pairs.mp h1
    exact firstWhy_no h4 h5 h.no h3
  bg := fun m hm n hn h1 h2 => List.mem_append_left _ (h.bg m hm n hn h1 h2)
theorem Rnk.done {A B : PD} {rk : List (Int × Int)} (h : Rnk A B rk) (e : newR A B rk = []) {m n : Int} : (m, n) ∈ rk ↔ m ∈ reachL A ∧ n ∈ reachL B ∧ ¬ Fol A B m n := by
  constructor
  · intro hm
    have := mem_pairs.mp (h.sub _ hm)
    exact ⟨this.1, this.2, h.no _ hm⟩
  · rintro ⟨h1, h2, h3⟩
    refine Classical.byContradiction fun h4 => h3 (left_fol h.bg (fun m hm n hn hmn => ?_) h1 h2 h4)
    cases q : firstWhy (waysL A) (waysL B) (m, n) rk with
    | none => rfl
    | some x =>
      have : (m, n) ∈ newR A B rk := mem_new.mpr ⟨mem_pairs.mpr ⟨hm, hn⟩, hmn, by rw [q]; rfl⟩
      rw [e] at this
      cases this
theorem key_ways {A : PD} {m : Int} (h : m ∈ reachL A) : m ∈ (waysL A).map (·.1) := by rw [ways_keys]; exact h
theorem ru_neg {f : Fr} {H : Hp} {i : Int} : Ru1 f (rU fun i => .int (-i)) H (At zI i) (At zI (-i)) := fun H1 u e d p Q q => ⟨i, p, q _ H1 (re.refl _) rfl⟩
theorem pN_ne {G : Hp} {v : V} {y : Int × Str} (h : zPN G v y) : v ≠ .non := by
  obtain ⟨a, _, _, rfl, _⟩ := h
  exact fun z => nomatch z
section
variable {P : Program} {w : World} {K : PySem.W.Frag} {mg : Str → Option Value} {base : Heap} {C : Addr}
abbrev s_ranks_of : Stmt := topS 18
abbrev N_ranks_of : List Str := ["one", "other", "mine", "its", "pairs", "m", "n", "ranks", "rank", "size", "whys", "pair", "why"]
abbrev P_ranks_of : List Str := ["one", "other"]
theorem sc_ranks_of : FnScope N_ranks_of P_ranks_of (C8.fnScope s_ranks_of) := C8.fnScope_by (by decide +kernel)
abbrev PD2 := { x : PD × PD // OkP x.1 ∧ OkP x.2 }
abbrev sp_ranks_of (C : Addr) : Sp := SpP (ι := PD2) (fun x => ACons (At (zPr C) x.1.1) (ACons (At (zPr C) x.1.2) ANil)) (fun x => Som (zDP zAny) fun rl => ∀ m n, (m, n) ∈ rl.map (·.1) ↔ m ∈ reachL x.1.1 ∧ n ∈ reachL x.1.2 ∧ ¬ Fol x.1.1 x.1.2 m n)
theorem ok_ranks_of {f : Addr} {fd : FuncData} (F : C8.Def K mg "ranks_of" s_ranks_of f fd) (b : L2.Binds K fd P_ranks_of []) (T : Txt K mg C) (c_ways_in : C8.Cal P w K mg base 3 "ways_in" (sp_ways_in C) []) (c_begins : C8.Met P w K mg base 1 C "begins" (sp_begins C) []) (c_first_why : C8.Cal P w K mg base 2 "first_why" sp_first_why []) :
    C8.Cal P w K mg base 4 "ranks_of" (sp_ranks_of C) [] := by
  refine C8.cal0 F b .nil sc_ranks_of (spP_len fun x G vs h => alS h fun _ h => alS h fun _ h => al0 h) (fun cdv A0 outer s H vs Q E hr h => ?_)
  obtain ⟨⟨⟨A, B⟩, oa, ob⟩, F, hF, ⟨v, r, rfl, p, v2, r2, rfl, p2, rfl⟩, kk⟩ := h
  have oa : OkP A := oa
  have ob : OkP B := ob
  have hu := hu_of hr
  refine ⟨_, (pss_cons (ps_asg (pe_tup (pa_cons (C8.pe_c c_ways_in hr (by decide) rfl (pa_cons (pv 0) pa_nil)) (pa_cons (C8.pe_c c_ways_in hr (by decide) rfl (pa_cons (pv 1) pa_nil)) pa_nil))) (pg_tup rfl (pgs_cons (pg_name (i := 2) sc_ranks_of.nd rfl (.inr rfl)) (pgs_cons (pg_name (i := 3) sc_ranks_of.nd rfl (.inr rfl)) pgs_nil)))) (pss_cons (ps_lock (ps_lock (ps_setLc2 (i := 4) (own := [("m", 5), ("n", 6)]) (vs1 := [6]) rfl sc_ranks_of.nd rfl rfl (sw_true rfl rfl rfl (by decide +kernel)) (pi_keys (pv 2)) (blkOk_by (own := [("m", 5), ("n", 6)]) (N := N_ranks_of) (sc := C8.fnScope s_ranks_of) (by decide +kernel)) (by decide) (fun _ _ _ _ _ => (pg_name (i := 5) sc_ranks_of.nd rfl (.inl rfl))) (fun _ _ _ _ _ => pts_nil) (fun _ _ _ _ _ => (pi_keys (pv 3))) (fun _ _ _ _ _ => (pg_name (i := 6) sc_ranks_of.nd rfl (.inl rfl))) (fun _ _ _ _ _ => pts_nil) (fun _ _ _ _ _ => (pe_tup (pa_cons (pv 5) (pa_cons (pv 6) pa_nil))))))) (pss_cons (ps_set (i := 7) sc_ranks_of.nd rfl (.inr rfl) (pe_dcG (own := [("m", 5), ("n", 6)]) (o0 := .dT []) (.inr rfl) hu rfl sc_ranks_of.nd (pi_list (pv 4)) (blkOk_by (own := [("m", 5), ("n", 6)]) (N := N_ranks_of) (sc := C8.fnScope s_ranks_of) (by decide +kernel)) (fun _ _ _ _ _ => (pg_tupK (n := 2) blkK (by rfl) (pgs_cons (pg_name (i := 5) sc_ranks_of.nd rfl (.inl rfl)) (pgs_cons (pg_name (i := 6) sc_ranks_of.nd rfl (.inl rfl)) pgs_nil)))) (fun _ _ _ _ _ => (pts_one (PW.pt (pw_and (pt_cmpR (op_in_seqK blkK) (pv 5) (C8.pe_mt0 c_begins hr (by decide) (pv 0)) (by rfl)) (pw_and1 (pt_cmpR (op_notIn_seqK blkK) (pv 6) (C8.pe_mt0 c_begins hr (by decide) (pv 1)) (by rfl))))))) (fun _ _ _ _ _ => (pe_tup (pa_cons (pv 5) (pa_cons (pv 6) pa_nil)))) (fun _ _ _ _ _ => (pe_tup (pa_cons pe_int (pa_cons pe_non pa_nil)))))) (pss_cons (ps_asg (pe_tup (pa_cons pe_int (pa_cons (pe_un un_neg pe_int) pa_nil))) (pg_tup rfl (pgs_cons (pg_name (i := 8) sc_ranks_of.nd rfl (.inr rfl)) (pgs_cons (pg_name (i := 9) sc_ranks_of.nd rfl (.inl rfl)) pgs_nil)))) (pss_cons (ps_while PassesOwn.never (pt_cmpR op_ne (pv 9) (pe_callB call_len_dT (by rfl) T.m_len (by decide +kernel) (pa_cons (pv 7) pa_nil)) (nomark _)) (pss_cons (ps_asg (pe_tup (pa_cons (pe_op op_add (pv 8) pe_int) (pa_cons (pe_callB call_len_dT (by rfl) T.m_len (by decide +kernel) (pa_cons (pv 7) pa_nil)) pa_nil))) (pg_tup rfl (pgs_cons (pg_name (i := 8) sc_ranks_of.nd rfl (.inr rfl)) (pgs_cons (pg_name (i := 9) sc_ranks_of.nd rfl (.inl rfl)) pgs_nil)))) (pss_cons (ps_setLc (i := 10) (own := [("pair", 11)]) rfl sc_ranks_of.nd rfl rfl (sw_true rfl rfl rfl (by decide +kernel)) (pi_list (pv 4)) (blkOk_by (own := [("pair", 11)]) (N := N_ranks_of) (sc := C8.fnScope s_ranks_of) (by decide +kernel)) (fun _ _ _ _ _ => (pg_name (i := 11) sc_ranks_of.nd rfl (.inl rfl))) (fun _ _ _ _ _ => (pts_one (pt_cmp (pc_dnotin hu (pv 11) (pv 7))))) (fun _ _ _ _ _ => (pe_tup (pa_cons (pv 11) (pa_cons (C8.pe_c c_first_why hr (by decide) rfl (pa_cons (pv 2) (pa_cons (pv 3) (pa_cons (pv 11) (pa_cons (pv 7) pa_nil))))) pa_nil))))) (pss_one (ps_expr (pe_bm PySem.F.plainAttrs_dict PySem.F.slot_dict_update PySem.F.type_dict_update (mt_updT hr.units) (pv 7) (pa_cons (pe_dcG (own := [("pair", 11), ("why", 12)]) (o0 := .dT []) (.inr rfl) hu rfl sc_ranks_of.nd (pi_list (pv 10)) (blkOk_by (own := [("pair", 11), ("why", 12)]) (N := N_ranks_of) (sc := C8.fnScope s_ranks_of) (by decide +kernel)) (fun _ _ _ _ _ => (pg_tupK (n := 2) blkK (by rfl) (pgs_cons (pg_name (i := 11) sc_ranks_of.nd rfl (.inl rfl)) (pgs_cons (pg_name (i := 12) sc_ranks_of.nd rfl (.inl rfl)) pgs_nil)))) (fun _ _ _ _ _ => (pts_one (pt_cmpR op_notN (pv 12) pe_non (nomark _)))) (fun _ _ _ _ _ => (pv 11)) (fun _ _ _ _ _ => (pe_tup (pa_cons (pv 8) (pa_cons (pv 12) pa_nil))))) pa_nil))))))) (pss_one (ps_ret (pv 7)))))))), ?_⟩
  have n : Now ⟨F, none⟩ [] H (KAnd (KV (At (zPr C) A) v) (KV (At (zPr C) B) v2)) H := Now.start (dmP hF) ⟨p, p2⟩
  have neU : ∀ {l : WayD} (G : Hp) (v : V), At (zUI (zL zPN)) l G v → ∀ a, v = .ref a → G a ≠ none := fun G v ⟨a, kvs, e, h, _⟩ a' e' => by
    rw [e] at e'
    cases e'
    rw [h]
    exact fun z => nomatch z
  refine seq_ (s_asgN n (en_call (x := (⟨A, oa⟩ : PDo)) (ea_cons (ev_var (Φ := At (zPr C) A) rfl n.kn.1) ea_nil)) (en_call (x := (⟨B, ob⟩ : PDo)) (ea_cons (ev_var (Φ := At (zPr C) B) rfl n.kn.2) ea_nil)) neU fun d d2 H1 hd hd2 ne e1 n1 => ?_)
  have dF : d ∉ F := n.dm.new hd
  have d2F : d2 ∉ F := n.dm.new hd2
  obtain ⟨_, kv1, ed1, h1, _⟩ := id n1.kn.1.2
  cases ed1
  obtain ⟨_, kv2, ed2, h2, _⟩ := id n1.kn.2
  cases ed2
  have h1 : H1 d = some (.dK kv1) := hid_same _ _ h1
  have h2 : H1 d2 = some (.dK kv2) := hid_same _ _ h2
  have n1 : Now ⟨F, none⟩ [] H (KAnd (KAnd (KAnd (KV (At (zPr C) A) v) (KV (At (zPr C) B) v2)) (KV (At zW (waysL A)) (.ref d))) (KV (At zW (waysL B)) (.ref d2))) H1 := n1.know ⟨⟨n1.kn.1.1, zU_zD n1.kn.1.2⟩, zU_zD n1.kn.2⟩
  have du1 : DictO (.dK kv1) := trivial
  have du2 : DictO (.dK kv2) := trivial
  -- all pairs
  refine seq_ ?_
  refine s_lock n1 hd dF du1 h1 fun od1 n2 => ?_
  have h2' : upd H1 d (.frz od1 (.dK kv1)) d2 = some (.dK kv2) := by rw [upd_ne (Ne.symm ne)]; exact h2
  refine s_lock n2 hd2 d2F du2 h2' fun od2 n3 => ?_
  have f1 : upd (upd H1 d (.frz od1 (.dK kv1))) d2 (.frz od2 (.dK kv2)) d = some (.frz od1 (.dK kv1)) := by rw [upd_ne ne, upd_same]
  have n4 := n3.know (K' := KAnd (KAnd (KAnd (KAnd (KV (At (zPr C) A) v) (KV (At (zPr C) B) v2)) (KV (At zW (waysL A)) (.ref d))) (KV (At zW (waysL B)) (.ref d2))) (KAnd (Lkd HO.dK kI (zL zPN) d (waysL A)) (Lkd HO.dK kI (zL zPN) d2 (waysL B)))) ⟨n3.kn, lkd_of dK_inj n3.kn.1.2 (by rw [hid_out dF]; exact f1), lkd_of dK_inj n3.kn.2 (by rw [hid_out d2F]; exact upd_same)⟩
  have ten1 := reach_ten oa
  have ten2 := reach_ten ob
  refine s_set n4 (EvP.is (y := pairsL A B) (ev_lc2 (R := zI) (S := zP2) (R1 := zI) n4.kn (ei_keysI (ev_var (Φ := IsV (.ref d)) rfl rfl) n4.kn.2.1) (by rw [ways_keys]; omega) (fun _ => true) (fun _ => (waysL B).map (·.1)) (fun x _ => by rw [ways_keys]; omega) (fun _ _ => true) (fun m n => (m, n)) fun x f' H' u hx hb dm' e' k' hr' => bnd_name ⟨rfl, et_yes, fun _ => ⟨ei_keysI (ev_var (Φ := IsV (.ref d2)) rfl rfl) k'.2.2, fun y H'' u2 hy dm'' e'' k'' hr'' hr2 => bnd_name ⟨rfl, et_yes, fun _ => ev_tup2 (R := zI) (S := zI) (ev_var (Φ := At zI x) rfl hr'') (ev_var (Φ := At zI y) rfl hr2)⟩⟩⟩) ?_) fun v4 H2 e2 n5 => ?_
  · unfold pairsL
    rw [ways_keys, ways_keys]
  have g2 : H2 d2 = some (.frz od2 (.dK kv2)) := e2.keep (fun z => nomatch z) upd_same
  have g1 : H2 d = some (.frz od1 (.dK kv1)) := e2.keep (fun z => nomatch z) f1
  have n6 := n5.know (K' := KAnd (KAnd (KAnd (KAnd (KV (At (zPr C) A) v) (KV (At (zPr C) B) v2)) (KV (At zW (waysL A)) (.ref d))) (KV (At zW (waysL B)) (.ref d2))) (KV (At (zL zP2) (pairsL A B)) v4)) ⟨n5.kn.1.1, n5.kn.2⟩
  have n7 := n6.unlock hd2 d2F du2 g2
  have g1' : upd H2 d2 (.dK kv2) d = some (.frz od1 (.dK kv1)) := by rw [upd_ne ne]; exact g1
  have n8 := n7.unlock hd dF du1 g1'
  refine ⟨g2, g1', nx_ (seq_ ?_)⟩
  have plen := pairs_len oa ob
  -- the pairs that the marks part
  refine s_newD n8.dm (ed_dc (mk := HO.dT) (enc := kP) (KR := zP2) (S := zAny) put_P n8.kn (ei_list (R := zP2) (ev_var (v := v4) rfl n8.kn.2)) (by omega) (fun p => decide (p.1 ∈ A.bg) && !decide (p.2 ∈ B.bg)) (fun p => p) (fun _ => ()) (by rw [map_same]; exact List.Pairwise.filter _ nodup_pairs) fun x f' H' u hx hb dm' e' k' hr' => bnd_tup2 hr' fun t u1 u2 hu1 _ h1 h2 => ⟨rfl, et_and (et_B1 (ev_op (ev_var (Φ := At zI x.1) rfl h1) (ev_meth (x := A) (ev_var (Φ := At (zPr C) A) rfl k'.1.1.1.1) (ins_of rfl) ea_nil fun G v vs h1 h2 => ⟨v, vs, rfl, h1, h2⟩) ru_inI)) fun _ => et_B1 (ev_op (ev_var (Φ := At zI x.2) rfl h2) (ev_meth (x := B) (ev_var (Φ := At (zPr C) B) rfl k'.1.1.1.2) (ins_of rfl) ea_nil fun G v vs h1 h2 => ⟨v, vs, rfl, h1, h2⟩) ru_notInI), fun _ => ⟨ev_tup2 (R := zI) (S := zI) (ev_var (Φ := At zI x.1) rfl h1) (ev_var (Φ := At zI x.2) rfl h2), ev_any (ev_tup2 (R := zI) (S := zAny) (x := 0) (y := ()) ev_int (ev_any ev_non))⟩⟩) fun D H4 kv hD e4 h4 hp => ?_
  have n9 := n8.own hD e4 (Loc.of h4 (dict_no kv))
  have DF : D ∉ F := n8.dm.new hD
  have hk : kv.map (·.1) = ((pairsL A B).filter fun p => decide (p.1 ∈ A.bg) && !decide (p.2 ∈ B.bg)).map kP := by
    rw [keys_map hp, List.map_map, List.map_map]
    rfl
  have rnk0 : Rnk A B ((pairsL A B).filter fun p => decide (p.1 ∈ A.bg) && !decide (p.2 ∈ B.bg)) := by
    refine ⟨List.Pairwise.filter _ nodup_pairs, fun p hp => (List.mem_filter.mp hp).1, fun p hp f => ?_, fun m hm n hn h1 h2 => List.mem_filter.mpr ⟨mem_pairs.mpr ⟨hm, hn⟩, ?_⟩⟩
    · have := (List.mem_filter.mp hp).2
      rw [Bool.and_eq_true, decide_eq_true_eq, Bool.not_eq_true', decide_eq_false_iff_not] at this
      exact this.2 ((fol_sim A B).bg f this.1)
    · show (decide (m ∈ A.bg) && !decide (n ∈ B.bg)) = true
      rw [decide_eq_true h1, decide_eq_false h2]
      rfl
  have visD : ∀ {Hx : Hp} {kx : List (List Key × V)} {rk : List (Int × Int)}, Hx D = some (.dT kx) → kx.map (·.1) = rk.map kP → zUP zAny (hid F Hx) (.ref D) (rk.map fun x => (x, ())) := fun {Hx kx rk} h1 h2 => by
    refine ⟨D, kx, rfl, by rw [hid_out DF]; exact h1, ?_⟩
    clear h1
    induction rk generalizing kx with
    | nil =>
      obtain rfl : kx = [] := List.map_eq_nil_iff.mp h2
      exact .nil
    | cons x rk ih =>
      obtain ⟨y, ys, rfl, e1, e2⟩ := List.map_eq_cons_iff.mp h2
      exact .cons ⟨e1, trivial⟩ (ih e2)
  have keysOf : ∀ rk : List (Int × Int), (rk.map fun x => (x, ())).map (·.1) = rk := fun rk => by rw [List.map_map]; exact List.map_id _
  refine nx_ (seq_ ?_)
  refine s_asg2 (R := zI) (S := zI) (x := (0, -1)) n9 (ev_tup2 (R := zI) (S := zI) ev_int (ev_un ev_int ru_neg)) fun u1 u2 H5 e5 n10 => ?_
  obtain rfl : u1 = .int 0 := n10.kn.1.2
  obtain rfl : u2 = .int (-1) := n10.kn.2
  have n11 := n10.know n10.kn.1.1
  have h5 : H5 D = some (.dT kv) := e5.keep (fun z => nomatch z) h4
  refine nx_ (seq_ ?_)
  refine ⟨fun m σ' H' => ∃ rank sz kx rk x5 x6 x10 x11 x12, σ' = [some v, some v2, some (.ref d), some (.ref d2), some v4, x5, x6, some (.ref D), some (.int rank), some (.int sz), x10, x11, x12] ∧ H' D = some (.dT kx) ∧ kx.map (·.1) = rk.map kP ∧ Rnk A B rk ∧ (sz = (rk.length : Int) → newR A B rk = []) ∧
    Now ⟨D :: F, none⟩ [D] H (KAnd (KAnd (KAnd (KAnd (KV (At (zPr C) A) v) (KV (At (zPr C) B) v2)) (KV (At zW (waysL A)) (.ref d))) (KV (At zW (waysL B)) (.ref d2))) (KV (At (zL zP2) (pairsL A B)) v4)) H' ∧ m = 2 * ((pairsL A B).length - rk.length) + (if sz = (rk.length : Int) then 0 else 1), ⟨_, 0, -1, kv, _, none, none, none, none, none, rfl, h5, hk, rnk0, fun z => (by omega), n11, rfl⟩, ?_⟩
  rintro m σ' H6 ⟨rank, sz, kx, rk, x5, x6, x10, x11, x12, rfl, h6, hk6, rnk, stop, n12, rfl⟩
  have dmF : Dm ⟨F, none⟩ H6 := ⟨fun x m => n12.dm.there x (List.mem_cons_of_mem _ m), fun x z => nomatch z⟩
  have nV : Now ⟨F, none⟩ [] H (KAnd (KAnd (KAnd (KAnd (KAnd (KV (At (zPr C) A) v) (KV (At (zPr C) B) v2)) (KV (At zW (waysL A)) (.ref d))) (KV (At zW (waysL B)) (.ref d2))) (KV (At (zL zP2) (pairsL A B)) v4)) (KV (At (zUP zAny) (rk.map fun x => (x, ()))) (.ref D))) H6 := ⟨by rw [hid_nil]; exact n12.out, dmF, fun x m => (nomatch m), StH.up (hid_sub fun x m => List.mem_cons_of_mem _ m) n12.kn, visD h6 hk6⟩
  have rl := rnk.len
  refine (et_test1 (f := ⟨F, none⟩) (ev_op (ev_var (Φ := At zI sz) rfl rfl) (ev_cb (ea_cons (ev_var (Φ := At (zUP zAny) (rk.map fun x => (x, ()))) (v := .ref D) rfl nV.kn.2) ea_nil) ra_lenDT) ru_neI)) H6 (re.refl _) dmF _ fun c H7 e7 pc => ?_
  have nW := nV.go e7
  rw [List.length_map] at pc
  cases c with
  | false =>
    rw [if_neg Bool.false_ne_true]
    have es : sz = (rk.length : Int) := by simpa using pc.symm
    refine nx_ ?_
    refine s_ret nW (ev_var (Φ := At (zUP zAny) (rk.map fun x => (x, ()))) (v := .ref D) rfl nW.kn.2) fun v7 H8 e8 n13 => ?_
    refine kk v7 H8 n13.pure ⟨rk.map fun x => (x, ()), fun m n => ?_, zU_zD n13.kn.2⟩
    rw [keysOf]
    exact rnk.done (stop es)
  | true =>
    rw [if_pos rfl]
    have es : sz ≠ (rk.length : Int) := by
      intro z
      rw [decide_eq_true z] at pc
      cases pc
    refine ⟨_, fun σ' H' h => h, ?_⟩
    -- a round
    refine seq_ ?_
    refine s_asg2 (R := zI) (S := zI) (x := (rank + 1, (rk.length : Int))) nW (ev_tup2 (R := zI) (S := zI) (ev_op (ev_var (Φ := At zI rank) rfl rfl) ev_int ru_add) (EvP.is (ev_cb (ea_cons (ev_var (Φ := At (zUP zAny) (rk.map fun x => (x, ()))) (v := .ref D) rfl nW.kn.2) ea_nil) ra_lenDT) (by rw [List.length_map]))) fun u1 u2 H8 e8 n13 => ?_
    obtain rfl : u1 = .int (rank + 1) := n13.kn.1.2
    obtain rfl : u2 = .int (rk.length : Int) := n13.kn.2
    have n14 := n13.know n13.kn.1.1
    refine nx_ (seq_ ?_)
    refine s_set n14 (ev_lcD (S := zT2 zP2 (zO zPN)) n14.kn (ei_list (R := zP2) (ev_var (v := v4) rfl n14.kn.1.2)) (by omega) (fun p => !decide (p ∈ rk)) (fun p => (p, firstWhy (waysL A) (waysL B) p rk)) fun p f' H' u hp hb dm' e' k' hr' => bnd_name ⟨rfl, et_is (et_B1 (ev_dnotin get_P (ev_var (Φ := At zP2 p) rfl hr') (ev_var (Φ := At (zDP zAny) (rk.map fun x => (x, ()))) (v := .ref D) rfl (zU_zD k'.2)))) ?_, fun _ => ev_tup2 (R := zP2) (S := zO zPN) (ev_var (Φ := At zP2 p) rfl hr') ?_⟩) fun v5 H9 e9 n15 => ?_
    · have : (valD (rk.map fun x => (x, ())) p).isSome = decide (p ∈ rk) := Bool.eq_iff_iff.mpr (by rw [valD_isSome, keysOf, decide_eq_true_eq])
      rw [this]
    · have hp2 := mem_pairs.mp hp
      refine EvP.is (ev_call (x := (⟨waysL A, waysL B, p, rk.map fun x => (x, ()), okW_ways oa, okW_ways ob, key_ways hp2.1, key_ways hp2.2⟩ : WhyI)) (ea_cons (ev_var (Φ := At zW (waysL A)) (v := .ref d) rfl k'.1.1.1.2) (ea_cons (ev_var (Φ := At zW (waysL B)) (v := .ref d2) rfl k'.1.1.2) (ea_cons (ev_var (Φ := At zP2 p) rfl hr') (ea_cons (ev_var (Φ := At (zDP zAny) (rk.map fun x => (x, ()))) (v := .ref D) rfl (zU_zD k'.2)) ea_nil))))) ?_
      show firstWhy _ _ p ((rk.map fun x => (x, ())).map (·.1)) = _
      rw [keysOf]
    refine nx_ ?_
    have h9 : H9 D = some (.dT kx) := e9.keep (fun z => nomatch z) (e8.keep (fun z => nomatch z) (e7.keep (fun z => nomatch z) h6))
    have wl : (((pairsL A B).filter fun p => !decide (p ∈ rk)).map fun p => (p, firstWhy (waysL A) (waysL B) p rk)).length ≤ 100000 := by
      rw [List.length_map]
      exact Nat.le_trans (List.length_filter_le _ _) (by omega)
    have enew : (((((pairsL A B).filter fun p => !decide (p ∈ rk)).map fun p => (p, firstWhy (waysL A) (waysL B) p rk)).filter fun q => q.2.isSome).map fun q => q.1) = newR A B rk := by
      unfold newR
      rw [List.filter_map, List.map_map]
      exact List.map_id _
    refine ⟨.ref D, rfl, .inr (.inr (.inl ⟨rfl, .inr ⟨_, h9⟩⟩)), ?_⟩
    refine (ed_dc (mk := HO.dT) (enc := kP) (KR := zP2) (S := zAny) put_P n15.kn (ei_list (R := zT2 zP2 (zO zPN)) (ev_var (v := v5) rfl n15.kn.2)) wl (fun q => q.2.isSome) (fun q => q.1) (fun _ => ()) (by rw [enew]; exact nodup_new) fun q f' H' u hq hb dm' e' k' hr' => bnd_tup2 hr' fun t u1 u2 _ _ h1 h2 => ⟨rfl, et_B1 (ev_op (ev_var (Φ := At (zO zPN) q.2) rfl h2) ev_non (ru_notN fun G v y h => pN_ne h)), fun _ => ⟨ev_var (Φ := At zP2 q.1) rfl h1, ev_any (ev_tup2 (R := zI) (S := zO zPN) (ev_var (Φ := At zI (rank + 1)) (v := .int (rank + 1)) rfl rfl) (ev_var (Φ := At (zO zPN) q.2) rfl h2))⟩⟩) H9 (re.refl _) n15.dm _ fun D2 H10 ls hD2 e10 h10 hp10 => ?_
    have ne2 : D ≠ D2 := fun z => by
      rw [← z, h9] at hD2
      cases hD2
    have lk : ls.map (·.1) = (newR A B rk).map kP := by
      rw [keys_map hp10, List.map_map, List.map_map, ← enew, List.map_map]
      rfl
    have allk : (kx ++ ls).map (·.1) = (rk ++ newR A B rk).map kP := by rw [List.map_append, List.map_append, hk6, lk]
    have kxl : kx.length = rk.length := by
      have := congrArg List.length hk6
      rw [List.length_map, List.length_map] at this
      exact this
    have lsl : ls.length = (newR A B rk).length := by
      have := congrArg List.length lk
      rw [List.length_map, List.length_map] at this
      exact this
    have nl := rnk.next.len
    rw [List.length_append] at nl
    have h10' : H10 D = some (.dT kx) := e10.keep (fun z => nomatch z) h9
    refine ⟨D, D2, kx, ls, rfl, rfl, ne2, h10', h10, ?_, Nat.le_trans (by omega : kx.length + ls.length ≤ 100000) (by decide), .inr ?_, _, ?_, rank + 1, (rk.length : Int), kx ++ ls, rk ++ newR A B rk, _, _, _, _, _, rfl, upd_same, allk, rnk.next, fun z => ?_, ?_, rfl⟩
    · rw [allk]
      exact List.pairwise_map.mpr (List.Pairwise.imp (fun h e => h (put_P.inj _ _ e)) rnk.next.nd)
    · have e1 : (ls.map fun p => (tupleKind (mixKind P w)).hash p.1) = (newR A B rk).map fun p => (tupleKind (mixKind P w)).hash (kP p) := by
        have : (ls.map fun p => (tupleKind (mixKind P w)).hash p.1) = (ls.map (·.1)).map (tupleKind (mixKind P w)).hash := by rw [List.map_map]; rfl
        rw [this, lk, List.map_map]
        rfl
      show (ls.map fun p => (tupleKind (mixKind P w)).hash p.1).Nodup
      rw [e1]
      refine pair_hashes nodup_new fun p hp => ?_
      obtain ⟨q1, q2⟩ := mem_pairs.mp (mem_new.mp hp).1
      have r1 := reach_rng oa q1
      have r2 := reach_rng ob q2
      have t1 := oa.p9
      have t2 := ob.p9
      exact ⟨⟨r1.1, by have := r1.2; omega⟩, r2.1, by have := r2.2; omega⟩
    · rw [List.length_append, if_neg es]
      split <;> omega
    · rw [List.length_append] at z
      have : newR A B rk = [] := List.eq_nil_of_length_eq_zero (by omega)
      rw [this, List.append_nil]
      exact this
    · exact ((((n12.go e7).go e8).go e9).go e10).upd List.mem_cons_self
end
end FF
namespace FF
open PySem
noncomputable def followL (A B : PD) : List (Int × Int) := (reachL A).flatMap (row (fun _ => true) (fun _ => reachL B) (fun m n => yes (Fol A B m n)) fun m n => (m, n))
theorem mem_follow {A B : PD} {m n : Int} : (m, n) ∈ followL A B ↔ Fol A B m n := by
  unfold followL
  rw [List.mem_flatMap]
  constructor
  · rintro ⟨x, hx, h⟩
    unfold row at h
    rw [if_pos rfl] at h
    obtain ⟨y, hy, e⟩ := List.mem_map.mp h
    obtain ⟨_, h2⟩ := List.mem_filter.mp hy
    injection e with e1 e2
    subst e1; subst e2
    exact yes_iff.mp h2
  · intro h
    refine ⟨m, (fol_sim A B).a h, ?_⟩
    unfold row
    rw [if_pos rfl]
    exact List.mem_map.mpr ⟨n, List.mem_filter.mpr ⟨(fol_sim A B).b h, yes_iff.mpr h⟩, rfl⟩
theorem follow_len {A B : PD} (a : OkP A) (b : OkP B) : (followL A B).length ≤ 100 := by
  refine Nat.le_trans (flat_len (c := 10) fun x _ => row_len (reach_ten b)) (Nat.mul_le_mul_right 10 (reach_ten a))
theorem nodup_follow {A B : PD} : (followL A B).Nodup := by
  have key : ∀ l : List Int, l.Nodup → (l.flatMap (row (fun _ => true) (fun _ => reachL B) (fun m n => yes (Fol A B m n)) fun m n => (m, n))).Nodup := by
    intro l
    induction l with
    | nil => exact fun _ => List.nodup_nil
    | cons m l ih =>
      intro nd
      obtain ⟨h1, h2⟩ := List.nodup_cons.mp nd
      rw [List.flatMap_cons]
      have e : row (fun _ => true) (fun _ => reachL B) (fun m n => yes (Fol A B m n)) (fun m n => (m, n)) m = ((reachL B).filter fun n => yes (Fol A B m n)).map fun n => (m, n) := if_pos rfl
      rw [e]
      refine List.nodup_append.mpr ⟨List.pairwise_map.mpr (List.Pairwise.imp (fun h e => h (by injection e)) (List.Pairwise.filter _ (reach_nodup B))), ih h2, fun a ha b hb e => ?_⟩
      obtain ⟨n, _, rfl⟩ := List.mem_map.mp ha
      obtain ⟨m', hm', hb⟩ := List.mem_flatMap.mp hb
      unfold row at hb
      rw [if_pos rfl] at hb
      obtain ⟨n', _, rfl⟩ := List.mem_map.mp hb
      injection e with e1 _
      exact h1 (e1 ▸ hm')
  exact key _ (reach_nodup A)
theorem fol_refl {P : PD} {n : Int} (h : n ∈ reachL P) : Fol P P n n := by
  refine ⟨fun m n => m = n ∧ n ∈ reachL P, ⟨fun r => r.1 ▸ r.2, fun r => r.2, fun r h => r.1 ▸ h, fun r k s hk => ⟨k, r.1 ▸ hk, rfl, (mem_way.mp hk).2⟩⟩, rfl, h⟩
theorem fol_trans {A B C : PD} {m n p : Int} (h1 : Fol A B m n) (h2 : Fol B C n p) : Fol A C m p := by
  refine ⟨fun m p => ∃ n, Fol A B m n ∧ Fol B C n p, ⟨fun ⟨n, h, _⟩ => (fol_sim A B).a h, fun ⟨n, _, h⟩ => (fol_sim B C).b h, fun ⟨n, h1, h2⟩ h => (fol_sim B C).bg h2 ((fol_sim A B).bg h1 h), fun ⟨n, h1, h2⟩ k s hk => ?_⟩, n, h1, h2⟩
  obtain ⟨l, h3, h4⟩ := (fol_sim A B).st h1 k s hk
  obtain ⟨j, h5, h6⟩ := (fol_sim B C).st h2 l s h3
  exact ⟨j, h5, l, h4, h6⟩
/-- alike, each in its program -/
def Alk (A B : PD) (m n : Int) : Prop := Fol A B m n ∧ Fol B A n m
theorem Alk.symm {A B : PD} {m n : Int} (h : Alk A B m n) : Alk B A n m := ⟨h.2, h.1⟩
theorem Alk.trans {A B C : PD} {m n p : Int} (h1 : Alk A B m n) (h2 : Alk B C n p) : Alk A C m p := ⟨fol_trans h1.1 h2.1, fol_trans h2.2 h1.2⟩
theorem alk_refl {P : PD} {n : Int} (h : n ∈ reachL P) : Alk P P n n := ⟨fol_refl h, fol_refl h⟩
noncomputable def leastF (P : PD) (n : Int) : Int := ((reachL P).filter fun o => yes (Fol P P n o) && yes (Fol P P o n)).headD 0
theorem asc_head {l : List Int} (h : Asc l) {m : Int} (hm : m ∈ l) (lo : ∀ y ∈ l, m ≤ y) : l.headD 0 = m := by
  cases l with
  | nil => cases hm
  | cons x l =>
    obtain ⟨h1, _⟩ := List.pairwise_cons.mp h
    show x = m
    rcases List.mem_cons.mp hm with rfl | hm
    · rfl
    · have := of_decide_eq_true (h1 m hm)
      have := lo x List.mem_cons_self
      omega
theorem least_spec {P : PD} {n : Int} (h : n ∈ reachL P) : Alk P P n (leastF P n) ∧ ∀ o, Alk P P n o → leastF P n ≤ o := by
  unfold leastF
  have hn : n ∈ (reachL P).filter fun o => yes (Fol P P n o) && yes (Fol P P o n) := List.mem_filter.mpr ⟨h, by rw [Bool.and_eq_true, yes_iff]; exact ⟨fol_refl h, fol_refl h⟩⟩
  have asc : Asc ((reachL P).filter fun o => yes (Fol P P n o) && yes (Fol P P o n)) := asc_filter (asc_cloL _ _) _
  have mem : ∀ o, o ∈ ((reachL P).filter fun o => yes (Fol P P n o) && yes (Fol P P o n)) ↔ Alk P P n o := fun o => by
    rw [List.mem_filter, Bool.and_eq_true, yes_iff, yes_iff]
    exact ⟨fun h => h.2, fun h => ⟨(fol_sim P P).b h.1, h⟩⟩
  generalize hl : ((reachL P).filter fun o => yes (Fol P P n o) && yes (Fol P P o n)) = l at *
  cases l with
  | nil => cases hn
  | cons x l =>
    obtain ⟨h1, _⟩ := List.pairwise_cons.mp asc
    refine ⟨(mem x).mp List.mem_cons_self, fun o ho => ?_⟩
    rcases List.mem_cons.mp ((mem o).mpr ho) with rfl | ho
    · exact Int.le_refl _
    · have := of_decide_eq_true (h1 o ho)
      show x ≤ o
      omega
theorem least_eq {P : PD} {m n : Int} (h : Alk P P m n) : leastF P m = leastF P n := by
  have hm := (fol_sim P P).a h.1
  have hn := (fol_sim P P).b h.1
  have s1 := least_spec hm
  have s2 := least_spec hn
  have h1 := s1.2 _ (h.trans s2.1)
  have h2 := s2.2 _ (h.symm.trans s1.1)
  omega
/-- the least of its kind -/
structure IsRep (P : PD) (n : Int) : Prop where
  r : n ∈ reachL P
  e : leastF P n = n
theorem rep_least {P : PD} {n : Int} (h : n ∈ reachL P) : IsRep P (leastF P n) := ⟨(fol_sim P P).b (least_spec h).1.1, (least_eq (least_spec h).1).symm⟩
theorem rep_eq {P : PD} {m n : Int} (hm : IsRep P m) (hn : IsRep P n) (h : Alk P P m n) : m = n := by rw [← hm.e, ← hn.e]; exact least_eq h
noncomputable def dL (P : PD) : List E3 := (reachL P).flatMap fun n => (wayP P n).map fun q => (leastF P q.1, q.2, leastF P n)
noncomputable def edL (P : PD) : List E3 := canon (dL P)
noncomputable def besides (P : PD) (e : E3) : List Int := ((edL P).filter fun q => !decide (q.1 = e.1) && decide ((q.2.1, q.2.2) = (e.2.1, e.2.2))).map (·.1)
noncomputable def gL (P : PD) : List E3 := (edL P).filter fun e => !(besides P e).any fun l => yes (Fol P P e.1 l)
theorem mem_dL {P : PD} {e : E3} : e ∈ dL P ↔ ∃ n k, n ∈ reachL P ∧ (k, e.2.1) ∈ wayP P n ∧ e.1 = leastF P k ∧ e.2.2 = leastF P n := by
  unfold dL
  rw [List.mem_flatMap]
  constructor
  · rintro ⟨n, hn, h⟩
    obtain ⟨⟨k, s⟩, hk, rfl⟩ := List.mem_map.mp h
    exact ⟨n, k, hn, hk, rfl, rfl⟩
  · rintro ⟨n, k, hn, hk, e1, e2⟩
    refine ⟨n, hn, List.mem_map.mpr ⟨(k, e.2.1), hk, ?_⟩⟩
    rw [← e1, ← e2]
theorem mem_gL {P : PD} {e : E3} : e ∈ gL P ↔ e ∈ dL P ∧ ∀ l, (l, e.2.1, e.2.2) ∈ dL P → l ≠ e.1 → ¬ Fol P P e.1 l := by
  unfold gL edL
  rw [List.mem_filter, mem_canon, Bool.not_eq_true', List.any_eq_false]
  refine and_congr_right fun _ => ?_
  constructor
  · intro h l hl ne f
    refine h l ?_ (yes_iff.mpr f)
    unfold besides edL
    refine List.mem_map.mpr ⟨(l, e.2.1, e.2.2), List.mem_filter.mpr ⟨mem_canon.mpr hl, ?_⟩, rfl⟩
    show (!decide (l = e.1) && decide ((e.2.1, e.2.2) = (e.2.1, e.2.2))) = true
    rw [decide_eq_false ne, decide_eq_true rfl]
    rfl
  · intro h l hl f
    unfold besides edL at hl
    obtain ⟨⟨l', s, p⟩, h1, rfl⟩ := List.mem_map.mp hl
    obtain ⟨h2, h3⟩ := List.mem_filter.mp h1
    rw [Bool.and_eq_true, Bool.not_eq_true', decide_eq_false_iff_not, decide_eq_true_eq] at h3
    have h4 : (s, p) = (e.2.1, e.2.2) := h3.2
    injection h4 with h5 h6
    subst h5; subst h6
    exact h _ (mem_canon.mp h2) h3.1 (yes_iff.mp f)
theorem dL_rep {P : PD} {e : E3} (h : e ∈ dL P) : IsRep P e.1 ∧ IsRep P e.2.2 := by
  obtain ⟨n, k, hn, hk, e1, e2⟩ := mem_dL.mp h
  rw [e1, e2]
  exact ⟨rep_least (mem_way.mp hk).2, rep_least hn⟩
theorem filter_lt {α : Type} {p q : α → Bool} : ∀ {l : List α}, (∀ x ∈ l, q x = true → p x = true) → (∃ x ∈ l, p x = true ∧ q x = false) → (l.filter q).length < (l.filter p).length
  | [], _, ⟨x, hx, _⟩ => nomatch hx
  | y :: l, h, ⟨x, hx, h1, h2⟩ => by
    have le : (l.filter q).length ≤ (l.filter p).length := by
      have : ∀ {m : List α}, (∀ x ∈ m, q x = true → p x = true) → (m.filter q).length ≤ (m.filter p).length := by
        intro m
        induction m with
        | nil => exact fun _ => Nat.le_refl _
        | cons z m ih =>
          intro hm
          have ih := ih fun x hx => hm x (List.mem_cons_of_mem _ hx)
          have hz := hm z List.mem_cons_self
          rw [List.filter_cons, List.filter_cons]
          cases qz : q z with
          | true =>
            rw [if_pos rfl, if_pos (hz qz), List.length_cons, List.length_cons]
            omega
          | false =>
            rw [if_neg Bool.false_ne_true]
            split
            · rw [List.length_cons]; omega
            · exact ih
      exact this fun x hx => h x (List.mem_cons_of_mem _ hx)
    rw [List.filter_cons, List.filter_cons]
    rcases List.mem_cons.mp hx with rfl | hx
    · rw [if_neg (by rw [h2]; exact Bool.false_ne_true), if_pos h1, List.length_cons]
      omega
    · have ih := filter_lt (fun x hx => h x (List.mem_cons_of_mem _ hx)) ⟨x, hx, h1, h2⟩
      cases qy : q y with
      | true =>
        rw [if_pos rfl, if_pos (h y List.mem_cons_self qy), List.length_cons, List.length_cons]
        omega
      | false =>
        rw [if_neg Bool.false_ne_true]
        split
        · rw [List.length_cons]; omega
        · exact ih
/-- some greatest one is there -/
theorem greatest {P : PD} {s : Str} {p : Int} : ∀ (c : Nat) {k : Int}, (k, s, p) ∈ dL P → ((dL P).filter fun e => yes (Fol P P k e.1)).length ≤ c → ∃ g, (g, s, p) ∈ gL P ∧ Fol P P k g
  | c, k, hk, hc => by
    by_cases h : ∀ l, (l, s, p) ∈ dL P → l ≠ k → ¬ Fol P P k l
    · exact ⟨k, mem_gL.mpr ⟨hk, h⟩, fol_refl (dL_rep hk).1.r⟩
    · obtain ⟨l, hl⟩ := Classical.not_forall.mp h
      obtain ⟨hl, h2⟩ := Classical.not_imp.mp hl
      obtain ⟨ne, h3⟩ := Classical.not_imp.mp h2
      have f := Classical.not_not.mp h3
      have back : ¬ Fol P P l k := fun g => ne (rep_eq (dL_rep hl).1 (dL_rep hk).1 ⟨g, f⟩)
      have lt := filter_lt (l := dL P) (p := fun e => yes (Fol P P k e.1)) (q := fun e => yes (Fol P P l e.1)) (fun x _ hx => yes_iff.mpr (fol_trans f (yes_iff.mp hx))) ⟨(k, s, p), hk, yes_iff.mpr (fol_refl (dL_rep hk).1.r), by
        cases q : yes (Fol P P l k) with
        | false => rfl
        | true => exact absurd (yes_iff.mp q) back⟩
      match c, hc with
      | 0, hc => omega
      | c + 1, hc =>
        obtain ⟨g, h4, h5⟩ := greatest c hl (by omega)
        exact ⟨g, h4, fol_trans f h5⟩
theorem greatest' {P : PD} {s : Str} {k p : Int} (h : (k, s, p) ∈ dL P) : ∃ g, (g, s, p) ∈ gL P ∧ Fol P P k g := greatest _ h (Nat.le_refl _)
def Rd (P : PD) : Nat → Int → Prop
  | 0, n => n ∈ P.bg
  | d + 1, n => ∃ m s, Rd P d m ∧ (m, s, n) ∈ P.ed
theorem rd_reach {P : PD} : ∀ {d : Nat} {n : Int}, Rd P d n → n ∈ reachL P
  | 0, n, h => reach_bg h
  | d + 1, n, ⟨m, s, h, e⟩ => reach_step (rd_reach h) e
theorem reach_rd {P : PD} {n : Int} (h : n ∈ reachL P) : ∃ d, Rd P d n := by
  have c := mem_cloL.mp h
  clear h
  induction c with
  | base hb => exact ⟨0, hb⟩
  | @step m n' hc h2 ih =>
    obtain ⟨d, hd⟩ := ih
    obtain ⟨⟨a, s, b⟩, he, e⟩ := List.mem_map.mp h2
    injection e with e1 e2
    have e1 : a = m := e1
    have e2 : b = n' := e2
    subst e1; subst e2
    exact ⟨d + 1, a, s, hd, he⟩
theorem fol_rd {A B : PD} : ∀ {d : Nat} {m n : Int}, Fol A B m n → Rd A d m → ∃ d', d' ≤ d ∧ Rd B d' n
  | 0, m, n, f, h => ⟨0, Nat.le_refl _, (fol_sim A B).bg f h⟩
  | d + 1, m, n, f, ⟨k, s, h, e⟩ => by
    obtain ⟨l, h1, h2⟩ := (fol_sim A B).st f k s (mem_way.mpr ⟨e, rd_reach h⟩)
    obtain ⟨d', h3, h4⟩ := fol_rd h2 h
    exact ⟨d' + 1, by omega, l, s, h4, (mem_way.mp h1).1⟩
def backs (es : List E3) : List (Int × Int) := es.map fun e => (e.2.2, e.1)
noncomputable def leadL (es : List E3) (pl : List Int) : List Int := cloL (backs es) pl
noncomputable def keptL (P : PD) (asked : List Int) : List Int := leadL (gL P) (asked.map (leastF P))
theorem kept_asked {P : PD} {asked : List Int} {a : Int} (h : a ∈ asked) : leastF P a ∈ keptL P asked := mem_cloL.mpr (.base (List.mem_map.mpr ⟨a, h, rfl⟩))
theorem kept_step {P : PD} {asked : List Int} {e : E3} (he : e ∈ gL P) (h : e.2.2 ∈ keptL P asked) : e.1 ∈ keptL P asked := mem_cloL.mpr (.step (mem_cloL.mp h) (List.mem_map.mpr ⟨e, he, rfl⟩))
theorem kept_ind {P : PD} {asked : List Int} {M : Int → Prop} (h1 : ∀ a ∈ asked, M (leastF P a)) (h2 : ∀ e ∈ gL P, e.2.2 ∈ keptL P asked → M e.2.2 → M e.1) : ∀ p ∈ keptL P asked, M p := by
  intro p hp
  have c := mem_cloL.mp hp
  clear hp
  induction c with
  | base h =>
    obtain ⟨a, ha, rfl⟩ := List.mem_map.mp h
    exact h1 a ha
  | step hc h ih =>
    obtain ⟨e, he, e2⟩ := List.mem_map.mp h
    injection e2 with e3 e4
    subst e3; subst e4
    exact h2 e he (mem_cloL.mpr hc) ih
theorem kept_rep {P : PD} {asked : List Int} (ha : ∀ a ∈ asked, a ∈ reachL P) : ∀ p ∈ keptL P asked, IsRep P p := kept_ind (fun a h => rep_least (ha a h)) fun e he _ _ => (dL_rep (mem_gL.mp he).1).1
/-- from a kept place back to a begin, ever nearer -/
theorem kept_back {P : PD} {asked : List Int} {M : Int → Prop} (hr : ∀ p ∈ keptL P asked, IsRep P p) (h1 : ∀ p ∈ keptL P asked, p ∈ P.bg → M p) (h2 : ∀ e ∈ gL P, e.2.2 ∈ keptL P asked → M e.1 → M e.2.2) : ∀ (d : Nat), ∀ p ∈ keptL P asked, (∃ d', d' ≤ d ∧ Rd P d' p) → M p
  | d, p, hp, ⟨0, _, h⟩ => h1 p hp h
  | 0, p, hp, ⟨d' + 1, h, _⟩ => by omega
  | d + 1, p, hp, ⟨d' + 1, hd, m, s, h, e⟩ => by
    have rm := rd_reach h
    have rp := hr p hp
    have inD : (leastF P m, s, p) ∈ dL P := mem_dL.mpr ⟨p, m, rp.r, mem_way.mpr ⟨e, rm⟩, rfl, rp.e.symm⟩
    obtain ⟨g, hg, f⟩ := greatest' inD
    obtain ⟨d'', h3, h4⟩ := fol_rd (fol_trans (least_spec rm).1.1 f) h
    have kg : g ∈ keptL P asked := kept_step hg hp
    exact h2 _ hg hp (kept_back hr h1 h2 d g kg ⟨d'', by omega, h4⟩)
theorem kept_all {P : PD} {asked : List Int} {M : Int → Prop} (ha : ∀ a ∈ asked, a ∈ reachL P) (h1 : ∀ p ∈ keptL P asked, p ∈ P.bg → M p) (h2 : ∀ e ∈ gL P, e.2.2 ∈ keptL P asked → M e.1 → M e.2.2) : ∀ p ∈ keptL P asked, M p := fun p hp => by
  have hr := kept_rep ha
  obtain ⟨d, hd⟩ := reach_rd (hr p hp).r
  exact kept_back hr h1 h2 d p hp ⟨d, Nat.le_refl _, hd⟩
theorem kept_begin {P : PD} {asked : List Int} (ha : ∀ a ∈ asked, a ∈ reachL P) (ne : asked ≠ []) : ∃ p ∈ keptL P asked, p ∈ P.bg := by
  refine Classical.byContradiction fun no => ?_
  have := kept_all (M := fun _ => False) ha (fun p hp hb => no ⟨p, hp, hb⟩) fun _ _ _ h => h
  obtain ⟨a, l, rfl⟩ := List.exists_cons_of_ne_nil ne
  exact this _ (kept_asked List.mem_cons_self)
end FF
namespace FF
open PySem
theorem valD_of_mem {β γ : Type} [DecidableEq β] {l : List (β × γ)} (nd : (l.map (·.1)).Nodup) {b : β} {x : γ} (h : (b, x) ∈ l) : valD l b = some x := by
  induction l with
  | nil => cases h
  | cons p l ih =>
    rw [List.map_cons] at nd
    obtain ⟨h1, h2⟩ := List.nodup_cons.mp nd
    rw [valD_cons]
    rcases List.mem_cons.mp h with e | h
    · rw [← e, if_pos rfl]
    · rw [if_neg fun e => h1 (by rw [e]; exact List.mem_map.mpr ⟨(b, x), h, rfl⟩)]
      exact ih h2 h
def numD (kept : List Int) : List (Int × Int) := (enum kept).map fun q => (q.2, q.1)
def numF (kept : List Int) (x : Int) : Int := (valD (numD kept) x).getD 0
theorem mem_enum {α : Type} {l : List α} {i : Int} {x : α} : (i, x) ∈ enum l ↔ 0 ≤ i ∧ l[i.toNat]? = some x := by
  unfold enum
  constructor
  · intro h
    obtain ⟨j, hj⟩ := List.mem_iff_getElem?.mp h
    rw [List.getElem?_zip_eq_some] at hj
    obtain ⟨h1, h2⟩ := hj
    have lt : j < l.length := (List.getElem?_eq_some_iff.mp h2).1
    rw [upto_get lt] at h1
    have e : (j : Int) = i := Option.some.inj h1
    subst e
    exact ⟨by omega, h2⟩
  · rintro ⟨h1, h2⟩
    have lt := (List.getElem?_eq_some_iff.mp h2).1
    refine List.mem_iff_getElem?.mpr ⟨i.toNat, ?_⟩
    rw [List.getElem?_zip_eq_some]
    refine ⟨?_, h2⟩
    rw [upto_get lt]
    congr 1
    omega
theorem enum_snd {α : Type} (l : List α) : (enum l).map (·.2) = l := by
  unfold enum
  exact List.map_snd_zip (by rw [upto_length]; exact Nat.le_refl _)
theorem numD_keys (kept : List Int) : (numD kept).map (·.1) = kept := by
  unfold numD
  rw [List.map_map]
  exact enum_snd kept
theorem numF_at {kept : List Int} (nd : kept.Nodup) {x : Int} (h : x ∈ kept) : valD (numD kept) x = some (numF kept x) ∧ 0 ≤ numF kept x ∧ kept[(numF kept x).toNat]? = some x := by
  obtain ⟨j, hj⟩ := List.mem_iff_getElem?.mp h
  have m : (x, (j : Int)) ∈ numD kept := List.mem_map.mpr ⟨((j : Int), x), mem_enum.mpr ⟨by omega, hj⟩, rfl⟩
  have e := valD_of_mem (by rw [numD_keys]; exact nd) m
  have e2 : numF kept x = (j : Int) := by
    unfold numF
    rw [e]
    rfl
  rw [e, e2]
  exact ⟨rfl, by omega, hj⟩
theorem numF_rng {kept : List Int} (nd : kept.Nodup) {x : Int} (h : x ∈ kept) : InR (kept.length : Int) (numF kept x) := by
  obtain ⟨_, h1, h2⟩ := numF_at nd h
  have := (List.getElem?_eq_some_iff.mp h2).1
  exact ⟨h1, by omega⟩
theorem numF_inj {kept : List Int} (nd : kept.Nodup) {x y : Int} (hx : x ∈ kept) (hy : y ∈ kept) (e : numF kept x = numF kept y) : x = y := by
  have h1 := (numF_at nd hx).2.2
  have h2 := (numF_at nd hy).2.2
  rw [e, h2] at h1
  exact (Option.some.inj h1).symm
theorem numF_onto {kept : List Int} (nd : kept.Nodup) {i : Int} (h : InR (kept.length : Int) i) : ∃ x ∈ kept, numF kept x = i := by
  have lt : i.toNat < kept.length := by
    have := h.1
    have := h.2
    omega
  refine ⟨kept[i.toNat], List.getElem_mem lt, ?_⟩
  have m : (kept[i.toNat], i) ∈ numD kept := List.mem_map.mpr ⟨(i, kept[i.toNat]), mem_enum.mpr ⟨h.1, List.getElem?_eq_getElem lt⟩, rfl⟩
  have e := valD_of_mem (by rw [numD_keys]; exact nd) m
  unfold numF
  rw [e]
  rfl
noncomputable def smallB (P : PD) (asked : List Int) : List Int := ((keptL P asked).filter fun p => decide (p ∈ P.bg)).map (numF (keptL P asked))
noncomputable def smallE (P : PD) (asked : List Int) : List E3 := ((gL P).filter fun e => decide (e.2.2 ∈ keptL P asked)).map fun e => (numF (keptL P asked) e.1, e.2.1, numF (keptL P asked) e.2.2)
noncomputable def smallP (P : PD) (asked : List Int) : PD := mkP ((keptL P asked).length : Int) (smallB P asked) (smallE P asked)
noncomputable def smallAt (P : PD) (asked : List Int) : List Int := asked.map fun a => numF (keptL P asked) (leastF P a)
theorem kept_nodup (P : PD) (asked : List Int) : (keptL P asked).Nodup := asc_nodup (asc_cloL _ _)
theorem sum_ways {es : List E3} : ∀ {l : List Int}, l.Nodup → (l.flatMap fun n => es.filter fun e => decide (e.2.2 = n)).length ≤ es.length := by
  induction es with
  | nil =>
    intro l _
    have : (l.flatMap fun n => ([] : List E3).filter fun e => decide (e.2.2 = n)) = [] := by
      induction l with
      | nil => rfl
      | cons x l ih => rw [List.flatMap_cons, ih (by rename_i h; exact (List.nodup_cons.mp h).2)]; rfl
    rw [this]
    exact Nat.le_refl _
  | cons e es ih =>
    intro l nd
    have h := ih nd
    have step : ∀ m : List Int, m.Nodup → (m.flatMap fun n => (e :: es).filter fun e => decide (e.2.2 = n)).length ≤ (m.flatMap fun n => es.filter fun e => decide (e.2.2 = n)).length + (if e.2.2 ∈ m then 1 else 0) := by
      intro m
      induction m with
      | nil => exact fun _ => Nat.le_refl _
      | cons x m im =>
        intro nm
        obtain ⟨n1, n2⟩ := List.nodup_cons.mp nm
        have := im n2
        rw [List.flatMap_cons, List.flatMap_cons, List.length_append, List.length_append, List.filter_cons]
        by_cases ex : e.2.2 = x
        · rw [if_pos (decide_eq_true ex), if_pos (by rw [ex]; exact List.mem_cons_self), List.length_cons]
          rw [if_neg (by rw [ex]; exact n1)] at this
          omega
        · rw [if_neg (by rw [decide_eq_true_eq]; exact ex)]
          have e2 : (e.2.2 ∈ x :: m) ↔ e.2.2 ∈ m := ⟨fun h => (List.mem_cons.mp h).elim (fun z => absurd z ex) id, List.mem_cons_of_mem _⟩
          by_cases em : e.2.2 ∈ m
          · rw [if_pos em] at this
            rw [if_pos (e2.mpr em)]
            omega
          · rw [if_neg em] at this
            rw [if_neg fun z => em (e2.mp z)]
            omega
    have := step l nd
    rw [List.length_cons]
    split at this <;> omega
theorem dL_len (P : PD) : (dL P).length ≤ P.ed.length := by
  have h := sum_ways (es := P.ed) (reach_nodup P)
  refine Nat.le_trans ?_ h
  unfold dL
  have key : ∀ l : List Int, (l.flatMap fun n => (wayP P n).map fun q => (leastF P q.1, q.2, leastF P n)).length ≤ (l.flatMap fun n => P.ed.filter fun e => decide (e.2.2 = n)).length := by
    intro l
    induction l with
    | nil => exact Nat.le_refl _
    | cons x l ih =>
      rw [List.flatMap_cons, List.flatMap_cons, List.length_append, List.length_append, List.length_map]
      have h1 : (wayP P x).length ≤ (P.ed.filter fun e => decide (e.2.2 = x)).length := by
        unfold wayP
        refine Nat.le_trans (List.length_filter_le _ _) ?_
        unfold into
        rw [List.length_map]
        exact Nat.le_refl _
      omega
  exact key _
theorem edL_len (P : PD) : (edL P).length ≤ P.ed.length := Nat.le_trans (canon_len _) (dL_len P)
theorem gL_len (P : PD) : (gL P).length ≤ P.ed.length := Nat.le_trans (List.length_filter_le _ _) (edL_len P)
theorem asc_gL (P : PD) : Asc (gL P) := asc_filter (asc_canon _) _
/-- what may be asked of P -/
structure Asked (P : PD) (asked : List Int) : Prop where
  ok : OkP P
  ne : asked ≠ []
  r : ∀ a ∈ asked, a ∈ reachL P
  few : asked.length ≤ 10
theorem kept_rng {P : PD} {asked : List Int} (h : Asked P asked) {p : Int} (hp : p ∈ keptL P asked) : InR P.pl p := reach_rng h.ok (kept_rep h.r p hp).r
theorem kept_len {P : PD} {asked : List Int} (h : Asked P asked) : ((keptL P asked).length : Int) ≤ P.pl := by
  have hl := nodup_len (m := upto P.pl.toNat) (kept_nodup P asked) fun x hx => (by
    have := kept_rng h hx
    exact mem_upto.mpr ⟨this.1, by have := this.2; omega⟩)
  rw [upto_length] at hl
  have := h.ok.p1
  omega
theorem smallE_src {P : PD} {asked : List Int} {e : E3} (h : e ∈ smallE P asked) : ∃ q ∈ gL P, q.1 ∈ keptL P asked ∧ q.2.2 ∈ keptL P asked ∧ e = (numF (keptL P asked) q.1, q.2.1, numF (keptL P asked) q.2.2) := by
  obtain ⟨q, hq, rfl⟩ := List.mem_map.mp h
  obtain ⟨h1, h2⟩ := List.mem_filter.mp hq
  have h2 := of_decide_eq_true h2
  exact ⟨q, h1, kept_step h1 h2, h2, rfl⟩
theorem small_raw {P : PD} {asked : List Int} (h : Asked P asked) : RawP ((keptL P asked).length : Int) (smallB P asked) (smallE P asked) := by
  have nd := kept_nodup P asked
  have few := h.ok.few
  have kl := kept_len h
  have p9 := h.ok.p9
  obtain ⟨p, hp, hb⟩ := kept_begin h.r h.ne
  have pos := List.length_pos_of_mem hp
  refine ⟨by omega, by omega, fun z => ?_, fun x hx => ?_, fun e he => ?_, ?_, ?_⟩
  · have : numF (keptL P asked) p ∈ smallB P asked := List.mem_map.mpr ⟨p, List.mem_filter.mpr ⟨hp, decide_eq_true hb⟩, rfl⟩
    rw [z] at this
    cases this
  · obtain ⟨y, hy, rfl⟩ := List.mem_map.mp hx
    exact numF_rng nd (List.mem_filter.mp hy).1
  · obtain ⟨q, _, h1, h2, rfl⟩ := smallE_src he
    exact ⟨numF_rng nd h1, numF_rng nd h2⟩
  · unfold smallB
    rw [List.length_map]
    have := List.length_filter_le (fun p => decide (p ∈ P.bg)) (keptL P asked)
    omega
  · unfold smallE
    rw [List.length_map]
    have h1 := List.length_filter_le (fun e : E3 => decide (e.2.2 ∈ keptL P asked)) (gL P)
    have h2 := gL_len P
    omega
theorem small_ok {P : PD} {asked : List Int} (h : Asked P asked) : OkP (smallP P asked) := by
  have nd := kept_nodup P asked
  have few := h.ok.few
  refine okP_mk (small_raw h) (by have := kept_len h; have := h.ok.p9; omega) ?_
  have h1 : (smallE P asked).length ≤ P.ed.length := by
    unfold smallE
    rw [List.length_map]
    exact Nat.le_trans (List.length_filter_le _ _) (gL_len P)
  have h2 : (smallB P asked).length ≤ P.bg.length := by
    unfold smallB
    rw [List.length_map]
    exact nodup_len (List.Pairwise.filter _ nd) fun x hx => of_decide_eq_true (List.mem_filter.mp hx).2
  omega
end FF
namespace FF
open PySem PySem.Spec PyProof.Rows L2
noncomputable def knownD (P : PD) : List ((Int × Int) × Bool) := (followL P P).map fun p => (p, true)
theorem known_has {P : PD} {p : Int × Int} : (valD (knownD P) p).isSome = yes (Fol P P p.1 p.2) := by
  refine Bool.eq_iff_iff.mpr ?_
  rw [valD_isSome, yes_iff]
  unfold knownD
  rw [List.map_map]
  have : (followL P P).map ((fun x => x.1) ∘ fun p => (p, true)) = followL P P := List.map_id _
  rw [this]
  exact mem_follow
section
variable {P : Program} {w : World} {K : PySem.W.Frag} {mg : Str → Option Value} {base : Heap} {C : Addr}
abbrev s_follow_of : Stmt := topS 19
abbrev N_follow_of : List Str := ["one", "other", "ranks", "its", "m", "n"]
abbrev P_follow_of : List Str := ["one", "other"]
theorem sc_follow_of : FnScope N_follow_of P_follow_of (C8.fnScope s_follow_of) := C8.fnScope_by (by decide +kernel)
abbrev sp_follow_of (C : Addr) : Sp := SpP (ι := PD2) (fun x => ACons (At (zPr C) x.1.1) (ACons (At (zPr C) x.1.2) ANil)) (fun x => At (zL zP2) (followL x.1.1 x.1.2))
theorem ok_follow_of {f : Addr} {fd : FuncData} (F : C8.Def K mg "follow_of" s_follow_of f fd) (b : L2.Binds K fd P_follow_of []) (T : Txt K mg C) (c_ranks_of : C8.Cal P w K mg base 4 "ranks_of" (sp_ranks_of C) []) (c_reached : C8.Met P w K mg base 2 C "reached" (sp_reached C) []) : C8.Cal P w K mg base 5 "follow_of" (sp_follow_of C) [] := by
  refine C8.cal0 F b .nil sc_follow_of (spP_len fun x G vs h => alS h fun _ h => alS h fun _ h => al0 h) (fun cdv A0 outer s H vs Q E hr h => ?_)
  obtain ⟨⟨⟨A, B⟩, oa, ob⟩, F, hF, ⟨v, r, rfl, p, v2, r2, rfl, p2, rfl⟩, kk⟩ := h
  have oa : OkP A := oa
  have ob : OkP B := ob
  have hu := hu_of hr
  refine ⟨_, (pss_cons (ps_asg (pe_tup (pa_cons (C8.pe_c c_ranks_of hr (by decide) rfl (pa_cons (pv 0) (pa_cons (pv 1) pa_nil))) (pa_cons (C8.pe_mt0 c_reached hr (by decide) (pv 1)) pa_nil))) (pg_tup rfl (pgs_cons (pg_name (i := 2) sc_follow_of.nd rfl (.inr rfl)) (pgs_cons (pg_name (i := 3) sc_follow_of.nd rfl (.inr rfl)) pgs_nil)))) (pss_one (ps_ret (pe_lc2 (own := [("m", 4), ("n", 5)]) (vs1 := [5]) rfl sc_follow_of.nd (pi_list (C8.pe_mt0 c_reached hr (by decide) (pv 0))) (blkOk_by (own := [("m", 4), ("n", 5)]) (N := N_follow_of) (sc := C8.fnScope s_follow_of) (by decide +kernel)) (by decide) (fun _ _ _ _ _ => (pg_name (i := 4) sc_follow_of.nd rfl (.inl rfl))) (fun _ _ _ _ _ => pts_nil) (fun _ _ _ _ _ => (pi_listK blkK (pv 3))) (fun _ _ _ _ _ => (pg_name (i := 5) sc_follow_of.nd rfl (.inl rfl))) (fun _ _ _ _ _ => (pts_one (pt_cmp (pc_dnotin hu (pe_tup (pa_cons (pv 4) (pa_cons (pv 5) pa_nil))) (pv 2))))) (fun _ _ _ _ _ => (pe_tup (pa_cons (pv 4) (pa_cons (pv 5) pa_nil)))))))), ?_⟩
  have n : Now ⟨F, none⟩ [] H (KAnd (KV (At (zPr C) A) v) (KV (At (zPr C) B) v2)) H := Now.start (dmP hF) ⟨p, p2⟩
  refine seq_ (s_asgP n (ev_call (x := (⟨(A, B), oa, ob⟩ : PD2)) (ea_cons (ev_var (Φ := At (zPr C) A) rfl n.kn.1) (ea_cons (ev_var (Φ := At (zPr C) B) rfl n.kn.2) ea_nil))) (ev_meth (x := (⟨B, ob⟩ : PDo)) (ev_var (Φ := At (zPr C) B) rfl n.kn.2) (ins_of rfl) ea_nil fun G v vs h1 h2 => ⟨v, vs, rfl, h1, h2⟩) fun v3 v4 H1 e1 n1 => ?_)
  obtain ⟨rl, hrl, hv3⟩ := id n1.kn.1.2
  have n2 := n1.know (K' := KAnd (KAnd (KAnd (KV (At (zPr C) A) v) (KV (At (zPr C) B) v2)) (KV (At (zDP zAny) rl) v3)) (KV (At (zL zI) (reachL B)) v4)) ⟨⟨n1.kn.1.1, hv3⟩, n1.kn.2⟩
  have ten1 := reach_ten oa
  have ten2 := reach_ten ob
  refine nx_ ?_
  refine s_ret n2 (ev_lc2 (R := zI) (S := zP2) (R1 := zI) n2.kn (ei_list (ev_meth (x := (⟨A, oa⟩ : PDo)) (ev_var (Φ := At (zPr C) A) rfl n2.kn.1.1.1) (ins_of rfl) ea_nil fun G v vs h1 h2 => ⟨v, vs, rfl, h1, h2⟩)) (by show (reachL A).length ≤ 300; omega) (fun _ => true) (fun _ => reachL B) (fun x _ => by omega) (fun m n => yes (Fol A B m n)) (fun m n => (m, n)) fun x f' H' u hx hb dm' e' k' hr' => bnd_name ⟨rfl, et_yes, fun _ => ⟨ei_list (ev_var (v := v4) rfl k'.2), fun y H'' u2 hy dm'' e'' k'' hr'' hr2 => bnd_name ⟨rfl, et_is (et_B1 (ev_dnotin get_P (ev_tup2 (R := zI) (S := zI) (ev_var (Φ := At zI x) rfl hr'') (ev_var (Φ := At zI y) rfl hr2)) (ev_var (Φ := At (zDP zAny) rl) (v := v3) rfl k''.1.2))) ?_, fun _ => ev_tup2 (R := zI) (S := zI) (ev_var (Φ := At zI x) rfl hr'') (ev_var (Φ := At zI y) rfl hr2)⟩⟩⟩) fun v5 H2 e2 n3 => ?_
  · have hx : x ∈ reachL A := hx
    have hy : y ∈ reachL B := hy
    have h1 : (valD rl (x, y)).isSome = true ↔ ¬ Fol A B x y := by
      rw [valD_isSome, hrl]
      exact ⟨fun h => h.2.2, fun h => ⟨hx, hy, h⟩⟩
    refine Bool.eq_iff_iff.mpr ?_
    rw [Bool.not_eq_true', yes_iff, ← Bool.not_eq_true, h1]
    exact Classical.not_not
  · exact kk v5 H2 n3.pure n3.kn.2
abbrev s_need_all : Stmt := topS 27
abbrev N_need_all : List Str := ["program", "places", "other", "others", "asked", "place", "some", "known", "reached"]
abbrev P_need_all : List Str := ["program", "places", "other", "others"]
theorem sc_need_all : FnScope N_need_all P_need_all (C8.fnScope s_need_all) := C8.fnScope_by (by decide +kernel)
structure NeedI where
  A : PD
  as : List Int
  B : PD
  bs : List Int
  oa : OkP A
  ob : OkP B
  ra : ∀ a ∈ as, a ∈ reachL A
  rb : ∀ b ∈ bs, b ∈ reachL B
  fa : as.length ≤ 100
  fb : bs.length ≤ 100
abbrev sp_need_all (C : Addr) : Sp := SpP (ι := NeedI) (fun x => ACons (At (zPr C) x.A) (ACons (At (zL zI) x.as) (ACons (At (zPr C) x.B) (ACons (At (zL zI) x.bs) ANil)))) (fun _ => IsV .non)
theorem ok_need_all {f : Addr} {fd : FuncData} (F : C8.Def K mg "need_all" s_need_all f fd) (b : L2.Binds K fd P_need_all []) (T : Txt K mg C) (c_need_place : C8.Cal P w K mg base 3 "need_place" (sp_need_place C) []) (c_reached : C8.Met P w K mg base 2 C "reached" (sp_reached C) []) : C8.Cal P w K mg base 4 "need_all" (sp_need_all C) [] := by
  refine C8.cal0 F b .nil sc_need_all (spP_len fun x G vs h => alS h fun _ h => alS h fun _ h => alS h fun _ h => alS h fun _ h => al0 h) (fun cdv A0 outer s H vs Q E hr h => ?_)
  obtain ⟨⟨A, as, B, bs, oa, ob, ra, rb, fa, fb⟩, F, hF, ⟨v, r, rfl, p, v2, r2, rfl, p2, v3, r3, rfl, p3, v4, r4, rfl, p4, rfl⟩, kk⟩ := h
  have hu := hu_of hr
  refine ⟨_, (pss_cons (ps_set (i := 4) sc_need_all.nd rfl (.inl rfl) (pe_op op_cat (pe_lc (own := [("place", 5)]) rfl sc_need_all.nd (pi_list (pv 1)) (blkOk_by (own := [("place", 5)]) (N := N_need_all) (sc := C8.fnScope s_need_all) (by decide +kernel)) (fun _ _ _ _ _ => (pg_name (i := 5) sc_need_all.nd rfl (.inl rfl))) (fun _ _ _ _ _ => pts_nil) (fun _ _ _ _ _ => (pe_tup (pa_cons (pv 0) (pa_cons (pv 5) pa_nil))))) (pe_lc (own := [("place", 5)]) rfl sc_need_all.nd (pi_list (pv 3)) (blkOk_by (own := [("place", 5)]) (N := N_need_all) (sc := C8.fnScope s_need_all) (by decide +kernel)) (fun _ _ _ _ _ => (pg_name (i := 5) sc_need_all.nd rfl (.inl rfl))) (fun _ _ _ _ _ => pts_nil) (fun _ _ _ _ _ => (pe_tup (pa_cons (pv 2) (pa_cons (pv 5) pa_nil))))))) (pss_cons (ps_for PassesOwn.never rfl (pi_list (pv 4)) (pg_tup rfl (pgs_cons (pg_name (i := 6) sc_need_all.nd rfl (.inl rfl)) (pgs_cons (pg_name (i := 5) sc_need_all.nd rfl (.inl rfl)) pgs_nil))) (pss_one (ps_expr (C8.pe_c c_need_place hr (by decide) rfl (pa_cons (pv 6) (pa_cons (pv 5) pa_nil)))))) (pss_cons (ps_set (i := 7) sc_need_all.nd rfl (.inl rfl) (pe_op op_cat (pe_lc (own := [("place", 5)]) rfl sc_need_all.nd (pi_list (pv 1)) (blkOk_by (own := [("place", 5)]) (N := N_need_all) (sc := C8.fnScope s_need_all) (by decide +kernel)) (fun _ _ _ _ _ => (pg_name (i := 5) sc_need_all.nd rfl (.inl rfl))) (fun _ _ _ _ _ => pts_nil) (fun _ _ _ _ _ => (pe_tup (pa_cons (C8.pe_mt0 c_reached hr (by decide) (pv 0)) (pa_cons (pv 5) pa_nil))))) (pe_lc (own := [("place", 5)]) rfl sc_need_all.nd (pi_list (pv 3)) (blkOk_by (own := [("place", 5)]) (N := N_need_all) (sc := C8.fnScope s_need_all) (by decide +kernel)) (fun _ _ _ _ _ => (pg_name (i := 5) sc_need_all.nd rfl (.inl rfl))) (fun _ _ _ _ _ => pts_nil) (fun _ _ _ _ _ => (pe_tup (pa_cons (C8.pe_mt0 c_reached hr (by decide) (pv 2)) (pa_cons (pv 5) pa_nil))))))) (pss_one (ps_for PassesOwn.never rfl (pi_list (pv 7)) (pg_tup rfl (pgs_cons (pg_name (i := 8) sc_need_all.nd rfl (.inl rfl)) (pgs_cons (pg_name (i := 5) sc_need_all.nd rfl (.inl rfl)) pgs_nil))) (pss_one (ps_if (pt_cmpR op_notIn_seq (pv 5) (pv 8) (by rfl)) (pss_one ps_never) pss_nil))))))), ?_⟩
  have n : Now ⟨F, none⟩ [] H (KAnd (KAnd (KV (At (zPr C) A) v) (KV (At (zL zI) as) v2)) (KAnd (KV (At (zPr C) B) v3) (KV (At (zL zI) bs) v4))) H := Now.start (dmP hF) ⟨⟨p, p2⟩, p3, p4⟩
  refine seq_ (s_set n (ev_op (EvP.is (y := as.map fun a => (A, a)) (ev_lcD (S := zT2 (zPr C) zI) n.kn (ei_list (R := zI) (ev_var (v := v2) rfl n.kn.1.2)) (by omega) (fun _ => true) (fun a => (A, a)) fun x f' H' u hx hb dm' e' k' hr' => bnd_name ⟨rfl, et_yes, fun _ => ev_tup2 (R := zPr C) (S := zI) (ev_var (Φ := At (zPr C) A) (v := v) rfl k'.1.1) (ev_var (Φ := At zI x) rfl hr')⟩) (by rw [filter_yes])) (EvP.is (y := bs.map fun a => (B, a)) (ev_lcD (S := zT2 (zPr C) zI) n.kn (ei_list (R := zI) (ev_var (v := v4) rfl n.kn.2.2)) (by omega) (fun _ => true) (fun a => (B, a)) fun x f' H' u hx hb dm' e' k' hr' => bnd_name ⟨rfl, et_yes, fun _ => ev_tup2 (R := zPr C) (S := zI) (ev_var (Φ := At (zPr C) B) (v := v3) rfl k'.2.1) (ev_var (Φ := At zI x) rfl hr')⟩) (by rw [filter_yes])) (ru_cat (by rw [List.length_map, List.length_map]; omega))) fun v5 H1 e1 n1 => ?_)
  have pls : ∀ q ∈ (as.map fun a => (A, a)) ++ bs.map fun a => (B, a), OkP q.1 ∧ q.2 ∈ reachL q.1 := fun q hq => by
    rcases List.mem_append.mp hq with hq | hq <;> obtain ⟨x, hx, rfl⟩ := List.mem_map.mp hq
    · exact ⟨oa, ra x hx⟩
    · exact ⟨ob, rb x hx⟩
  refine nx_ (seq_ ?_)
  refine s_for n1 (ei_list (R := zT2 (zPr C) zI) (ev_var (v := v5) rfl n1.kn.2)) fun Kn H2 sKn e2 n2 => ?_
  refine ⟨fun i σ' H' => ∃ a b, σ' = [some v, some v2, some v3, some v4, some v5, a, b, none, none] ∧ Now ⟨F, none⟩ [] H (KAnd (KAnd (KAnd (KAnd (KV (At (zPr C) A) v) (KV (At (zL zI) as) v2)) (KAnd (KV (At (zPr C) B) v3) (KV (At (zL zI) bs) v4))) (KV (At (zL (zT2 (zPr C) zI)) ((as.map fun a => (A, a)) ++ bs.map fun a => (B, a))) v5)) Kn) H', ⟨none, none, rfl, n2⟩, ?_, ?_, ?_⟩
  · rintro i σ' H' ⟨a, b, rfl, n3⟩
    exact ⟨n3.dm, n3.kn.2⟩
  · rintro i ⟨X, x⟩ u σ' H' H'' hx ⟨a, b, rfl, n3⟩ sm hu'
    have n4 := n3.go (re.same sm)
    have hX := pls _ (List.mem_of_getElem? hx)
    refine bnd_tup2 (F := F) hu' (fun t u1 u2 _ _ h1 h2 => ?_) _ fun σ2 z => z
    refine s_expr n4 (ev_call (x := (⟨(X, x), reach_rng hX.1 hX.2⟩ : InPl)) (ea_cons (ev_var (Φ := At (zPr C) X) (v := u1) rfl h1) (ea_cons (ev_var (Φ := At zI x) (v := u2) rfl h2) ea_nil))) fun H3 e3 n5 => ?_
    exact ⟨_, _, rfl, n5⟩
  · rintro σ' H' ⟨a, b, rfl, n3⟩
    have n4 := n3.know n3.kn.1.1
    refine nx_ (seq_ ?_)
    have ten1 := reach_ten oa
    refine s_set n4 (ev_op (EvP.is (y := as.map fun a => (reachL A, a)) (ev_lcD (S := zT2 (zL zI) zI) n4.kn (ei_list (R := zI) (ev_var (v := v2) rfl n4.kn.1.2)) (by omega) (fun _ => true) (fun a => (reachL A, a)) fun x f' H' u hx hb dm' e' k' hr' => bnd_name ⟨rfl, et_yes, fun _ => ev_tup2 (R := zL zI) (S := zI) (ev_meth (x := (⟨A, oa⟩ : PDo)) (ev_var (Φ := At (zPr C) A) (v := v) rfl k'.1.1) (ins_of rfl) ea_nil fun G v vs h1 h2 => ⟨v, vs, rfl, h1, h2⟩) (ev_var (Φ := At zI x) rfl hr')⟩) (by rw [filter_yes])) (EvP.is (y := bs.map fun a => (reachL B, a)) (ev_lcD (S := zT2 (zL zI) zI) n4.kn (ei_list (R := zI) (ev_var (v := v4) rfl n4.kn.2.2)) (by omega) (fun _ => true) (fun a => (reachL B, a)) fun x f' H' u hx hb dm' e' k' hr' => bnd_name ⟨rfl, et_yes, fun _ => ev_tup2 (R := zL zI) (S := zI) (ev_meth (x := (⟨B, ob⟩ : PDo)) (ev_var (Φ := At (zPr C) B) (v := v3) rfl k'.2.1) (ins_of rfl) ea_nil fun G v vs h1 h2 => ⟨v, vs, rfl, h1, h2⟩) (ev_var (Φ := At zI x) rfl hr')⟩) (by rw [filter_yes])) (ru_cat (by rw [List.length_map, List.length_map]; omega))) fun v6 H4 e4 n5 => ?_
    have pls2 : ∀ q ∈ (as.map fun a => (reachL A, a)) ++ bs.map fun a => (reachL B, a), q.2 ∈ q.1 := fun q hq => by
      rcases List.mem_append.mp hq with hq | hq <;> obtain ⟨x, hx, rfl⟩ := List.mem_map.mp hq
      · exact ra x hx
      · exact rb x hx
    refine nx_ ?_
    refine s_for n5 (ei_list (R := zT2 (zL zI) zI) (ev_var (v := v6) rfl n5.kn.2)) fun Kn2 H5 sKn2 e5 n6 => ?_
    refine ⟨fun i σ' H' => ∃ a b c, σ' = [some v, some v2, some v3, some v4, some v5, a, b, some v6, c] ∧ Now ⟨F, none⟩ [] H (KAnd (KAnd (KAnd (KAnd (KV (At (zPr C) A) v) (KV (At (zL zI) as) v2)) (KAnd (KV (At (zPr C) B) v3) (KV (At (zL zI) bs) v4))) (KV (At (zL (zT2 (zL zI) zI)) ((as.map fun a => (reachL A, a)) ++ bs.map fun a => (reachL B, a))) v6)) Kn2) H', ⟨_, _, _, rfl, n6⟩, ?_, ?_, ?_⟩
    · rintro i σ' H' ⟨a, b, c, rfl, n3⟩
      exact ⟨n3.dm, n3.kn.2⟩
    · rintro i ⟨X, x⟩ u σ' H' H'' hx ⟨a, b, c, rfl, n3⟩ sm hu'
      have n4 := n3.go (re.same sm)
      have hX := pls2 _ (List.mem_of_getElem? hx)
      refine bnd_tup2 (F := F) hu' (fun t u1 u2 _ _ h1 h2 => ?_) _ fun σ2 z => z
      refine s_if n4 (et_is (b := false) (et_B1 (ev_op (ev_var (Φ := At zI x) (v := u2) rfl h2) (ev_var (Φ := At (zL zI) X) (v := u1) rfl h1) ru_notInI)) ?_) (fun h => absurd h (by decide)) fun _ H3 e3 n5 => ?_
      · rw [decide_eq_true hX]; rfl
      · exact ⟨_, _, _, rfl, n5⟩
    · rintro σ' H' ⟨a, b, c, rfl, n3⟩
      exact kk .non H' n3.pure rfl
end
end FF
namespace FF
open PySem PySem.Spec PyProof.Rows L2
noncomputable def leastD (P : PD) : List (Int × Int) := (reachL P).map fun n => (n, leastF P n)
theorem valD_least {P : PD} {n : Int} (h : n ∈ reachL P) : valD (leastD P) n = some (leastF P n) := valD_map (ky := fun n => n) (fn := leastF P) (fun x _ y _ e => e) h
abbrev zKn : Rep (List ((Int × Int) × Bool)) := zDP zB
section
variable {P : Program} {w : World} {K : PySem.W.Frag} {mg : Str → Option Value} {base : Heap} {C : Addr}
abbrev s_least_alike : Stmt := topS 28
abbrev N_least_alike : List Str := ["program", "known", "found", "reached", "place", "other"]
abbrev P_least_alike : List Str := ["program", "known"]
theorem sc_least_alike : FnScope N_least_alike P_least_alike (C8.fnScope s_least_alike) := C8.fnScope_by (by decide +kernel)
abbrev sp_least_alike (C : Addr) : Sp := SpP (ι := PDo) (fun x => ACons (At (zPr C) x.1) (ACons (At zKn (knownD x.1)) ANil)) (fun x => At (zDI zI) (leastD x.1))
theorem ok_least_alike {f : Addr} {fd : FuncData} (F : C8.Def K mg "least_alike" s_least_alike f fd) (b : L2.Binds K fd P_least_alike []) (T : Txt K mg C) (c_reached : C8.Met P w K mg base 2 C "reached" (sp_reached C) []) : C8.Cal P w K mg base 3 "least_alike" (sp_least_alike C) [] := by
  refine C8.cal0 F b .nil sc_least_alike (spP_len fun x G vs h => alS h fun _ h => alS h fun _ h => al0 h) (fun cdv A0 outer s H vs Q E hr h => ?_)
  obtain ⟨⟨A, oa⟩, F, hF, ⟨v, r, rfl, p, v2, r2, rfl, p2, rfl⟩, kk⟩ := h
  have hu := hu_of hr
  refine ⟨_, (pss_cons (ps_par rfl sc_least_alike.nd (show N_least_alike[2]? = _ from rfl) (show N_least_alike[3]? = _ from rfl) (by decide) rfl rfl (pa_cons pe_dnewK (pa_cons (C8.pe_mt0 c_reached hr (by decide) (pv 0)) pa_nil)) (by rfl)) (pss_cons (ps_for PassesOwn.never rfl (pi_list (pv 3)) (pg_name (i := 4) sc_least_alike.nd rfl (.inr rfl)) (pss_one (ps_dput hu (pv 2) (pv 4) (pe_callB (cr_min rfl) (by rfl) T.m_min (by decide +kernel) (pa_cons (pe_lc (own := [("other", 5)]) rfl sc_least_alike.nd (pi_list (pv 3)) (blkOk_by (own := [("other", 5)]) (N := N_least_alike) (sc := C8.fnScope s_least_alike) (by decide +kernel)) (fun _ _ _ _ _ => (pg_name (i := 5) sc_least_alike.nd rfl (.inl rfl))) (fun _ _ _ _ _ => (pts_one (PW.pt (pw_and (pt_cmp (pc_din hu (pe_tup (pa_cons (pv 4) (pa_cons (pv 5) pa_nil))) (pv 1))) (pw_and1 (pt_cmp (pc_din hu (pe_tup (pa_cons (pv 5) (pa_cons (pv 4) pa_nil))) (pv 1)))))))) (fun _ _ _ _ _ => (pv 5))) pa_nil)) rfl))) (pss_one (ps_ret (pv 2))))), ?_⟩
  have n : Now ⟨F, none⟩ [] H (KAnd (KV (At (zPr C) A) v) (KV (At zKn (knownD A)) v2)) H := Now.start (dmP hF) ⟨p, p2⟩
  have ten := reach_ten oa
  refine seq_ ?_
  refine (fun d hd => ?_ : ∀ d, H d = none → _)
  have n1 := n.new (o := .dK []) hd
  refine (ev_meth (f := ⟨d :: F, none⟩) (x := (⟨A, oa⟩ : PDo)) (ev_var (Φ := At (zPr C) A) (v := v) rfl n1.kn.1) (ins_of rfl) ea_nil fun G v vs h1 h2 => ⟨v, vs, rfl, h1, h2⟩) _ (re.refl _) n1.dm _ fun v4 H1 e1 p4 => ?_
  have n2 := (n1.go e1).know (K' := KAnd (KAnd (KV (At (zPr C) A) v) (KV (At zKn (knownD A)) v2)) (KV (At (zL zI) (reachL A)) v4)) ⟨(n1.go e1).kn, p4⟩
  have h1 : H1 d = some (.dK []) := e1.keep (fun z => nomatch z) upd_same
  refine ⟨_, _, rfl, nx_ (seq_ ?_)⟩
  refine s_for n2 (ei_list (R := zI) (ev_var (v := v4) rfl n2.kn.2)) fun Kn H2 sKn e2 n3 => ?_
  have dF : d ∉ F := n.dm.new hd
  refine ⟨fun i σ' H' => ∃ a b kx, σ' = [some v, some v2, some (.ref d), some v4, a, b] ∧ H' d = some (.dK kx) ∧ Paired (fun (kv : Key × V) (p : Int × Int) => kv.1 = kI p.1 ∧ kv.2 = .int p.2) kx (((reachL A).take i).map fun n => (n, leastF A n)) ∧ Now ⟨d :: F, none⟩ [d] H (KAnd (KAnd (KAnd (KV (At (zPr C) A) v) (KV (At zKn (knownD A)) v2)) (KV (At (zL zI) (reachL A)) v4)) Kn) H', ⟨none, none, [], rfl, e2.keep (fun z => nomatch z) h1, .nil, n3⟩, ?_, ?_, ?_⟩
  · rintro i σ' H' ⟨a, b, kx, rfl, _, _, n4⟩
    exact ⟨n4.dm, n4.kn.2⟩
  · rintro i x u σ' H' H'' hx ⟨a, b, kx, rfl, hkx, pkx, n4⟩ sm hu'
    obtain rfl : u = .int x := hu'
    have n5 := n4.go (re.same sm)
    have hx' : x ∈ reachL A := List.mem_of_getElem? hx
    have il : i < (reachL A).length := (List.getElem?_eq_some_iff.mp hx).1
    have hkx' := sm _ _ hkx
    have tk : (reachL A).take (i + 1) = (reachL A).take i ++ [x] := by
      rw [List.take_add_one, hx]; rfl
    have ne : ((reachL A).filter fun o => yes (Fol A A x o) && yes (Fol A A o x)) ≠ [] := fun z => by
      have : x ∈ (reachL A).filter fun o => yes (Fol A A x o) && yes (Fol A A o x) := List.mem_filter.mpr ⟨hx', by rw [Bool.and_eq_true, yes_iff]; exact ⟨fol_refl hx', fol_refl hx'⟩⟩
      rw [z] at this
      cases this
    refine (ev_cb (Φ := At zI (leastF A x)) (ea_cons (EvP.is (y := (reachL A).filter fun o => yes (Fol A A x o) && yes (Fol A A o x)) (ev_lcD (S := zI) (K := KAnd (KAnd (KAnd (KAnd (KV (At (zPr C) A) v) (KV (At zKn (knownD A)) v2)) (KV (At (zL zI) (reachL A)) v4)) Kn) (KV (At zI x) (.int x))) (f := ⟨d :: F, none⟩) ⟨n5.kn, rfl⟩ (ei_list (R := zI) (ev_var (v := v4) rfl n5.kn.1.2)) (by omega) (fun o => yes (Fol A A x o) && yes (Fol A A o x)) (fun o => o) fun o f' H3 u ho hb dm' e' k' hr' => bnd_name ⟨rfl, et_and (et_is (et_B1 (ev_din get_P (ev_tup2 (R := zI) (S := zI) (ev_var (Φ := At zI x) (v := .int x) rfl rfl) (ev_var (Φ := At zI o) rfl hr')) (ev_var (Φ := At zKn (knownD A)) (v := v2) rfl k'.1.1.1.2))) known_has) (fun _ => et_is (et_B1 (ev_din get_P (ev_tup2 (R := zI) (S := zI) (ev_var (Φ := At zI o) rfl hr') (ev_var (Φ := At zI x) (v := .int x) rfl rfl)) (ev_var (Φ := At zKn (knownD A)) (v := v2) rfl k'.1.1.1.2))) known_has), fun _ => ev_var (Φ := At zI o) rfl hr'⟩) (by rw [map_same])) ea_nil) ?_) H'' (re.refl _) n5.dm _ fun v6 H3 e3 p6 => ?_
    · intro H3 vs e d3 p Q q
      refine ra_min ne H3 vs e d3 p Q fun v H4 e4 ⟨m, ⟨hm1, hm2⟩, em⟩ => q v H4 e4 ?_
      have : leastF A x = m := asc_head (asc_filter (asc_cloL _ _) _) hm1 hm2
      show v = .int (leastF A x)
      rw [this]
      exact em
    · have n6 := n5.go e3
      have h3 : H3 d = some (.dK kx) := e3.keep (fun z => nomatch z) hkx'
      have kl : kx.length = i := by
        rw [Paired.length pkx, List.length_map, List.length_take]
        omega
      have fresh : valV kx (kI x) = none := by
        refine valV_none fun kv hkv he => ?_
        have hm : kv.1 ∈ kx.map (·.1) := List.mem_map.mpr ⟨kv, hkv, rfl⟩
        have ek : (((reachL A).take i).map fun n => (n, leastF A n)).map (·.1) = (reachL A).take i := by rw [List.map_map]; exact List.map_id _
        rw [keys_map (S := fun v n => v = .int n) pkx, ek, he] at hm
        obtain ⟨z, hz, ez⟩ := List.mem_map.mp hm
        have ez : z = x := put_I.inj _ _ ez
        rw [ez] at hz
        have nd := reach_nodup A
        rw [← List.take_append_drop (i + 1) (reachL A), tk, List.append_assoc] at nd
        exact (List.nodup_append.mp nd).2.2 _ hz _ List.mem_cons_self rfl
      obtain rfl : v6 = .int (leastF A x) := p6
      refine ⟨.ref d, rfl, .int x, rfl, d, _, rfl, DPut.k (k := kI x) h3 (Nat.lt_of_le_of_lt (by omega : kx.length ≤ 100000) (by decide)), _, _, putK kx (kI x) (.int (leastF A x)), rfl, upd_same, ?_, n6.upd List.mem_cons_self⟩
      rw [putK_new _ fresh, tk, List.map_append]
      exact pair_app pkx (.cons ⟨rfl, rfl⟩ .nil)
  · rintro σ' H' ⟨a, b, kx, rfl, hkx, pkx, n4⟩
    rw [List.take_length] at pkx
    refine ⟨.ref d, rfl, kk (.ref d) H' n4.pure ⟨d, kx, rfl, .inl (by rw [hid_out dF]; exact hkx), pkx⟩⟩
abbrev s_are_like_places : Stmt := topS 32
abbrev N_are_like_places : List Str := ["one", "places", "other", "others", "mine", "its", "place", "there"]
abbrev P_are_like_places : List Str := ["one", "places", "other", "others"]
theorem sc_are_like_places : FnScope N_are_like_places P_are_like_places (C8.fnScope s_are_like_places) := C8.fnScope_by (by decide +kernel)
def likeB (A B : PD) (as bs : List Int) : Prop := ∀ q ∈ as.zip bs, Alk A B q.1 q.2
abbrev sp_are_like_places (C : Addr) : Sp := SpP (ι := NeedI) (fun x => ACons (At (zPr C) x.A) (ACons (At (zL zI) x.as) (ACons (At (zPr C) x.B) (ACons (At (zL zI) x.bs) ANil)))) (fun x => At zB (yes (likeB x.A x.B x.as x.bs)))
theorem ok_are_like_places {f : Addr} {fd : FuncData} (F : C8.Def K mg "are_like_places" s_are_like_places f fd) (b : L2.Binds K fd P_are_like_places []) (T : Txt K mg C) (c_need_all : C8.Cal P w K mg base 4 "need_all" (sp_need_all C) []) (c_follow_of : C8.Cal P w K mg base 5 "follow_of" (sp_follow_of C) []) : C8.Cal P w K mg base 6 "are_like_places" (sp_are_like_places C) [] := by
  refine C8.cal0 F b .nil sc_are_like_places (spP_len fun x G vs h => alS h fun _ h => alS h fun _ h => alS h fun _ h => alS h fun _ h => al0 h) (fun cdv A0 outer s H vs Q E hr h => ?_)
  obtain ⟨⟨A, as, B, bs, oa, ob, ra, rb, fa, fb⟩, F, hF, ⟨v, r, rfl, p, v2, r2, rfl, p2, v3, r3, rfl, p3, v4, r4, rfl, p4, rfl⟩, kk⟩ := h
  have hu := hu_of hr
  refine ⟨_, (pss_cons (ps_expr (C8.pe_c c_need_all hr (by decide) rfl (pa_cons (pv 0) (pa_cons (pv 1) (pa_cons (pv 2) (pa_cons (pv 3) pa_nil)))))) (pss_cons (ps_asg (pe_tup (pa_cons (C8.pe_c c_follow_of hr (by decide) rfl (pa_cons (pv 0) (pa_cons (pv 2) pa_nil))) (pa_cons (C8.pe_c c_follow_of hr (by decide) rfl (pa_cons (pv 2) (pa_cons (pv 0) pa_nil))) pa_nil))) (pg_tup rfl (pgs_cons (pg_name (i := 4) sc_are_like_places.nd rfl (.inr rfl)) (pgs_cons (pg_name (i := 5) sc_are_like_places.nd rfl (.inr rfl)) pgs_nil)))) (pss_one (ps_ret (pe_callB (cr_all rfl) (by rfl) T.m_all (by decide +kernel) (pa_cons (pe_lc (own := [("place", 6), ("there", 7)]) rfl sc_are_like_places.nd (pi_zip (by rfl) T.m_zip (pa_cons (pv 1) (pa_cons (pv 3) pa_nil))) (blkOk_by (own := [("place", 6), ("there", 7)]) (N := N_are_like_places) (sc := C8.fnScope s_are_like_places) (by decide +kernel)) (fun _ _ _ _ _ => (pg_tupK (n := 2) blkK (by rfl) (pgs_cons (pg_name (i := 6) sc_are_like_places.nd rfl (.inl rfl)) (pgs_cons (pg_name (i := 7) sc_are_like_places.nd rfl (.inl rfl)) pgs_nil)))) (fun _ _ _ _ _ => pts_nil) (fun _ _ _ _ _ => (pe_and (pe_cmpR (op_inDK blkK hr.unitsD) (pe_tup (pa_cons (pv 6) (pa_cons (pv 7) pa_nil))) (pv 4) (by rfl)) (pe_one (pe_cmpR (op_inDK blkK hr.unitsD) (pe_tup (pa_cons (pv 7) (pa_cons (pv 6) pa_nil))) (pv 5) (by rfl)))))) pa_nil)))))), ?_⟩
  have n : Now ⟨F, none⟩ [] H (KAnd (KAnd (KV (At (zPr C) A) v) (KV (At (zL zI) as) v2)) (KAnd (KV (At (zPr C) B) v3) (KV (At (zL zI) bs) v4))) H := Now.start (dmP hF) ⟨⟨p, p2⟩, p3, p4⟩
  refine seq_ (s_expr n (ev_call (x := (⟨A, as, B, bs, oa, ob, ra, rb, fa, fb⟩ : NeedI)) (ea_cons (ev_var (Φ := At (zPr C) A) (v := v) rfl n.kn.1.1) (ea_cons (ev_var (Φ := At (zL zI) as) (v := v2) rfl n.kn.1.2) (ea_cons (ev_var (Φ := At (zPr C) B) (v := v3) rfl n.kn.2.1) (ea_cons (ev_var (Φ := At (zL zI) bs) (v := v4) rfl n.kn.2.2) ea_nil))))) fun H1 e1 n1 => ?_)
  refine nx_ (seq_ ?_)
  refine s_asgP n1 (ev_call (x := (⟨(A, B), oa, ob⟩ : PD2)) (ea_cons (ev_var (Φ := At (zPr C) A) (v := v) rfl n1.kn.1.1) (ea_cons (ev_var (Φ := At (zPr C) B) (v := v3) rfl n1.kn.2.1) ea_nil))) (ev_call (x := (⟨(B, A), ob, oa⟩ : PD2)) (ea_cons (ev_var (Φ := At (zPr C) B) (v := v3) rfl n1.kn.2.1) (ea_cons (ev_var (Φ := At (zPr C) A) (v := v) rfl n1.kn.1.1) ea_nil))) fun v5 v6 H2 e2 n2 => ?_
  refine nx_ ?_
  refine s_ret n2 (EvP.is (y := yes (likeB A B as bs)) (ev_cb (ea_cons (ev_lcD (S := zB) n2.kn (ei_zip (R := zI) (S := zI) (ea_cons (ev_var (Φ := At (zL zI) as) (v := v2) rfl n2.kn.1.1.1.2) (ea_cons (ev_var (Φ := At (zL zI) bs) (v := v4) rfl n2.kn.1.1.2.2) ea_nil))) ?_ (fun _ => true) (fun q => decide ((q.1, q.2) ∈ followL A B) && decide ((q.2, q.1) ∈ followL B A)) fun q f' H3 u hq hb dm' e' k' hr' => bnd_tup2 hr' fun t u1 u2 _ _ h1 h2 => ⟨rfl, et_yes, fun _ => ?_⟩) ea_nil) ra_all) ?_) fun v7 H3 e3 n3 => ?_
  · rw [List.length_zip]
    omega
  · exact ev_andV (ev_op (ev_tup2 (R := zI) (S := zI) (ev_var (Φ := At zI q.1) rfl h1) (ev_var (Φ := At zI q.2) rfl h2)) (ev_var (Φ := At (zL zP2) (followL A B)) (v := v5) rfl k'.1.2) (ru_inDb decide_eq_true_iff)) fun _ => ev_op (ev_tup2 (R := zI) (S := zI) (ev_var (Φ := At zI q.2) rfl h2) (ev_var (Φ := At zI q.1) rfl h1)) (ev_var (Φ := At (zL zP2) (followL B A)) (v := v6) rfl k'.2) (ru_inDb decide_eq_true_iff)
  · refine Bool.eq_iff_iff.mpr ?_
    rw [yes_iff, filter_yes, List.all_map, List.all_eq_true]
    unfold likeB
    refine forall_congr' fun q => forall_congr' fun _ => ?_
    show (decide ((q.1, q.2) ∈ followL A B) && decide ((q.2, q.1) ∈ followL B A)) = true ↔ _
    rw [Bool.and_eq_true, decide_eq_true_eq, decide_eq_true_eq, mem_follow, mem_follow]
    rfl
  · exact kk v7 H3 n3.pure n3.kn.2
end
end FF
namespace FF
open PySem PySem.Spec PyProof.Rows L2
theorem names_of {C : Addr} {G : Hp} {v : V} {P : PD} (h : zPr C G v P) : ∀ e ∈ P.ed, IsNm e.2.1 := by
  obtain ⟨_, _, _, _, _, _, _, _, _, _, xs, _, _, hp⟩ := h
  obtain ⟨ks, _, _, _, ho⟩ := rows_list (R := zE) hp
  exact ho
theorem names_dL {P : PD} (h : ∀ e ∈ P.ed, IsNm e.2.1) : ∀ e ∈ dL P, IsNm e.2.1 := fun e he => by
  obtain ⟨n, k, _, hk, _, _⟩ := mem_dL.mp he
  exact h (k, e.2.1, n) (mem_way.mp hk).1
section
variable {P : Program} {w : World} {K : PySem.W.Frag} {mg : Str → Option Value} {base : Heap} {C : Addr}
abbrev s_greatest_edges : Stmt := topS 29
abbrev N_greatest_edges : List Str := ["program", "known", "least", "ways", "edges", "place", "k", "name", "found", "beside", "l", "other", "there"]
abbrev P_greatest_edges : List Str := ["program", "known", "least"]
theorem sc_greatest_edges : FnScope N_greatest_edges P_greatest_edges (C8.fnScope s_greatest_edges) := C8.fnScope_by (by decide +kernel)
abbrev sp_greatest_edges (C : Addr) : Sp := SpP (ι := PDo) (fun x => ACons (At (zPr C) x.1) (ACons (At zKn (knownD x.1)) (ACons (At (zDI zI) (leastD x.1)) ANil))) (fun x => At (zL zE) (gL x.1))
theorem ok_greatest_edges {f : Addr} {fd : FuncData} (F : C8.Def K mg "greatest_edges" s_greatest_edges f fd) (b : L2.Binds K fd P_greatest_edges []) (T : Txt K mg C) (c_ways_in : C8.Cal P w K mg base 3 "ways_in" (sp_ways_in C) []) : C8.Cal P w K mg base 4 "greatest_edges" (sp_greatest_edges C) [] := by
  refine C8.cal0 F b .nil sc_greatest_edges (spP_len fun x G vs h => alS h fun _ h => alS h fun _ h => alS h fun _ h => al0 h) (fun cdv A0 outer s H vs Q E hr h => ?_)
  obtain ⟨⟨A, oa⟩, F, hF, ⟨v, r, rfl, p, v2, r2, rfl, p2, v3, r3, rfl, p3, rfl⟩, kk⟩ := h
  have hu := hu_of hr
  refine ⟨_, (pss_cons (ps_set (i := 3) sc_greatest_edges.nd rfl (.inr rfl) (C8.pe_c c_ways_in hr (by decide) rfl (pa_cons (pv 0) pa_nil))) (pss_cons (ps_set (i := 4) sc_greatest_edges.nd rfl (.inl rfl) (pe_callB (cr_sortedMS rfl) (by rfl) T.m_sorted (by decide +kernel) (pa_cons (pe_lock (pe_sc2 (own := [("place", 5), ("k", 6), ("name", 7)]) (vs1 := [6, 7]) hr.units rfl sc_greatest_edges.nd (pi_keys (pv 3)) (blkOk_by (own := [("place", 5), ("k", 6), ("name", 7)]) (N := N_greatest_edges) (sc := C8.fnScope s_greatest_edges) (by decide +kernel)) (by decide) (fun _ _ _ _ _ => (pg_name (i := 5) sc_greatest_edges.nd rfl (.inl rfl))) (fun _ _ _ _ _ => pts_nil) (fun _ _ _ _ _ => (pi_listK blkK (pe_dget hu (pv 3) (pv 5) (fun _ _ => rfl)))) (fun _ _ _ _ _ => (pg_tupK (n := 2) blkK (by rfl) (pgs_cons (pg_name (i := 6) sc_greatest_edges.nd rfl (.inl rfl)) (pgs_cons (pg_name (i := 7) sc_greatest_edges.nd rfl (.inl rfl)) pgs_nil)))) (fun _ _ _ _ _ => pts_nil) (fun _ _ _ _ _ => (pe_tup (pa_cons (pe_dget hu (pv 2) (pv 6) (fun _ _ => rfl)) (pa_cons (pv 7) (pa_cons (pe_dget hu (pv 2) (pv 5) (fun _ _ => rfl)) pa_nil))))))) pa_nil))) (pss_cons (ps_set (i := 8) sc_greatest_edges.nd rfl (.inl rfl) (pe_lst pa_nil)) (pss_cons (ps_for PassesOwn.never rfl (pi_list (pv 4)) (pg_tup rfl (pgs_cons (pg_name (i := 6) sc_greatest_edges.nd rfl (.inr rfl)) (pgs_cons (pg_name (i := 7) sc_greatest_edges.nd rfl (.inr rfl)) (pgs_cons (pg_name (i := 5) sc_greatest_edges.nd rfl (.inr rfl)) pgs_nil)))) (pss_cons (ps_setLc (i := 9) (own := [("l", 10), ("other", 11), ("there", 12)]) rfl sc_greatest_edges.nd rfl rfl (sw_true rfl rfl rfl (by decide +kernel)) (pi_list (pv 4)) (blkOk_by (own := [("l", 10), ("other", 11), ("there", 12)]) (N := N_greatest_edges) (sc := C8.fnScope s_greatest_edges) (by decide +kernel)) (fun _ _ _ _ _ => (pg_tupK (n := 3) blkK (by rfl) (pgs_cons (pg_name (i := 10) sc_greatest_edges.nd rfl (.inl rfl)) (pgs_cons (pg_name (i := 11) sc_greatest_edges.nd rfl (.inl rfl)) (pgs_cons (pg_name (i := 12) sc_greatest_edges.nd rfl (.inl rfl)) pgs_nil))))) (fun _ _ _ _ _ => (pts_one (PW.pt (pw_and (pt_cmpR op_ne (pv 10) (pv 6) (nomark _)) (pw_and1 (pt_cmpR (op_eqDK blkK hr.units) (pe_tup (pa_cons (pv 11) (pa_cons (pv 12) pa_nil))) (pe_tup (pa_cons (pv 7) (pa_cons (pv 5) pa_nil))) (nomark _))))))) (fun _ _ _ _ _ => (pv 10))) (pss_one (ps_if (pt_not (pt_val (pe_callB (cr_any rfl) (by rfl) T.m_any (by decide +kernel) (pa_cons (pe_lc (own := [("l", 10)]) rfl sc_greatest_edges.nd (pi_list (pv 9)) (blkOk_by (own := [("l", 10)]) (N := N_greatest_edges) (sc := C8.fnScope s_greatest_edges) (by decide +kernel)) (fun _ _ _ _ _ => (pg_name (i := 10) sc_greatest_edges.nd rfl (.inl rfl))) (fun _ _ _ _ _ => pts_nil) (fun _ _ _ _ _ => (pe_cmp (pc_din hu (pe_tup (pa_cons (pv 6) (pa_cons (pv 10) pa_nil))) (pv 1)) (by rfl)))) pa_nil)))) (pss_one (ps_expr (pe_bm PySem.F.plainAttrs_list PySem.F.slot_list_append PySem.F.type_list_append mt_append (pv 8) (pa_cons (pe_tup (pa_cons (pv 6) (pa_cons (pv 7) (pa_cons (pv 5) pa_nil)))) pa_nil)))) pss_nil)))) (pss_one (ps_ret (pv 8))))))), ?_⟩
  have nm := names_of p
  have n : Now ⟨F, none⟩ [] H (KAnd (KAnd (KV (At (zPr C) A) v) (KV (At zKn (knownD A)) v2)) (KV (At (zDI zI) (leastD A)) v3)) H := Now.start (dmP hF) ⟨⟨p, p2⟩, p3⟩
  refine seq_ (s_setN n (en_call (x := (⟨A, oa⟩ : PDo)) (ea_cons (ev_var (Φ := At (zPr C) A) (v := v) rfl n.kn.1.1) ea_nil)) fun d H1 hd e1 n0 => ?_)
  have dF : d ∉ F := n.dm.new hd
  obtain ⟨_, kv1, ed1, h1, _⟩ := id n0.kn.2
  cases ed1
  have h1 : H1 d = some (.dK kv1) := hid_same _ _ h1
  have du1 : DictO (.dK kv1) := trivial
  have n1 : Now ⟨F, none⟩ [] H (KAnd (KAnd (KAnd (KV (At (zPr C) A) v) (KV (At zKn (knownD A)) v2)) (KV (At (zDI zI) (leastD A)) v3)) (KV (At zW (waysL A)) (.ref d))) H1 := n0.know ⟨n0.kn.1, zU_zD n0.kn.2⟩
  have ten := reach_ten oa
  have few := oa.few
  have edl : ((waysL A).map (·.1)).flatMap (row (fun _ => true) (wayP A) (fun _ _ => true) fun n q => (leastF A q.1, q.2, leastF A n)) = dL A := by
    rw [ways_keys]
    unfold dL
    congr 1
    funext n
    exact row_all
  refine nx_ (seq_ ?_)
  refine s_set n1 (Φ := At (zL zE) (edL A)) (ev_cb (ea_cons (Φ := SetK P w fun k => ∃ z ∈ dL A, k = KeyR.enc zE z) (ev_lock du1 h1 dF n1.dm fun od dm1 => ?_) ea_nil) (ra_sortedK (R := zE) (names_dL nm) fun k => Iff.rfl)) fun v4 H2 e2 n2 => ?_
  · have kn1 : KAnd (KAnd (KAnd (KV (At (zPr C) A) v) (KV (At zKn (knownD A)) v2)) (KV (At (zDI zI) (leastD A)) v3)) (KV (At zW (waysL A)) (.ref d)) (hid F (upd H1 d (.frz od (.dK kv1)))) := LkH.up (up_lock du1 h1) n1.kn
    have lk : Lkd HO.dK kI (zL zPN) d (waysL A) (hid F (upd H1 d (.frz od (.dK kv1)))) := lkd_of dK_inj kn1.2 (by rw [hid_out dF]; exact upd_same)
    have big := dL_len A
    rw [← edl]
    refine ev_sc2 (P := P) (w := w) (S := zE) (R := zI) (R1 := zPN) (K := KAnd (KAnd (KAnd (KAnd (KV (At (zPr C) A) v) (KV (At zKn (knownD A)) v2)) (KV (At (zDI zI) (leastD A)) v3)) (KV (At zW (waysL A)) (.ref d))) (Lkd HO.dK kI (zL zPN) d (waysL A))) ⟨kn1, lk⟩ (ei_keysI (f := ⟨F, none⟩) (ev_var (Φ := IsV (.ref d)) (v := .ref d) rfl rfl) lk) (fun _ => true) (wayP A) (fun _ _ => true) (fun n q => (leastF A q.1, q.2, leastF A n)) (by rw [edl]; omega) fun x f' H' u hx hb dm' e' k' hr' => bnd_name ⟨rfl, et_yes, fun _ => ⟨ei_list (ev_dget get_I (ev_var (Φ := At zW (waysL A)) (v := .ref d) rfl k'.1.2) (ev_var (Φ := At zI x) rfl hr') (valD_ways (by rw [ways_keys] at hx; exact hx))), fun y H'' u2 hy dm'' e'' k'' hr'' hr2 => bnd_tup2 hr2 fun t w1 w2 _ _ h1 h2 => ⟨rfl, et_yes, fun _ => ?_⟩⟩⟩
    · have hx : x ∈ reachL A := by rw [ways_keys] at hx; exact hx
      exact ev_tup3 (R := zI) (S := zN) (T := zI) (ev_dget get_I (ev_var (Φ := At (zDI zI) (leastD A)) (v := v3) rfl k''.1.1.2) (ev_var (Φ := At zI y.1) rfl h1) (valD_least (mem_way.mp hy).2)) (ev_var (Φ := At zN y.2) rfl h2) (ev_dget get_I (ev_var (Φ := At (zDI zI) (leastD A)) (v := v3) rfl k''.1.1.2) (ev_var (Φ := At zI x) rfl hr'') (valD_least hx))
  have el := edL_len A
  refine nx_ (seq_ ?_)
  refine s_newL n2 fun g hg n3 => ?_
  refine nx_ (seq_ ?_)
  have gF : g ∉ F := (fun z => n2.dm.new hg z)
  refine s_for n3 (ei_list (R := zE) (ev_var (v := v4) rfl n3.kn.2)) fun Kn H3 sKn e3 n4 => ?_
  refine ⟨fun i σ' H' => ∃ a1 a2 a3 a4 xs, σ' = [some v, some v2, some v3, some (.ref d), some v4, a1, a2, a3, some (.ref g), a4, none, none, none] ∧ H' g = some (.lst xs) ∧ Paired (zE (hid (g :: F) H')) xs (((edL A).take i).filter fun e => !(besides A e).any fun l => yes (Fol A A e.1 l)) ∧ Now ⟨g :: F, none⟩ [g] H (KAnd (KAnd (KAnd (KAnd (KAnd (KV (At (zPr C) A) v) (KV (At zKn (knownD A)) v2)) (KV (At (zDI zI) (leastD A)) v3)) (KV (At zW (waysL A)) (.ref d))) (KV (At (zL zE) (edL A)) v4)) Kn) H', ⟨none, none, none, none, [], rfl, e3.keep (fun z => nomatch z) upd_same, .nil, n4⟩, ?_, ?_, ?_⟩
  · rintro i σ' H' ⟨a1, a2, a3, a4, xs, rfl, _, _, n5⟩
    exact ⟨n5.dm, n5.kn.2⟩
  · rintro i e u σ' H' H'' hx ⟨a1, a2, a3, a4, xs, rfl, hxs, pxs, n5⟩ sm hu'
    have n6 := n5.go (re.same sm)
    have il : i < (edL A).length := (List.getElem?_eq_some_iff.mp hx).1
    have tk : (edL A).take (i + 1) = (edL A).take i ++ [e] := by
      rw [List.take_add_one, hx]; rfl
    refine bnd_tup3 (F := g :: F) hu' (fun u1 u2 u3 h1 h2 h3 => ?_) _ fun σ2 z => z
    have n7 := n6.know (K' := KAnd (KAnd (KAnd (KAnd (KAnd (KAnd (KV (At (zPr C) A) v) (KV (At zKn (knownD A)) v2)) (KV (At (zDI zI) (leastD A)) v3)) (KV (At zW (waysL A)) (.ref d))) (KV (At (zL zE) (edL A)) v4)) Kn) (KAnd (KV (At zI e.1) u1) (KAnd (KV (At zN e.2.1) u2) (KV (At zI e.2.2) u3)))) ⟨n6.kn, h1, h2, h3⟩
    refine seq_ ?_
    refine s_set n7 (EvP.is (y := besides A e) (ev_lcD (S := zI) n7.kn (ei_list (R := zE) (ev_var (v := v4) rfl n7.kn.1.1.2)) (by omega) (fun q => !decide (q.1 = e.1) && decide ((q.2.1, q.2.2) = (e.2.1, e.2.2))) (fun q => q.1) fun q f' H3 u hq hb dm' e' k' hr' => bnd_tup3 hr' fun w1 w2 w3 g1 g2 g3 => ⟨rfl, et_and (et_B1 (ev_op (ev_var (Φ := At zI q.1) rfl g1) (ev_var (Φ := At zI e.1) (v := u1) rfl k'.2.1) ru_neI)) (fun _ => et_B1 (ev_op (ev_tup2 (R := zN) (S := zI) (ev_var (Φ := At zN q.2.1) rfl g2) (ev_var (Φ := At zI q.2.2) rfl g3)) (ev_tup2 (R := zN) (S := zI) (ev_var (Φ := At zN e.2.1) (v := u2) rfl k'.2.2.1) (ev_var (Φ := At zI e.2.2) (v := u3) rfl k'.2.2.2)) ru_eqD)), fun _ => ev_var (Φ := At zI q.1) rfl g1⟩) rfl) fun v6 H4 e4 n8 => ?_
    refine nx_ ?_
    have bl : (besides A e).length ≤ 100000 := by
      have h1 : (besides A e).length ≤ (edL A).length := by
        unfold besides
        rw [List.length_map]
        exact List.length_filter_le _ _
      omega
    refine s_if n8 (et_is (et_not (et_B1 (ev_cb (ea_cons (EvP.is (y := (besides A e).map fun l => yes (Fol A A e.1 l)) (ev_lcD (S := zB) n8.kn (ei_list (R := zI) (ev_var (Φ := At (zL zI) (besides A e)) (v := v6) rfl n8.kn.2)) bl (fun _ => true) (fun l => yes (Fol A A e.1 l)) fun q f' H5 u hq hb dm' e' k' hr' => bnd_name ⟨rfl, et_yes, fun _ => EvP.is (ev_din get_P (ev_tup2 (R := zI) (S := zI) (ev_var (Φ := At zI e.1) (v := u1) rfl k'.1.2.1) (ev_var (Φ := At zI q) rfl hr')) (ev_var (Φ := At zKn (knownD A)) (v := v2) rfl k'.1.1.1.1.1.1.2)) known_has⟩) (by rw [filter_yes])) ea_nil) ra_any))) (b := !(besides A e).any fun l => yes (Fol A A e.1 l)) (by rw [List.any_map]; rfl)) (fun pt H5 e5 n9 => ?_) fun pf H5 e5 n9 => ?_
    · have h5 : H5 g = some (.lst xs) := (e4.trans e5).keep (fun z => nomatch z) (sm _ _ hxs)
      have few : xs.length ≤ 100000 := by
        rw [Paired.length pxs]
        have := List.length_filter_le (fun e => !(besides A e).any fun l => yes (Fol A A e.1 l)) ((edL A).take i)
        rw [List.length_take] at this
        omega
      refine s_append n9 List.mem_cons_self rfl h5 few (ev_tup3 (R := zI) (S := zN) (T := zI) (ev_var (Φ := At zI e.1) (v := u1) rfl n9.kn.1.2.1) (ev_var (Φ := At zN e.2.1) (v := u2) rfl n9.kn.1.2.2.1) (ev_var (Φ := At zI e.2.2) (v := u3) rfl n9.kn.1.2.2.2)) fun v7 H6 e6 h6 n10 => ?_
      have up : Same (hid (g :: F) H') (hid (g :: F) (upd H6 g (.lst (xs ++ [v7])))) := by
        rw [hid_upd List.mem_cons_self]
        exact Same.hid (sm.trans ((e4.trans e5).trans e6).pure)
      refine ⟨_, _, _, _, _, rfl, upd_same, ?_, n10.know n10.kn.1.1.1⟩
      rw [tk, List.filter_append, List.filter_cons_of_pos (p := fun e => !(besides A e).any fun l => yes (Fol A A e.1 l)) (a := e) pt.symm]
      exact pair_app (Paired.mapP pxs fun _ _ z => Stb.up up z) (.cons n10.kn.2 .nil)
    · refine ⟨_, _, _, _, xs, rfl, (e4.trans e5).keep (fun z => nomatch z) (sm _ _ hxs), ?_, n9.know n9.kn.1.1⟩
      rw [tk, List.filter_append, List.filter_cons_of_neg (p := fun e => !(besides A e).any fun l => yes (Fol A A e.1 l)) (a := e) (fun z => Bool.false_ne_true (pf.trans z))]
      rw [List.filter_nil, List.append_nil]
      exact Paired.mapP pxs fun _ _ z => Stb.up (Same.hid (sm.trans (e4.trans e5).pure)) z
  · rintro σ' H' ⟨a1, a2, a3, a4, xs, rfl, hxs, pxs, n5⟩
    rw [List.take_length] at pxs
    refine ⟨.ref g, rfl, kk (.ref g) H' n5.pure ⟨g, xs, rfl, by rw [hid_out gF]; exact hxs, Paired.mapP pxs fun _ _ z => Stb.up (hid_sub fun a m => List.mem_cons_of_mem _ m) z⟩⟩
end
end FF
namespace FF
open PySem PySem.Spec PyProof.Rows L2
/-- what has been found up to the a-th -/
structure Lead (es : List E3) (pl Fs : List Int) (a : Nat) : Prop where
  nd : Fs.Nodup
  so : ∀ y ∈ Fs, Clo (backs es) pl y
  al : ∀ y ∈ pl, y ∈ Fs
  le : a ≤ Fs.length
  cl : ∀ (j : Nat) (y : Int), j < a → Fs[j]? = some y → ∀ e ∈ es, e.2.2 = y → e.1 ∈ Fs
theorem Lead.start {es : List E3} {pl : List Int} : Lead es pl (canon pl) 0 := ⟨asc_nodup (asc_canon _), fun y h => .base (mem_canon.mp h), fun y h => mem_canon.mpr h, Nat.zero_le _, fun j y h => absurd h (Nat.not_lt_zero j)⟩
theorem Lead.len {es : List E3} {pl Fs : List Int} {a : Nat} (h : Lead es pl Fs a) : Fs.length ≤ pl.length + es.length := by
  have := nodup_len (m := pl ++ (backs es).map (·.2)) h.nd fun y hy => (by
    cases h.so y hy with
    | base h => exact List.mem_append_left _ h
    | step _ h => exact List.mem_append_right _ (List.mem_map.mpr ⟨_, h, rfl⟩))
  rw [List.length_append, List.length_map] at this
  unfold backs at this
  rw [List.length_map] at this
  exact this
theorem Lead.add {es : List E3} {pl Fs : List Int} {a : Nat} (h : Lead es pl Fs a) {e : E3} (he : e ∈ es) {y : Int} (hy : Fs[a]? = some y) (ey : e.2.2 = y) (no : e.1 ∉ Fs) : Lead es pl (Fs ++ [e.1]) a where
  nd := List.nodup_append.mpr ⟨h.nd, List.nodup_cons.mpr ⟨fun z => (nomatch z), List.nodup_nil⟩, fun x hx z hz e => no (by rw [← List.mem_singleton.mp hz, ← e]; exact hx)⟩
  so := fun x hx => (List.mem_append.mp hx).elim (h.so x) fun hx => by
    rw [List.mem_singleton.mp hx]
    refine .step (h.so y (List.mem_of_getElem? hy)) (List.mem_map.mpr ⟨e, he, ?_⟩)
    rw [ey]
  al := fun x hx => List.mem_append_left _ (h.al x hx)
  le := by
    have := h.le
    rw [List.length_append]
    omega
  cl := fun j x hj hx e he ex => by
    have := h.le
    rw [List.getElem?_append_left (by omega)] at hx
    exact List.mem_append_left _ (h.cl j x hj hx e he ex)
theorem Lead.done {es : List E3} {pl Fs : List Int} {a : Nat} (h : Lead es pl Fs a) (ha : Fs.length ≤ a) : canon Fs = leadL es pl := by
  refine cloL_is fun n => ⟨h.so n, fun c => ?_⟩
  induction c with
  | base hb => exact h.al _ hb
  | step _ hs ih =>
    obtain ⟨j, hj⟩ := List.mem_iff_getElem?.mp ih
    have lt := (List.getElem?_eq_some_iff.mp hj).1
    obtain ⟨e, he, ee⟩ := List.mem_map.mp hs
    injection ee with e1 e2
    rw [← e2]
    exact h.cl j _ (by omega) hj e he e1
section
variable {f : Fr} {L : List Addr} {K : Hp → Prop} {H H0 : Hp} {σ : L2.St} {ta tb : TE} {tr : TA} {D : Ends} {Φ Φ2 : Hp → V → Prop} {Ψ : Hp → List V → Prop}
theorem en_cb {r : List V → Hp → VK → Prop} (h : EvA f tr σ H Ψ) (hr : ∀ H1 vs, re f.b H H1 → Dm f H1 → Ψ (hid f.F H1) vs → ∀ Q : VK, (∀ D H2, H1 D = none → re f.b H1 H2 → Φ (hid f.F H2) (.ref D) → Q (.ref D) H2) → r vs H1 Q) : EvN f (tCB r tr) σ H Φ := fun H1 e d Q q =>
  h H1 e d _ fun vs H2 e2 p => hr H2 vs (e.trans e2) (d.re e2) p Q fun D H3 hD e3 z => q D H3 (e2.free hD) (e2.trans e3) z
theorem s_parNP {i j : Nat} [StH K] [StP Φ] (n : Now f L H0 K H) (h : EvN f ta σ H Φ) (h2 : EvP f tb σ H Φ2)
    (k : ∀ d w H1, H d = none → re f.b H H1 → Now f L H0 (KAnd (KAnd K (KV Φ (.ref d))) (KV Φ2 w)) H1 → D.nx ((σ.set i (some (.ref d))).set j (some w)) H1) : tPar i j (tCons ta (tCons tb tNil)) D σ H :=
  h H (re.refl _) n.dm _ fun d H2 hd e p => h2 H2 e (n.dm.re e) _ fun w H1 e2 p2 => by
    have n1 := (n.go e).know (K' := KAnd K (KV Φ (.ref d))) ⟨(n.go e).kn, p⟩
    have n2 := (n1.go e2).know (K' := KAnd (KAnd K (KV Φ (.ref d))) (KV Φ2 w)) ⟨(n1.go e2).kn, p2⟩
    exact ⟨_, _, rfl, k d w H1 hd (e.trans e2) n2⟩
theorem ni_sortedIK {w : World} {ns : List Int} (h : EvA f tr σ H (ACons (SetIK w ns) ANil)) : EvN f (tCB (rSortedSet w) tr) σ H (At (zL zI) (canon ns)) := en_cb h fun H1 vs e d ⟨v, r, e1, p, e2⟩ Q q => by
  obtain rfl : r = [] := e2
  obtain ⟨D, C, c, rfl, hD, h1, h2⟩ := p
  refine ⟨D, C, c, e1, hid_same _ _ hD, h2, fun ys n asc mem len hn => q n _ hn (re.same (same_new hn)) ⟨n, _, rfl, hid_new d hn, ?_⟩⟩
  have : ys = canon ns := canon_eq (List.Pairwise.imp (fun {a b} h => by
    show decide (a < b) = true
    rw [decide_eq_true_eq]; exact h) asc) fun z => (mem z).trans (h1 z)
  rw [this]
  exact of_ints _
end
theorem Now.see {F L : List Addr} {d : Addr} {H0 H : Hp} {K : Hp → Prop} {Φ : Hp → V → Prop} [StH K] (n : Now ⟨d :: F, none⟩ L H0 K H) (p : Φ (hid F H) (.ref d)) : Now ⟨F, none⟩ [] H0 (KAnd K (KV Φ (.ref d))) H :=
  ⟨by rw [hid_nil]; exact n.out, ⟨fun x m => n.dm.there x (List.mem_cons_of_mem _ m), fun x z => nomatch z⟩, fun x m => (nomatch m), StH.up (hid_sub fun x m => List.mem_cons_of_mem _ m) n.kn, p⟩
section
variable {P : Program} {w : World} {K : PySem.W.Frag} {mg : Str → Option Value} {base : Heap} {C : Addr}
abbrev s_leading_to : Stmt := topS 30
abbrev N_leading_to : List Str := ["edges", "places", "found", "at", "k", "name", "there"]
abbrev P_leading_to : List Str := ["edges", "places"]
theorem sc_leading_to : FnScope N_leading_to P_leading_to (C8.fnScope s_leading_to) := C8.fnScope_by (by decide +kernel)
abbrev LeadI := { x : List E3 × List Int // x.1.length + x.2.length < 100 ∧ x.2.length < 64 }
abbrev sp_leading_to : Sp := SpP (ι := LeadI) (fun x => ACons (At (zL zE) x.1.1) (ACons (At (zL zI) x.1.2) ANil)) (fun x => At (zL zI) (leadL x.1.1 x.1.2))
theorem ok_leading_to {f : Addr} {fd : FuncData} (F : C8.Def K mg "leading_to" s_leading_to f fd) (b : L2.Binds K fd P_leading_to []) (T : Txt K mg C) : C8.Cal P w K mg base 1 "leading_to" sp_leading_to [] := by
  refine C8.cal0 F b .nil sc_leading_to (spP_len fun x G vs h => alS h fun _ h => alS h fun _ h => al0 h) (fun cdv A0 outer s H vs Q E hr h => ?_)
  obtain ⟨⟨⟨es, pl⟩, few, fewp⟩, F, hF, ⟨v, r, rfl, p, v2, r2, rfl, p2, rfl⟩, kk⟩ := h
  have few : es.length + pl.length < 100 := few
  have fewp : pl.length < 64 := fewp
  have hu := hu_of hr
  refine ⟨_, (pss_cons (ps_par rfl sc_leading_to.nd (show N_leading_to[2]? = _ from rfl) (show N_leading_to[3]? = _ from rfl) (by decide) rfl rfl (pa_cons (pe_callB (cr_sortedSet rfl) (by rfl) T.m_sorted (by decide +kernel) (pa_cons (pe_callTy (cr_setI rfl) (by rfl) T.m_set (by decide +kernel) (pa_cons (pv 1) pa_nil)) pa_nil)) (pa_cons pe_int pa_nil)) (by rfl)) (pss_cons (ps_while PassesOwn.never (pt_cmpR op_lt (pv 3) (pe_callB call_len_seq (by rfl) T.m_len (by decide +kernel) (pa_cons (pv 2) pa_nil)) (nomark _)) (pss_cons (ps_for PassesOwn.never rfl (pi_list (pv 0)) (pg_tup rfl (pgs_cons (pg_name (i := 4) sc_leading_to.nd rfl (.inl rfl)) (pgs_cons (pg_name (i := 5) sc_leading_to.nd rfl (.inl rfl)) (pgs_cons (pg_name (i := 6) sc_leading_to.nd rfl (.inl rfl)) pgs_nil)))) (pss_one (ps_if (PW.pt (pw_and (pt_cmpR op_eq (pv 6) (pe_ix ix_list (pv 2) (pv 3) (fun _ _ => rfl)) (nomark _)) (pw_and1 (pt_cmpR op_notIn_seq (pv 4) (pv 2) (by rfl))))) (pss_one (ps_expr (pe_bm PySem.F.plainAttrs_list PySem.F.slot_list_append PySem.F.type_list_append mt_append (pv 2) (pa_cons (pv 4) pa_nil)))) pss_nil))) (pss_one (ps_aug (i := 3) sc_leading_to.nd rfl (.inl rfl) pe_int ip_add)))) (pss_one (ps_ret (pe_callB cr_sortedI (by rfl) T.m_sorted (by decide +kernel) (pa_cons (pv 2) pa_nil)))))), ?_⟩
  have n : Now ⟨F, none⟩ [] H (KAnd (KV (At (zL zE) es) v) (KV (At (zL zI) pl) v2)) H := Now.start (dmP hF) ⟨p, p2⟩
  refine seq_ (s_parNP (Φ := At (zL zI) (canon pl)) (Φ2 := At zI 0) n (ni_sortedIK (ea_cons (ev_cb (ea_cons (ev_var (Φ := At (zL zI) pl) (v := v2) rfl n.kn.2) ea_nil) (ra_setI fewp)) ea_nil)) ev_int fun d w2 H1 hd e1 n1 => ?_)
  have dF : d ∉ F := n.dm.new hd
  obtain ⟨a, xs, ea, ha, hp⟩ := id n1.kn.1.2
  cases ea
  rw [ints_of hp] at ha
  have h1 : H1 d = some (.lst ((canon pl).map V.int)) := hid_same _ _ ha
  obtain rfl : w2 = .int 0 := n1.kn.2
  have n2 := n.own hd e1 (Loc.of h1 fun _ z => by cases z)
  refine nx_ (seq_ ?_)
  refine ⟨fun m σ' H' => ∃ a Fs b1 b2 b3, σ' = [some v, some v2, some (.ref d), some (.int (a : Nat)), b1, b2, b3] ∧ H' d = some (.lst (Fs.map V.int)) ∧ Lead es pl Fs a ∧ Now ⟨d :: F, none⟩ [d] H (KAnd (KV (At (zL zE) es) v) (KV (At (zL zI) pl) v2)) H' ∧ m + a = pl.length + es.length, ⟨_, 0, _, none, none, none, rfl, h1, .start, n2, rfl⟩, ?_⟩
  rintro m σ' H' ⟨a, Fs, b1, b2, b3, rfl, hd2, ld, n3, em⟩
  have visD : ∀ {Hx : Hp} {l : List Int}, Hx d = some (.lst (l.map V.int)) → zL zI (hid F Hx) (.ref d) l := fun {Hx l} h => ⟨d, _, rfl, by rw [hid_out dF]; exact h, of_ints _⟩
  have nV := n3.see (Φ := At (zL zI) Fs) (visD hd2)
  have fl := ld.len
  refine (et_test1 (f := ⟨F, none⟩) (ev_op (ev_var (Φ := At zI (a : Int)) rfl rfl) (ev_cb (ea_cons (ev_var (Φ := At (zL zI) Fs) (v := .ref d) rfl nV.kn.2) ea_nil) ra_lenL) ru_lt)) H' (re.refl _) nV.dm _ fun c H2 e2 pc => ?_
  have nW := nV.go e2
  cases c with
  | false =>
    rw [if_neg Bool.false_ne_true]
    have ge : Fs.length ≤ a := by
      have := of_decide_eq_false pc.symm
      omega
    refine nx_ ?_
    refine s_ret nW (ev_cb (ea_cons (ev_var (Φ := At (zL zI) Fs) (v := .ref d) rfl nW.kn.2) ea_nil) (ra_sortedI ld.nd)) fun v7 H3 e3 n4 => ?_
    rw [ld.done ge] at n4
    exact kk v7 H3 n4.pure n4.kn.2
  | true =>
    rw [if_pos rfl]
    have lt : a < Fs.length := by
      have := of_decide_eq_true pc.symm
      omega
    refine ⟨_, fun σ2 H2 h => ⟨m - 1, by omega, h⟩, ?_⟩
    refine seq_ ?_
    have n4 := n3.go e2
    have h2 : H2 d = some (.lst (Fs.map V.int)) := e2.keep (fun z => nomatch z) hd2
    obtain ⟨y, hy⟩ : ∃ y, Fs[a]? = some y := ⟨_, List.getElem?_eq_getElem lt⟩
    refine s_for n4 (ei_list (R := zE) (ev_var (v := v) rfl n4.kn.1)) fun Kn H3 sKn e3 n5 => ?_
    refine ⟨fun i σ' H' => ∃ Fs b1 b2 b3, σ' = [some v, some v2, some (.ref d), some (.int (a : Nat)), b1, b2, b3] ∧ H' d = some (.lst (Fs.map V.int)) ∧ Lead es pl Fs a ∧ Fs[a]? = some y ∧ (∀ e ∈ es.take i, e.2.2 = y → e.1 ∈ Fs) ∧ Now ⟨d :: F, none⟩ [d] H (KAnd (KAnd (KV (At (zL zE) es) v) (KV (At (zL zI) pl) v2)) Kn) H', ⟨Fs, _, _, _, rfl, e3.keep (fun z => nomatch z) h2, ld, hy, fun e he => (nomatch he), n5⟩, ?_, ?_, ?_⟩
    · rintro i σ' H' ⟨Fs, b1, b2, b3, rfl, _, _, _, _, n6⟩
      exact ⟨n6.dm, n6.kn.2⟩
    · rintro i ⟨k, s, t⟩ u σ' H4 H5 hx ⟨Fs, b1, b2, b3, rfl, hd4, ld, hy, dn, n6⟩ sm hu'
      have n7 := n6.go (re.same sm)
      have he : (k, s, t) ∈ es := List.mem_of_getElem? hx
      have tk : es.take (i + 1) = es.take i ++ [(k, s, t)] := by
        rw [List.take_add_one, hx]; rfl
      have hd5 : H5 d = some (.lst (Fs.map V.int)) := sm _ _ hd4
      have fl := ld.len
      refine bnd_tup3 (F := d :: F) hu' (fun u1 u2 u3 h1 h2 h3 => ?_) _ fun σ2 z => z
      obtain rfl : u1 = .int k := h1
      obtain rfl : u3 = .int t := h3
      have nX := n7.see (Φ := At (zL zI) Fs) (visD hd5)
      refine (et_and (et_B1 (f := ⟨F, none⟩) (ev_op (ev_var (Φ := At zI t) (v := .int t) rfl rfl) (ev_op (ev_var (Φ := At (zL zI) Fs) (v := .ref d) rfl nX.kn.2) (ev_var (Φ := At zI (a : Int)) rfl rfl) (ru_ixL (x := y) (by omega) (by rw [Int.toNat_natCast]; exact hy))) ru_eqI)) fun _ => et_B1 (ev_op (ev_var (Φ := At zI k) (v := .int k) rfl rfl) (ev_var (Φ := At (zL zI) Fs) (v := .ref d) rfl nX.kn.2) ru_notInI)) H5 (re.refl _) nX.dm _ fun c H6 e6 pc => ?_
      have n8 := n7.go e6
      have hd6 : H6 d = some (.lst (Fs.map V.int)) := e6.keep (fun z => nomatch z) hd5
      cases c with
      | false =>
        rw [if_neg Bool.false_ne_true]
        refine ⟨Fs, _, _, _, rfl, hd6, ld, hy, fun e he ee => ?_, n8⟩
        rw [tk] at he
        rcases List.mem_append.mp he with he | he
        · exact dn e he ee
        · rw [List.mem_singleton.mp he] at ee ⊢
          refine Classical.byContradiction fun no => ?_
          have ee : t = y := ee
          have no : k ∉ Fs := no
          rw [decide_eq_true ee, decide_eq_false no] at pc
          cases pc
      | true =>
        rw [if_pos rfl]
        have pc := pc.symm
        rw [Bool.and_eq_true, decide_eq_true_eq, Bool.not_eq_true', decide_eq_false_iff_not] at pc
        refine s_append n8 List.mem_cons_self rfl hd6 (by rw [List.length_map]; omega) (ev_var (Φ := At zI k) (v := .int k) rfl rfl) fun v7 H7 e7 h7 n9 => ?_
        obtain rfl : v7 = .int k := n9.kn.2
        refine ⟨Fs ++ [k], _, _, _, rfl, ?_, ld.add he hy pc.1 pc.2, ?_, fun e he ee => ?_, n9.know n9.kn.1⟩
        · rw [upd_same, List.map_append]
          rfl
        · rw [List.getElem?_append_left (List.getElem?_eq_some_iff.mp hy).1]
          exact hy
        · rw [tk] at he
          rcases List.mem_append.mp he with he | he
          · exact List.mem_append_left _ (dn e he ee)
          · rw [List.mem_singleton.mp he]
            exact List.mem_append_right _ List.mem_cons_self
    · rintro σ' H4 ⟨Fs, b1, b2, b3, rfl, hd4, ld, hy, dn, n6⟩
      rw [List.take_length] at dn
      refine nx_ ?_
      have lt := (List.getElem?_eq_some_iff.mp hy).1
      refine s_aug n6 (a := (a : Int)) (b := 1) rfl ev_int fun H5 e5 n7 => ?_
      refine ⟨a + 1, Fs, b1, b2, b3, rfl, e5.keep (fun z => nomatch z) hd4, { ld with le := lt, cl := fun j z hj hz e he ee => ?_ }, n7.know n7.kn.1, by omega⟩
      by_cases ja : j = a
      · subst ja
        rw [hy] at hz
        injection hz with hz
        exact dn e he (ee.trans hz.symm)
      · exact ld.cl j z (by omega) hz e he ee
end
end FF
namespace FF
open PySem PySem.Spec PyProof.Rows L2
theorem num_has {kept : List Int} {x : Int} : (valD (numD kept) x).isSome = decide (x ∈ kept) := Bool.eq_iff_iff.mpr (by rw [valD_isSome, numD_keys, decide_eq_true_eq])
section
variable {P : Program} {w : World} {K : PySem.W.Frag} {mg : Str → Option Value} {base : Heap} {C : Addr}
abbrev s_small_program : Stmt := topS 31
abbrev N_small_program : List Str := ["program", "asked", "known", "pair", "least", "edges", "kept", "place", "number", "at", "begins", "told", "k", "name"]
abbrev P_small_program : List Str := ["program", "asked"]
theorem sc_small_program : FnScope N_small_program P_small_program (C8.fnScope s_small_program) := C8.fnScope_by (by decide +kernel)
abbrev AskI := { x : PD × List Int // Asked x.1 x.2 }
abbrev sp_small_program (C : Addr) : Sp := SpP (ι := AskI) (fun x => ACons (At (zPr C) x.1.1) (ACons (At (zL zI) x.1.2) ANil)) (fun x => At (zT2 (zPr C) (zL zI)) (smallP x.1.1 x.1.2, smallAt x.1.1 x.1.2))
theorem ok_small_program {f : Addr} {fd : FuncData} (F : C8.Def K mg "small_program" s_small_program f fd) (b : L2.Binds K fd P_small_program []) (T : Txt K mg C) (c_need_all : C8.Cal P w K mg base 4 "need_all" (sp_need_all C) []) (c_follow_of : C8.Cal P w K mg base 5 "follow_of" (sp_follow_of C) []) (c_least_alike : C8.Cal P w K mg base 3 "least_alike" (sp_least_alike C) []) (c_greatest_edges : C8.Cal P w K mg base 4 "greatest_edges" (sp_greatest_edges C) []) (c_leading_to : C8.Cal P w K mg base 1 "leading_to" sp_leading_to []) (c_begins : C8.Met P w K mg base 1 C "begins" (sp_begins C) []) (c_Program : C8.Mak P w K mg base 5 "Program" C (sp_init C) []) : C8.Cal P w K mg base 7 "small_program" (sp_small_program C) [] := by
  refine C8.cal0 F b .nil sc_small_program (spP_len fun x G vs h => alS h fun _ h => alS h fun _ h => al0 h) (fun cdv A0 outer s H vs Q E hr h => ?_)
  obtain ⟨⟨⟨A, asked⟩, ask⟩, F, hF, ⟨v, r, rfl, p, v2, r2, rfl, p2, rfl⟩, kk⟩ := h
  have ask : Asked A asked := ask
  have oa := ask.ok
  have hu := hu_of hr
  refine ⟨_, (pss_cons (ps_expr (C8.pe_c c_need_all hr (by decide) rfl (pa_cons (pv 0) (pa_cons (pv 1) (pa_cons (pv 0) (pa_cons (pe_lst pa_nil) pa_nil)))))) (pss_cons (ps_setDcG (i := 2) (own := [("pair", 3)]) (o0 := .dT []) (.inr rfl) hu rfl sc_small_program.nd rfl rfl (sw_trueD rfl rfl rfl (by decide +kernel)) (pi_list (C8.pe_c c_follow_of hr (by decide) rfl (pa_cons (pv 0) (pa_cons (pv 0) pa_nil)))) (blkOk_by (own := [("pair", 3)]) (N := N_small_program) (sc := C8.fnScope s_small_program) (by decide +kernel)) (fun _ _ _ _ _ => (pg_name (i := 3) sc_small_program.nd rfl (.inl rfl))) (fun _ _ _ _ _ => pts_nil) (fun _ _ _ _ _ => (pv 3)) (fun _ _ _ _ _ => pe_bl)) (pss_cons (ps_set (i := 4) sc_small_program.nd rfl (.inr rfl) (C8.pe_c c_least_alike hr (by decide) rfl (pa_cons (pv 0) (pa_cons (pv 2) pa_nil)))) (pss_cons (ps_set (i := 5) sc_small_program.nd rfl (.inl rfl) (C8.pe_c c_greatest_edges hr (by decide) rfl (pa_cons (pv 0) (pa_cons (pv 2) (pa_cons (pv 4) pa_nil))))) (pss_cons (ps_set (i := 6) sc_small_program.nd rfl (.inl rfl) (C8.pe_c c_leading_to hr (by decide) rfl (pa_cons (pv 5) (pa_cons (pe_lc (own := [("place", 7)]) rfl sc_small_program.nd (pi_list (pv 1)) (blkOk_by (own := [("place", 7)]) (N := N_small_program) (sc := C8.fnScope s_small_program) (by decide +kernel)) (fun _ _ _ _ _ => (pg_name (i := 7) sc_small_program.nd rfl (.inl rfl))) (fun _ _ _ _ _ => pts_nil) (fun _ _ _ _ _ => (pe_dget hu (pv 4) (pv 7) (fun _ _ => rfl)))) pa_nil)))) (pss_cons (ps_set (i := 8) sc_small_program.nd rfl (.inr rfl) (pe_dcG (own := [("at", 9), ("place", 7)]) (o0 := .dK []) (.inl rfl) hu rfl sc_small_program.nd (pi_enum (by rfl) T.m_enumerate (pa_cons (pv 6) pa_nil)) (blkOk_by (own := [("at", 9), ("place", 7)]) (N := N_small_program) (sc := C8.fnScope s_small_program) (by decide +kernel)) (fun _ _ _ _ _ => (pg_tupK (n := 2) blkK (by rfl) (pgs_cons (pg_name (i := 9) sc_small_program.nd rfl (.inl rfl)) (pgs_cons (pg_name (i := 7) sc_small_program.nd rfl (.inl rfl)) pgs_nil)))) (fun _ _ _ _ _ => pts_nil) (fun _ _ _ _ _ => (pv 7)) (fun _ _ _ _ _ => (pv 9)))) (pss_cons (ps_setLc (i := 10) (own := [("place", 7)]) rfl sc_small_program.nd rfl rfl (sw_true rfl rfl rfl (by decide +kernel)) (pi_list (pv 6)) (blkOk_by (own := [("place", 7)]) (N := N_small_program) (sc := C8.fnScope s_small_program) (by decide +kernel)) (fun _ _ _ _ _ => (pg_name (i := 7) sc_small_program.nd rfl (.inl rfl))) (fun _ _ _ _ _ => (pts_one (pt_cmpR (op_in_seqK blkK) (pv 7) (C8.pe_mt0 c_begins hr (by decide) (pv 0)) (by rfl)))) (fun _ _ _ _ _ => (pe_dget hu (pv 8) (pv 7) (fun _ _ => rfl)))) (pss_cons (ps_setLc (i := 11) (own := [("k", 12), ("name", 13), ("place", 7)]) rfl sc_small_program.nd rfl rfl (sw_true rfl rfl rfl (by decide +kernel)) (pi_list (pv 5)) (blkOk_by (own := [("k", 12), ("name", 13), ("place", 7)]) (N := N_small_program) (sc := C8.fnScope s_small_program) (by decide +kernel)) (fun _ _ _ _ _ => (pg_tupK (n := 3) blkK (by rfl) (pgs_cons (pg_name (i := 12) sc_small_program.nd rfl (.inl rfl)) (pgs_cons (pg_name (i := 13) sc_small_program.nd rfl (.inl rfl)) (pgs_cons (pg_name (i := 7) sc_small_program.nd rfl (.inl rfl)) pgs_nil))))) (fun _ _ _ _ _ => (pts_one (pt_cmp (pc_din hu (pv 7) (pv 8))))) (fun _ _ _ _ _ => (pe_tup (pa_cons (pe_dget hu (pv 8) (pv 12) (fun _ _ => rfl)) (pa_cons (pv 13) (pa_cons (pe_dget hu (pv 8) (pv 7) (fun _ _ => rfl)) pa_nil)))))) (pss_one (ps_ret (pe_tup (pa_cons (C8.pe_mk c_Program hr (by decide) rfl (pa_cons (pe_callB call_len_seq (by rfl) T.m_len (by decide +kernel) (pa_cons (pv 6) pa_nil)) (pa_cons (pv 10) (pa_cons (pv 11) pa_nil)))) (pa_cons (pe_lc (own := [("place", 7)]) rfl sc_small_program.nd (pi_list (pv 1)) (blkOk_by (own := [("place", 7)]) (N := N_small_program) (sc := C8.fnScope s_small_program) (by decide +kernel)) (fun _ _ _ _ _ => (pg_name (i := 7) sc_small_program.nd rfl (.inl rfl))) (fun _ _ _ _ _ => pts_nil) (fun _ _ _ _ _ => (pe_dget hu (pv 8) (pe_dget hu (pv 4) (pv 7) (fun _ _ => rfl)) (fun _ _ => rfl)))) pa_nil))))))))))))), ?_⟩
  have n : Now ⟨F, none⟩ [] H (KAnd (KV (At (zPr C) A) v) (KV (At (zL zI) asked) v2)) H := Now.start (dmP hF) ⟨p, p2⟩
  have few := oa.few
  have ten := reach_ten oa
  have fewa := ask.few
  refine seq_ (s_expr n (ev_call (x := (⟨A, asked, A, [], oa, oa, ask.r, fun b z => (nomatch z), by omega, Nat.zero_le _⟩ : NeedI)) (ea_cons (ev_var (Φ := At (zPr C) A) (v := v) rfl n.kn.1) (ea_cons (ev_var (Φ := At (zL zI) asked) (v := v2) rfl n.kn.2) (ea_cons (ev_var (Φ := At (zPr C) A) (v := v) rfl n.kn.1) (ea_cons (ev_lst (R := zI) ee_nil (Nat.zero_le _)) ea_nil))))) fun H1 e1 n1 => ?_)
  refine nx_ (seq_ ?_)
  refine s_set n1 (EvP.is (y := knownD A) (EvD.evP (ed_dc (mk := HO.dT) (enc := kP) (KR := zP2) (S := zB) put_P n1.kn (ei_list (R := zP2) (ev_call (x := (⟨(A, A), oa, oa⟩ : PD2)) (ea_cons (ev_var (Φ := At (zPr C) A) (v := v) rfl n1.kn.1) (ea_cons (ev_var (Φ := At (zPr C) A) (v := v) rfl n1.kn.1) ea_nil)))) (by have := follow_len oa oa; show (followL A A).length ≤ 100000; omega) (fun _ => true) (fun q => q) (fun _ => true) (by rw [filter_yes, map_same]; exact nodup_follow) fun q f' H' u hq hb dm' e' k' hr' => bnd_name ⟨rfl, et_yes, fun _ => ⟨ev_var (Φ := At zP2 q) rfl hr', ev_bl⟩⟩)) (by rw [filter_yes]; rfl)) fun v3 H2 e2 n2 => ?_
  refine nx_ (seq_ ?_)
  refine s_set n2 (ev_call (x := (⟨A, oa⟩ : PDo)) (ea_cons (ev_var (Φ := At (zPr C) A) (v := v) rfl n2.kn.1.1) (ea_cons (ev_var (Φ := At zKn (knownD A)) (v := v3) rfl n2.kn.2) ea_nil))) fun v4 H3 e3 n3 => ?_
  refine nx_ (seq_ ?_)
  refine s_set n3 (ev_call (x := (⟨A, oa⟩ : PDo)) (ea_cons (ev_var (Φ := At (zPr C) A) (v := v) rfl n3.kn.1.1.1) (ea_cons (ev_var (Φ := At zKn (knownD A)) (v := v3) rfl n3.kn.1.2) (ea_cons (ev_var (Φ := At (zDI zI) (leastD A)) (v := v4) rfl n3.kn.2) ea_nil)))) fun v5 H4 e4 n4 => ?_
  have gl := gL_len A
  refine nx_ (seq_ ?_)
  refine s_set n4 (ev_call (x := (⟨(gL A, asked.map (leastF A)), by show (gL A).length + (asked.map (leastF A)).length < 100; rw [List.length_map]; omega, by show (asked.map (leastF A)).length < 64; rw [List.length_map]; omega⟩ : LeadI)) (ea_cons (ev_var (Φ := At (zL zE) (gL A)) (v := v5) rfl n4.kn.2) (ea_cons (EvP.is (y := asked.map (leastF A)) (ev_lcD (S := zI) n4.kn (ei_list (R := zI) (ev_var (v := v2) rfl n4.kn.1.1.1.2)) (by omega) (fun _ => true) (leastF A) fun x f' H' u hx hb dm' e' k' hr' => bnd_name ⟨rfl, et_yes, fun _ => ev_dget get_I (ev_var (Φ := At (zDI zI) (leastD A)) (v := v4) rfl k'.1.2) (ev_var (Φ := At zI x) rfl hr') (valD_least (ask.r x hx))⟩) (by rw [filter_yes])) ea_nil))) fun v6 H5 e5 n5 => ?_
  have n5 : Now ⟨F, none⟩ [] H (KAnd (KAnd (KAnd (KAnd (KAnd (KV (At (zPr C) A) v) (KV (At (zL zI) asked) v2)) (KV (At zKn (knownD A)) v3)) (KV (At (zDI zI) (leastD A)) v4)) (KV (At (zL zE) (gL A)) v5)) (KV (At (zL zI) (keptL A asked)) v6)) H5 := n5
  have nd := kept_nodup A asked
  have kl : (keptL A asked).length ≤ 100000 := by
    have := kept_len ask
    have := oa.p9
    omega
  refine nx_ (seq_ ?_)
  refine s_set n5 (EvP.is (y := numD (keptL A asked)) (EvD.evP (ed_dc (mk := HO.dK) (enc := kI) (KR := zI) (S := zI) put_I n5.kn (ei_enum (R := zI) (ea_cons (ev_var (Φ := At (zL zI) (keptL A asked)) (v := v6) rfl n5.kn.2) ea_nil)) (by unfold enum; rw [List.length_zip]; omega) (fun _ => true) (fun q => q.2) (fun q => q.1) (by rw [filter_yes, enum_snd]; exact nd) fun q f' H' u hq hb dm' e' k' hr' => bnd_tup2 hr' fun t u1 u2 _ _ h1 h2 => ⟨rfl, et_yes, fun _ => ⟨ev_var (Φ := At zI q.2) rfl h2, ev_var (Φ := At zI q.1) rfl h1⟩⟩)) (by rw [filter_yes]; rfl)) fun v7 H6 e6 n6 => ?_
  refine nx_ (seq_ ?_)
  refine s_set (σ := [some v, some v2, some v3, none, some v4, some v5, some v6, none, some v7, none, none, none, none, none]) n6 (Φ := At (zL zI) (smallB A asked)) (ev_lcD (S := zI) n6.kn (ei_list (R := zI) (ev_var (v := v6) rfl n6.kn.1.2)) kl (fun q => decide (q ∈ A.bg)) (numF (keptL A asked)) fun q f' H' u hq hb dm' e' k' hr' => bnd_name ⟨rfl, et_B1 (ev_op (ev_var (Φ := At zI q) rfl hr') (ev_meth (x := A) (ev_var (Φ := At (zPr C) A) (v := v) rfl k'.1.1.1.1.1.1) (ins_of rfl) ea_nil fun G v vs h1 h2 => ⟨v, vs, rfl, h1, h2⟩) ru_inI), fun _ => ev_dget get_I (ev_var (Φ := At (zDI zI) (numD (keptL A asked))) (v := v7) rfl k'.2) (ev_var (Φ := At zI q) rfl hr') (numF_at nd hq).1⟩) fun v8 H7 e7 n7 => ?_
  refine nx_ (seq_ ?_)
  refine s_set (σ := [some v, some v2, some v3, none, some v4, some v5, some v6, none, some v7, none, some v8, none, none, none]) n7 (Φ := At (zL zE) (smallE A asked)) (ev_lcD (S := zE) n7.kn (ei_list (R := zE) (ev_var (v := v5) rfl n7.kn.1.1.1.2)) (by omega) (fun q => decide (q.2.2 ∈ keptL A asked)) (fun q => (numF (keptL A asked) q.1, q.2.1, numF (keptL A asked) q.2.2)) fun q f' H' u hq hb dm' e' k' hr' => bnd_tup3 hr' fun u1 u2 u3 h1 h2 h3 => ⟨rfl, et_is (et_B1 (ev_din get_I (ev_var (Φ := At zI q.2.2) rfl h3) (ev_var (Φ := At (zDI zI) (numD (keptL A asked))) (v := v7) rfl k'.1.2))) num_has, fun pt => ev_tup3 (R := zI) (S := zN) (T := zI) (ev_dget get_I (ev_var (Φ := At (zDI zI) (numD (keptL A asked))) (v := v7) rfl k'.1.2) (ev_var (Φ := At zI q.1) rfl h1) (numF_at nd (kept_step hq (of_decide_eq_true pt))).1) (ev_var (Φ := At zN q.2.1) rfl h2) (ev_dget get_I (ev_var (Φ := At (zDI zI) (numD (keptL A asked))) (v := v7) rfl k'.1.2) (ev_var (Φ := At zI q.2.2) rfl h3) (numF_at nd (of_decide_eq_true pt)).1)⟩) fun v9 H8 e8 n8 => ?_
  refine nx_ ?_
  refine s_ret (σ := [some v, some v2, some v3, none, some v4, some v5, some v6, none, some v7, none, some v8, some v9, none, none]) n8 (ev_tup2 (R := zPr C) (S := zL zI) (x := smallP A asked) (y := smallAt A asked) (ev_make (small_raw ask) (ea_cons (ev_cb (ea_cons (ev_var (Φ := At (zL zI) (keptL A asked)) (v := v6) rfl n8.kn.1.1.1.2) ea_nil) ra_lenL) (ea_cons (ev_var (Φ := At (zL zI) (smallB A asked)) (v := v8) rfl n8.kn.1.2) (ea_cons (ev_var (Φ := At (zL zE) (smallE A asked)) (v := v9) rfl n8.kn.2) ea_nil)))) (EvP.is (y := smallAt A asked) (ev_lcD (S := zI) n8.kn (ei_list (R := zI) (ev_var (v := v2) rfl n8.kn.1.1.1.1.1.1.1.2)) (by omega) (fun _ => true) (fun a => numF (keptL A asked) (leastF A a)) fun x f' H' u hx hb dm' e' k' hr' => bnd_name ⟨rfl, et_yes, fun _ => ev_dget get_I (ev_var (Φ := At (zDI zI) (numD (keptL A asked))) (v := v7) rfl k'.1.1.2) (ev_dget get_I (ev_var (Φ := At (zDI zI) (leastD A)) (v := v4) rfl k'.1.1.1.1.1.2) (ev_var (Φ := At zI x) rfl hr') (valD_least (ask.r x hx))) (numF_at nd (kept_asked hx)).1⟩) (by rw [filter_yes]; rfl))) fun v10 H9 e9 n9 => ?_
  exact kk v10 H9 n9.pure n9.kn.2
end
end FF
namespace FF
open PySem
theorem mem_smallE {P : PD} {asked : List Int} {e : E3} : e ∈ smallE P asked ↔ ∃ q ∈ gL P, q.2.2 ∈ keptL P asked ∧ e = (numF (keptL P asked) q.1, q.2.1, numF (keptL P asked) q.2.2) := by
  unfold smallE
  rw [List.mem_map]
  constructor
  · rintro ⟨q, hq, rfl⟩
    obtain ⟨h1, h2⟩ := List.mem_filter.mp hq
    exact ⟨q, h1, of_decide_eq_true h2, rfl⟩
  · rintro ⟨q, h1, h2, rfl⟩
    exact ⟨q, List.mem_filter.mpr ⟨h1, decide_eq_true h2⟩, rfl⟩
theorem mem_smallB {P : PD} {asked : List Int} {i : Int} : i ∈ smallB P asked ↔ ∃ p ∈ keptL P asked, p ∈ P.bg ∧ i = numF (keptL P asked) p := by
  unfold smallB
  rw [List.mem_map]
  constructor
  · rintro ⟨q, hq, rfl⟩
    obtain ⟨h1, h2⟩ := List.mem_filter.mp hq
    exact ⟨q, h1, of_decide_eq_true h2, rfl⟩
  · rintro ⟨q, h1, h2, rfl⟩
    exact ⟨q, List.mem_filter.mpr ⟨h1, decide_eq_true h2⟩, rfl⟩
theorem small_ed {P : PD} {asked : List Int} {e : E3} : e ∈ (smallP P asked).ed ↔ ∃ q ∈ gL P, q.2.2 ∈ keptL P asked ∧ e = (numF (keptL P asked) q.1, q.2.1, numF (keptL P asked) q.2.2) := mem_canon.trans mem_smallE
theorem small_bg {P : PD} {asked : List Int} {i : Int} : i ∈ (smallP P asked).bg ↔ ∃ p ∈ keptL P asked, p ∈ P.bg ∧ i = numF (keptL P asked) p := mem_canon.trans mem_smallB
theorem small_reach {P : PD} {asked : List Int} (h : Asked P asked) : ∀ p ∈ keptL P asked, numF (keptL P asked) p ∈ reachL (smallP P asked) :=
  kept_all h.r (fun p hp hb => reach_bg (small_bg.mpr ⟨p, hp, hb, rfl⟩)) fun e he hk m => reach_step m (small_ed.mpr ⟨e, he, hk, rfl⟩)
theorem told_fol {P : PD} {asked : List Int} (h : Asked P asked) {a r : Int} (hr : r ∈ keptL P asked) (f : Fol P P a r) : Fol P (smallP P asked) a (numF (keptL P asked) r) := by
  refine ⟨fun a i => ∃ r ∈ keptL P asked, i = numF (keptL P asked) r ∧ Fol P P a r, ⟨?_, ?_, ?_, ?_⟩, r, hr, rfl, f⟩
  · rintro a i ⟨r, hr, rfl, f⟩
    exact (fol_sim P P).a f
  · rintro a i ⟨r, hr, rfl, f⟩
    exact small_reach h r hr
  · rintro a i ⟨r, hr, rfl, f⟩ hb
    exact small_bg.mpr ⟨r, hr, (fol_sim P P).bg f hb, rfl⟩
  · rintro a i ⟨r, hr, rfl, f⟩ k s hk
    obtain ⟨l, hl, f2⟩ := (fol_sim P P).st f k s hk
    have rr := kept_rep h.r r hr
    have rl := (mem_way.mp hl).2
    have inD : (leastF P l, s, r) ∈ dL P := mem_dL.mpr ⟨r, l, rr.r, hl, rfl, rr.e.symm⟩
    obtain ⟨g, hg, f3⟩ := greatest' inD
    have kg : g ∈ keptL P asked := kept_step hg hr
    exact ⟨_, mem_way.mpr ⟨small_ed.mpr ⟨(g, s, r), hg, hr, rfl⟩, small_reach h g kg⟩, g, kg, rfl, fol_trans f2 (fol_trans (least_spec rl).1.1 f3)⟩
theorem fol_told {P : PD} {asked : List Int} (h : Asked P asked) {a r : Int} (hr : r ∈ keptL P asked) (f : Fol P P r a) : Fol (smallP P asked) P (numF (keptL P asked) r) a := by
  have nd := kept_nodup P asked
  refine ⟨fun i a => ∃ r ∈ keptL P asked, i = numF (keptL P asked) r ∧ Fol P P r a, ⟨?_, ?_, ?_, ?_⟩, r, hr, rfl, f⟩
  · rintro i a ⟨r, hr, rfl, f⟩
    exact small_reach h r hr
  · rintro i a ⟨r, hr, rfl, f⟩
    exact (fol_sim P P).b f
  · rintro i a ⟨r, hr, rfl, f⟩ hb
    obtain ⟨p, hp, hb, e⟩ := small_bg.mp hb
    rw [numF_inj nd hr hp e] at f
    exact (fol_sim P P).bg f hb
  · rintro i a ⟨r, hr, rfl, f⟩ k' s hk
    obtain ⟨⟨g, s2, p⟩, hq, hp, e⟩ := small_ed.mp (mem_way.mp hk).1
    injection e with e1 e2
    injection e2 with e2 e3
    subst e1; subst e2
    have er : r = p := numF_inj nd hr hp e3
    subst er
    obtain ⟨n, k, hn, hk2, e4, e5⟩ := mem_dL.mp (mem_gL.mp hq).1
    have e4 : g = leastF P k := e4
    have e5 : r = leastF P n := e5
    have rk := (mem_way.mp hk2).2
    have fn : Fol P P n a := fol_trans (e5 ▸ (least_spec hn).1.1) f
    obtain ⟨l, hl, f3⟩ := (fol_sim P P).st fn k s hk2
    exact ⟨l, hl, g, kept_step hq hp, rfl, fol_trans (e4 ▸ (least_spec rk).1.2) f3⟩
theorem told_alk {P : PD} {asked : List Int} (h : Asked P asked) {r : Int} (hr : r ∈ keptL P asked) : Alk P (smallP P asked) r (numF (keptL P asked) r) :=
  ⟨told_fol h hr (fol_refl (kept_rep h.r r hr).r), fol_told h hr (fol_refl (kept_rep h.r r hr).r)⟩
/-- (i) -/
theorem told_asked {P : PD} {asked : List Int} (h : Asked P asked) {a : Int} (ha : a ∈ asked) : Alk P (smallP P asked) a (numF (keptL P asked) (leastF P a)) := (least_spec (h.r a ha)).1.trans (told_alk h (kept_asked ha))
theorem edge_alike {P B : PD} {e : E3} (he : e ∈ gL P) {b : Int} (hb : Alk P B e.2.2 b) : ∃ l, (l, e.2.1, b) ∈ B.ed ∧ Alk P B e.1 l := by
  obtain ⟨n, k, hn, hk, e1, e2⟩ := mem_dL.mp (mem_gL.mp he).1
  have rk := (mem_way.mp hk).2
  have fn : Fol P B n b := fol_trans (by rw [e2]; exact (least_spec hn).1.1) hb.1
  obtain ⟨l, hl, f1⟩ := (fol_sim P B).st fn k _ hk
  obtain ⟨k2, hk2, f2⟩ := (fol_sim B P).st hb.2 l _ hl
  have rk2 := (mem_way.mp hk2).2
  have rep := (dL_rep (mem_gL.mp he).1).2
  have in2 : (leastF P k2, e.2.1, e.2.2) ∈ dL P := mem_dL.mpr ⟨e.2.2, k2, rep.r, hk2, rfl, rep.e.symm⟩
  have ek : Fol P P e.1 k := by rw [e1]; exact (least_spec rk).1.2
  have fg : Fol P P e.1 (leastF P k2) := fol_trans ek (fol_trans f1 (fol_trans f2 (least_spec rk2).1.1))
  have eq : leastF P k2 = e.1 := Classical.byContradiction fun ne => (mem_gL.mp he).2 _ in2 ne fg
  exact ⟨l, (mem_way.mp hl).1, fol_trans ek f1, fol_trans f2 (by rw [← eq]; exact (least_spec rk2).1.1)⟩
theorem kept_alike {P B : PD} {asked : List Int} (h : Asked P asked) (ha : ∀ a ∈ asked, ∃ b, Alk P B a b) : ∀ r ∈ keptL P asked, ∃ b, Alk P B r b :=
  kept_ind (fun a h1 => by
    obtain ⟨b, hb⟩ := ha a h1
    exact ⟨b, (least_spec (h.r a h1)).1.symm.trans hb⟩) fun e he _ ⟨b, hb⟩ => by
    obtain ⟨l, _, hl⟩ := edge_alike he hb
    exact ⟨l, hl⟩
theorem map_nodup {α β : Type} {f : α → β} : ∀ {l : List α}, l.Nodup → (∀ x ∈ l, ∀ y ∈ l, f x = f y → x = y) → (l.map f).Nodup
  | [], _, _ => List.nodup_nil
  | x :: l, nd, inj => by
    obtain ⟨h1, h2⟩ := List.nodup_cons.mp nd
    rw [List.map_cons]
    refine List.nodup_cons.mpr ⟨fun m => ?_, map_nodup h2 fun y hy z hz => inj y (List.mem_cons_of_mem _ hy) z (List.mem_cons_of_mem _ hz)⟩
    obtain ⟨y, hy, e⟩ := List.mem_map.mp m
    rw [inj y (List.mem_cons_of_mem _ hy) x List.mem_cons_self e] at hy
    exact h1 hy
theorem rel_len {α β : Type} [DecidableEq β] {l : List α} {m : List β} (nd : l.Nodup) (R : α → β → Prop) (to : ∀ x ∈ l, ∃ y ∈ m, R x y) (inj : ∀ x ∈ l, ∀ x' ∈ l, ∀ y, R x y → R x' y → x = x') : l.length ≤ m.length := by
  classical
  let f : α → Option β := fun x => if h : ∃ y ∈ m, R x y then some (Classical.choose h) else none
  have sp : ∀ x ∈ l, ∃ y ∈ m, R x y ∧ f x = some y := fun x hx => by
    have h := to x hx
    exact ⟨Classical.choose h, (Classical.choose_spec h).1, (Classical.choose_spec h).2, dif_pos h⟩
  have n2 : (l.map f).Nodup := map_nodup nd fun x hx x' hx' e => by
    obtain ⟨y, _, r, e1⟩ := sp x hx
    obtain ⟨y', _, r', e2⟩ := sp x' hx'
    rw [e1, e2] at e
    injection e with e
    subst e
    exact inj x hx x' hx' y r r'
  have := nodup_len (m := m.map some) n2 fun z hz => (by
    obtain ⟨x, hx, rfl⟩ := List.mem_map.mp hz
    obtain ⟨y, hy, _, e1⟩ := sp x hx
    rw [e1]
    exact List.mem_map.mpr ⟨y, hy, rfl⟩)
  rw [List.length_map, List.length_map] at this
  exact this
theorem rep_one {P B : PD} {r r' b : Int} (h : IsRep P r) (h' : IsRep P r') (a : Alk P B r b) (a' : Alk P B r' b) : r = r' := rep_eq h h' (a.trans a'.symm)
/-- (ii) places -/
theorem least_places {P B : PD} {asked : List Int} (h : Asked P asked) (ha : ∀ a ∈ asked, ∃ b, Alk P B a b) : (keptL P asked).length ≤ (reachL B).length := by
  refine rel_len (kept_nodup P asked) (Alk P B) (fun r hr => ?_) fun r hr r' hr' b => rep_one (kept_rep h.r r hr) (kept_rep h.r r' hr')
  obtain ⟨b, hb⟩ := kept_alike h ha r hr
  exact ⟨b, (fol_sim P B).b hb.1, hb⟩
theorem least_edges {P B : PD} {asked : List Int} (h : Asked P asked) (ha : ∀ a ∈ asked, ∃ b, Alk P B a b) : (smallE P asked).length ≤ B.ed.length := by
  unfold smallE
  rw [List.length_map]
  refine rel_len (List.Pairwise.filter _ (asc_nodup (asc_gL P))) (fun e f => e.2.1 = f.2.1 ∧ Alk P B e.1 f.1 ∧ Alk P B e.2.2 f.2.2) (fun e he => ?_) fun e he e' he' f hf hf' => ?_
  · obtain ⟨h1, h2⟩ := List.mem_filter.mp he
    obtain ⟨b, hb⟩ := kept_alike h ha _ (of_decide_eq_true h2)
    obtain ⟨l, hl, al⟩ := edge_alike h1 hb
    exact ⟨(l, e.2.1, b), hl, rfl, al, hb⟩
  · have r := dL_rep (mem_gL.mp (List.mem_filter.mp he).1).1
    have r' := dL_rep (mem_gL.mp (List.mem_filter.mp he').1).1
    have e1 := rep_one r.1 r'.1 hf.2.1 hf'.2.1
    have e2 := rep_one r.2 r'.2 hf.2.2 hf'.2.2
    have e3 : e.2.1 = e'.2.1 := hf.1.trans hf'.1.symm
    exact Prod.ext e1 (Prod.ext e3 e2)
theorem least_begins {P B : PD} {asked : List Int} (h : Asked P asked) (ha : ∀ a ∈ asked, ∃ b, Alk P B a b) : (smallB P asked).length ≤ B.bg.length := by
  unfold smallB
  rw [List.length_map]
  refine rel_len (List.Pairwise.filter _ (kept_nodup P asked)) (Alk P B) (fun r hr => ?_) fun r hr r' hr' b => rep_one (kept_rep h.r r (List.mem_filter.mp hr).1) (kept_rep h.r r' (List.mem_filter.mp hr').1)
  obtain ⟨h1, h2⟩ := List.mem_filter.mp hr
  obtain ⟨b, hb⟩ := kept_alike h ha r h1
  exact ⟨b, (fol_sim P B).bg hb.1 (of_decide_eq_true h2), hb⟩
theorem canon_len_eq {α : Type} [TOrd α] [DecidableEq α] {l : List α} (nd : l.Nodup) : (canon l).length = l.length :=
  Nat.le_antisymm (canon_len l) (nodup_len nd fun x hx => mem_canon.mpr hx)
theorem smallE_nodup (P : PD) (asked : List Int) : (smallE P asked).Nodup := by
  have nd := kept_nodup P asked
  unfold smallE
  refine map_nodup (List.Pairwise.filter _ (asc_nodup (asc_gL P))) fun e he e' he' eq => ?_
  obtain ⟨h1, h2⟩ := List.mem_filter.mp he
  obtain ⟨h3, h4⟩ := List.mem_filter.mp he'
  have k2 := of_decide_eq_true h2
  have k4 := of_decide_eq_true h4
  injection eq with e1 e2
  injection e2 with e2 e3
  exact Prod.ext (numF_inj nd (kept_step h1 k2) (kept_step h3 k4) e1) (Prod.ext e2 (numF_inj nd k2 k4 e3))
theorem smallB_nodup (P : PD) (asked : List Int) : (smallB P asked).Nodup := by
  have nd := kept_nodup P asked
  unfold smallB
  exact map_nodup (List.Pairwise.filter _ nd) fun p hp p' hp' eq => numF_inj nd (List.mem_filter.mp hp).1 (List.mem_filter.mp hp').1 eq
end FF
namespace FF
open PySem
theorem same_small {A B : PD} {asked : List Int} (hl : ∀ a ∈ asked, leastF B a = leastF A a) (hb : ∀ p ∈ keptL A asked, (p ∈ B.bg ↔ p ∈ A.bg)) (hg : ∀ e : E3, e.2.2 ∈ keptL A asked → (e ∈ gL B ↔ e ∈ gL A)) : smallP B asked = smallP A asked ∧ smallAt B asked = smallAt A asked := by
  have ek : keptL B asked = keptL A asked := by
    refine asc_uniq (asc_cloL _ _) (asc_cloL _ _) fun z => ⟨fun hz => ?_, fun hz => ?_⟩
    · exact kept_ind (M := fun p => p ∈ keptL A asked) (fun a ha => by rw [hl a ha]; exact kept_asked ha) (fun e he _ m => kept_step ((hg e m).mp he) m) z hz
    · exact kept_ind (M := fun p => p ∈ keptL B asked) (fun a ha => by rw [← hl a ha]; exact kept_asked ha) (fun e he k m => kept_step ((hg e k).mpr he) m) z hz
  have eb : smallB B asked = smallB A asked := by
    unfold smallB
    rw [ek]
    congr 1
    refine List.filter_congr fun p hp => ?_
    exact decide_eq_decide.mpr (hb p hp)
  have ee : smallE B asked = smallE A asked := by
    unfold smallE
    rw [ek]
    congr 1
    refine asc_uniq (asc_filter (asc_gL B) _) (asc_filter (asc_gL A) _) fun e => ?_
    rw [List.mem_filter, List.mem_filter, decide_eq_true_eq]
    exact ⟨fun ⟨h1, h2⟩ => ⟨(hg e h2).mp h1, h2⟩, fun ⟨h1, h2⟩ => ⟨(hg e h2).mpr h1, h2⟩⟩
  refine ⟨?_, ?_⟩
  · unfold smallP
    rw [ek, eb, ee]
  · unfold smallAt
    rw [ek]
    exact List.map_congr_left fun a ha => by rw [hl a ha]
section
variable {A O : PD}
theorem bes_ed {e : E3} : e ∈ (besideP A O).ed ↔ e ∈ A.ed ∨ ∃ q ∈ O.ed, e = (q.1 + A.pl, q.2.1, q.2.2 + A.pl) := by
  refine mem_canon.trans (List.mem_append.trans (or_congr Iff.rfl ?_))
  rw [List.mem_map]
  exact ⟨fun ⟨q, h, e⟩ => ⟨q, h, e.symm⟩, fun ⟨q, h, e⟩ => ⟨q, h, e.symm⟩⟩
theorem bes_bg {n : Int} : n ∈ (besideP A O).bg ↔ n ∈ A.bg ∨ ∃ q ∈ O.bg, n = q + A.pl := by
  refine mem_canon.trans (List.mem_append.trans (or_congr Iff.rfl ?_))
  rw [List.mem_map]
  exact ⟨fun ⟨q, h, e⟩ => ⟨q, h, e.symm⟩, fun ⟨q, h, e⟩ => ⟨q, h, e.symm⟩⟩
variable (ok : OkAdd A O)
include ok
theorem bes_ed_lt {e : E3} (h : e ∈ (besideP A O).ed) (lt : e.2.2 < A.pl) : e ∈ A.ed := by
  rcases bes_ed.mp h with h | ⟨q, hq, rfl⟩
  · exact h
  · have := (ok.b.e1 q hq).2.1
    have lt : q.2.2 + A.pl < A.pl := lt
    omega
theorem bes_bg_lt {n : Int} (h : n ∈ (besideP A O).bg) (lt : n < A.pl) : n ∈ A.bg := by
  rcases bes_bg.mp h with h | ⟨q, hq, rfl⟩
  · exact h
  · have := (ok.b.b1 q hq).1
    omega
theorem bes_in {n : Int} (h : n ∈ reachL A) : n ∈ reachL (besideP A O) := by
  have c := mem_cloL.mp h
  clear h
  induction c with
  | base hb => exact reach_bg (bes_bg.mpr (.inl hb))
  | step _ h2 ih =>
    obtain ⟨⟨a, s, b⟩, he, e⟩ := List.mem_map.mp h2
    injection e with e1 e2
    have e1 : a = _ := e1
    have e2 : b = _ := e2
    subst e1; subst e2
    exact reach_step ih (bes_ed.mpr (.inl he))
theorem bes_out {n : Int} (h : n ∈ reachL (besideP A O)) : n < A.pl → n ∈ reachL A := by
  have c := mem_cloL.mp h
  clear h
  induction c with
  | base hb => exact fun lt => reach_bg (bes_bg_lt ok hb lt)
  | step _ h2 ih =>
    intro lt
    obtain ⟨⟨a, s, b⟩, he, e⟩ := List.mem_map.mp h2
    injection e with e1 e2
    have e1 : a = _ := e1
    have e2 : b = _ := e2
    subst e1; subst e2
    have he' := bes_ed_lt ok he lt
    exact reach_step (ih (ok.a.e1 _ he').1.2) he'
theorem bes_way {n k : Int} {s : Str} (hn : n ∈ reachL A) : (k, s) ∈ wayP (besideP A O) n ↔ (k, s) ∈ wayP A n := by
  have lt := (reach_rng ok.a hn).2
  rw [mem_way, mem_way]
  constructor
  · rintro ⟨h1, h2⟩
    have h1' := bes_ed_lt ok h1 lt
    exact ⟨h1', bes_out ok h2 (ok.a.e1 _ h1').1.2⟩
  · rintro ⟨h1, h2⟩
    exact ⟨bes_ed.mpr (.inl h1), bes_in ok h2⟩
theorem bes_fol {m n : Int} (hm : m ∈ reachL A) (hn : n ∈ reachL A) : Fol (besideP A O) (besideP A O) m n ↔ Fol A A m n := by
  constructor
  · intro f
    refine ⟨fun m n => Fol (besideP A O) (besideP A O) m n ∧ m ∈ reachL A ∧ n ∈ reachL A, ⟨fun r => r.2.1, fun r => r.2.2, fun r hb => ?_, fun r k s hk => ?_⟩, f, hm, hn⟩
    · exact bes_bg_lt ok ((fol_sim _ _).bg r.1 (bes_bg.mpr (.inl hb))) (reach_rng ok.a r.2.2).2
    · obtain ⟨l, h1, h2⟩ := (fol_sim _ _).st r.1 k s ((bes_way ok r.2.1).mpr hk)
      have h3 := (bes_way ok r.2.2).mp h1
      exact ⟨l, h3, h2, (mem_way.mp hk).2, (mem_way.mp h3).2⟩
  · intro f
    refine ⟨Fol A A, ⟨fun r => bes_in ok ((fol_sim A A).a r), fun r => bes_in ok ((fol_sim A A).b r), fun r hb => ?_, fun r k s hk => ?_⟩, f⟩
    · exact bes_bg.mpr (.inl ((fol_sim A A).bg r (bes_bg_lt ok hb (reach_rng ok.a ((fol_sim A A).a r)).2)))
    · obtain ⟨l, h1, h2⟩ := (fol_sim A A).st r k s ((bes_way ok ((fol_sim A A).a r)).mp hk)
      exact ⟨l, (bes_way ok ((fol_sim A A).b r)).mpr h1, h2⟩
theorem bes_least {n : Int} (h : n ∈ reachL A) : leastF (besideP A O) n = leastF A n := by
  have sA := least_spec h
  have sB := least_spec (bes_in ok h)
  have ry := (fol_sim A A).b sA.1.1
  have le : leastF (besideP A O) n ≤ leastF A n := sB.2 _ ⟨(bes_fol ok h ry).mpr sA.1.1, (bes_fol ok ry h).mpr sA.1.2⟩
  have lt := (reach_rng ok.a ry).2
  have rx : leastF (besideP A O) n ∈ reachL A := bes_out ok ((fol_sim _ _).b sB.1.1) (by omega)
  have ge := sA.2 _ ⟨(bes_fol ok h rx).mp sB.1.1, (bes_fol ok rx h).mp sB.1.2⟩
  omega
theorem bes_dL {e : E3} (h : e ∈ dL A) : e ∈ dL (besideP A O) := by
  obtain ⟨n, k, hn, hk, e1, e2⟩ := mem_dL.mp h
  exact mem_dL.mpr ⟨n, k, bes_in ok hn, (bes_way ok hn).mpr hk, by rw [bes_least ok (mem_way.mp hk).2]; exact e1, by rw [bes_least ok hn]; exact e2⟩
theorem bes_pred {l' p : Int} {s : Str} (h : (l', s, p) ∈ dL (besideP A O)) (hp : p ∈ reachL A) : ∃ l, (l, s, p) ∈ dL A ∧ Fol (besideP A O) (besideP A O) l' l := by
  have rep := (dL_rep h).2
  obtain ⟨n, k, hn, hk, e1, e2⟩ := mem_dL.mp h
  have e1 : l' = leastF (besideP A O) k := e1
  have e2 : p = leastF (besideP A O) n := e2
  have rk := (mem_way.mp hk).2
  have fn : Fol (besideP A O) (besideP A O) n p := by rw [e2]; exact (least_spec hn).1.1
  obtain ⟨l0, h1, h2⟩ := (fol_sim _ _).st fn k s hk
  have h1' := (bes_way ok hp).mp h1
  have r0 := (mem_way.mp h1').2
  refine ⟨leastF A l0, mem_dL.mpr ⟨p, l0, hp, h1', rfl, ?_⟩, ?_⟩
  · have : leastF (besideP A O) p = p := rep.e
    rw [bes_least ok hp] at this
    exact this.symm
  · rw [e1, ← bes_least ok r0]
    exact fol_trans (least_spec rk).1.2 (fol_trans h2 (least_spec (bes_in ok r0)).1.1)
theorem bes_gL {e : E3} (hp : e.2.2 ∈ reachL A) : e ∈ gL (besideP A O) ↔ e ∈ gL A := by
  constructor
  · intro h
    obtain ⟨h1, h2⟩ := mem_gL.mp h
    obtain ⟨l, h3, f⟩ := bes_pred ok h1 hp
    have el : l = e.1 := Classical.byContradiction fun ne => h2 l (bes_dL ok h3) ne f
    subst el
    refine mem_gL.mpr ⟨h3, fun l2 h4 ne f2 => h2 l2 (bes_dL ok h4) ne ?_⟩
    exact (bes_fol ok (dL_rep h3).1.r (dL_rep h4).1.r).mpr f2
  · intro h
    obtain ⟨h1, h2⟩ := mem_gL.mp h
    refine mem_gL.mpr ⟨bes_dL ok h1, fun l' h3 ne f => ?_⟩
    obtain ⟨l, h4, f2⟩ := bes_pred ok h3 hp
    have f3 := (bes_fol ok (dL_rep h1).1.r (dL_rep h4).1.r).mp (fol_trans f f2)
    by_cases el : l = e.1
    · subst el
      exact ne (rep_eq (dL_rep h3).1 (dL_rep (bes_dL ok h1)).1 ⟨f2, f⟩)
    · exact h2 l h4 el f3
/-- (v) -/
theorem bes_small {asked : List Int} (h : Asked A asked) : smallP (besideP A O) asked = smallP A asked ∧ smallAt (besideP A O) asked = smallAt A asked := by
  refine same_small (fun a ha => bes_least ok (h.r a ha)) (fun p hp => ?_) fun e he => bes_gL ok (kept_rep h.r _ he).r
  exact ⟨fun hb => bes_bg_lt ok hb (reach_rng ok.a (kept_rep h.r p hp).r).2, fun hb => bes_bg.mpr (.inl hb)⟩
end
end FF
namespace FF
open PySem
theorem asc_upto (n : Nat) : Asc (upto n) := by
  unfold upto
  refine List.pairwise_map.mpr (List.Pairwise.imp (fun {a b} h => ?_) List.pairwise_lt_range)
  show decide ((Int.ofNat a : Int) < Int.ofNat b) = true
  rw [decide_eq_true_eq]
  exact Int.ofNat_lt.mpr h
theorem numF_upto {n : Nat} {i : Int} (h : InR n i) : numF (upto n) i = i := by
  have m : i ∈ upto n := mem_upto.mpr ⟨h.1, h.2⟩
  obtain ⟨_, h1, h2⟩ := numF_at (asc_nodup (asc_upto n)) m
  have lt := (List.getElem?_eq_some_iff.mp h2).1
  rw [upto_length] at lt
  rw [upto_get lt] at h2
  injection h2 with h2
  omega
section
variable {A : PD} {asked : List Int} (h : Asked A asked)
include h
theorem again_asked : Asked (smallP A asked) (smallAt A asked) where
  ok := small_ok h
  ne := fun z => h.ne (List.map_eq_nil_iff.mp z)
  r := fun i hi => by
    obtain ⟨a, ha, rfl⟩ := List.mem_map.mp hi
    exact small_reach h _ (kept_asked ha)
  few := by
    unfold smallAt
    rw [List.length_map]
    exact h.few
theorem small_num {i : Int} (hi : i ∈ reachL (smallP A asked)) : ∃ r ∈ keptL A asked, numF (keptL A asked) r = i := numF_onto (kept_nodup A asked) (reach_rng (small_ok h) hi)
theorem small_back {r r' : Int} (hr : r ∈ keptL A asked) (hr' : r' ∈ keptL A asked) (f : Fol (smallP A asked) (smallP A asked) (numF (keptL A asked) r) (numF (keptL A asked) r')) : Fol A A r r' := fol_trans (told_alk h hr).1 (fol_trans f (told_alk h hr').2)
theorem small_rep {i : Int} (hi : i ∈ reachL (smallP A asked)) : leastF (smallP A asked) i = i := by
  have sp := (least_spec hi).1
  have hj := (fol_sim _ _).b sp.1
  obtain ⟨r, hr, e⟩ := small_num h hi
  obtain ⟨r', hr', e'⟩ := small_num h hj
  rw [← e'] at sp ⊢
  rw [← e] at sp ⊢
  have := rep_eq (kept_rep h.r r hr) (kept_rep h.r r' hr') ⟨small_back h hr hr' sp.1, small_back h hr' hr sp.2⟩
  rw [this]
theorem small_all {i : Int} (hi : InR (smallP A asked).pl i) : i ∈ reachL (smallP A asked) := by
  obtain ⟨r, hr, rfl⟩ := numF_onto (kept_nodup A asked) hi
  exact small_reach h r hr
theorem small_dL {e : E3} : e ∈ dL (smallP A asked) ↔ e ∈ (smallP A asked).ed := by
  rw [mem_dL]
  constructor
  · rintro ⟨n, k, hn, hk, e1, e2⟩
    rw [small_rep h hn] at e2
    rw [small_rep h (mem_way.mp hk).2] at e1
    have := (mem_way.mp hk).1
    rw [← e1, ← e2] at this
    exact this
  · intro he
    have r := (small_ok h).e1 e he
    have r1 := small_all h r.1
    have r2 := small_all h r.2
    exact ⟨e.2.2, e.1, r2, mem_way.mpr ⟨he, r1⟩, (small_rep h r1).symm, (small_rep h r2).symm⟩
theorem small_gL : gL (smallP A asked) = (smallP A asked).ed := by
  have nd := kept_nodup A asked
  refine asc_uniq (asc_gL _) (small_ok h).ae fun e => ⟨fun he => (small_dL h).mp (mem_gL.mp he).1, fun he => mem_gL.mpr ⟨(small_dL h).mpr he, fun l hl ne f => ?_⟩⟩
  obtain ⟨⟨g, s, p⟩, hq, hp, rfl⟩ := small_ed.mp he
  obtain ⟨⟨g', s', p'⟩, hq', hp', e'⟩ := small_ed.mp ((small_dL h).mp hl)
  injection e' with e1 e2
  injection e2 with e2 e3
  have e2 : s = s' := e2
  subst e1; subst e2
  have ep : p = p' := numF_inj nd hp hp' e3
  subst ep
  have f' := small_back h (kept_step hq hp) (kept_step hq' hp') f
  refine (mem_gL.mp hq).2 g' (mem_gL.mp hq').1 (fun z => ne ?_) f'
  show numF _ g' = numF _ g
  have z : g' = g := z
  rw [z]
theorem small_kept : keptL (smallP A asked) (smallAt A asked) = upto (keptL A asked).length := by
  refine asc_uniq (asc_cloL _ _) (asc_upto _) fun z => ⟨fun hz => ?_, fun hz => ?_⟩
  · have r := kept_rng (again_asked h) hz
    exact mem_upto.mpr ⟨r.1, r.2⟩
  · have r := mem_upto.mp hz
    obtain ⟨x, hx, rfl⟩ := numF_onto (kept_nodup A asked) (i := z) ⟨r.1, r.2⟩
    refine kept_ind (M := fun p => numF (keptL A asked) p ∈ keptL (smallP A asked) (smallAt A asked)) (fun a ha => ?_) (fun e he k m => ?_) x hx
    · have m : numF (keptL A asked) (leastF A a) ∈ smallAt A asked := List.mem_map.mpr ⟨a, ha, rfl⟩
      have := kept_asked (P := smallP A asked) m
      rw [small_rep h ((again_asked h).r _ m)] at this
      exact this
    · refine kept_step (e := (numF (keptL A asked) e.1, e.2.1, numF (keptL A asked) e.2.2)) ?_ m
      rw [small_gL h]
      exact small_ed.mpr ⟨e, he, k, rfl⟩
/-- (iii) -/
theorem small_again : smallP (smallP A asked) (smallAt A asked) = smallP A asked ∧ smallAt (smallP A asked) (smallAt A asked) = smallAt A asked := by
  have nm : ∀ i, i ∈ keptL (smallP A asked) (smallAt A asked) → numF (keptL (smallP A asked) (smallAt A asked)) i = i := fun i hi => by
    rw [small_kept h] at hi ⊢
    have r := mem_upto.mp hi
    exact numF_upto ⟨r.1, r.2⟩
  have inK : ∀ i, InR (smallP A asked).pl i → i ∈ keptL (smallP A asked) (smallAt A asked) := fun i hi => by
    rw [small_kept h]
    exact mem_upto.mpr ⟨hi.1, hi.2⟩
  have sk := small_ok h
  have s2 := small_ok (again_asked h)
  have ep : (smallP (smallP A asked) (smallAt A asked)).pl = (smallP A asked).pl := by
    show ((keptL (smallP A asked) (smallAt A asked)).length : Int) = ((keptL A asked).length : Int)
    rw [small_kept h, upto_length]
  have eb : (smallP (smallP A asked) (smallAt A asked)).bg = (smallP A asked).bg := by
    refine asc_uniq s2.ab sk.ab fun i => ?_
    rw [small_bg]
    constructor
    · rintro ⟨p, hp, hb, rfl⟩
      rw [nm p hp]
      exact hb
    · intro hb
      have k := inK i (sk.b1 i hb)
      exact ⟨i, k, hb, (nm i k).symm⟩
  have ee : (smallP (smallP A asked) (smallAt A asked)).ed = (smallP A asked).ed := by
    refine asc_uniq s2.ae sk.ae fun e => ?_
    rw [small_ed, small_gL h]
    constructor
    · rintro ⟨q, hq, hk, rfl⟩
      rw [nm _ (inK _ (sk.e1 q hq).1), nm _ hk]
      exact hq
    · intro he
      have k1 := inK _ (sk.e1 e he).1
      have k2 := inK _ (sk.e1 e he).2
      refine ⟨e, he, k2, ?_⟩
      rw [nm _ k1, nm _ k2]
  refine ⟨?_, ?_⟩
  · generalize smallP (smallP A asked) (smallAt A asked) = X at ep eb ee
    generalize smallP A asked = Y at ep eb ee
    cases X; cases Y
    congr
  · unfold smallAt
    rw [List.map_map]
    refine List.map_congr_left fun a ha => ?_
    have m : numF (keptL A asked) (leastF A a) ∈ smallAt A asked := List.mem_map.mpr ⟨a, ha, rfl⟩
    have r := (again_asked h).r _ m
    show numF (keptL (smallP A asked) (smallAt A asked)) (leastF (smallP A asked) (numF (keptL A asked) (leastF A a))) = _
    rw [small_rep h r]
    exact nm _ (inK _ (reach_rng sk r))
end
section
variable {A : PD} {o : List Int} (ok : OkOrd A o) (nd : o.Nodup)
include ok nd
theorem ord_inj {x y : Int} (hx : InR A.pl x) (hy : InR A.pl y) (e : ordF o x = ordF o y) : x = y := by
  have h1 := (ord_at ok hx).1
  have h2 := (ord_at ok hy).1
  rw [e, ← h2] at h1
  have lt := (List.getElem?_eq_some_iff.mp h2).1
  have := (List.getElem?_inj (by have := ok.len; have := hx.2; have := hx.1; omega) nd).mp h1
  have := hx.1
  have := hy.1
  omega
omit nd in
theorem mov_ed {e : E3} : e ∈ (movedP A o).ed ↔ ∃ q ∈ A.ed, e = (ordF o q.1, q.2.1, ordF o q.2.2) := mem_canon.trans (by rw [List.mem_map]; exact ⟨fun ⟨q, h, e⟩ => ⟨q, h, e.symm⟩, fun ⟨q, h, e⟩ => ⟨q, h, e.symm⟩⟩)
omit nd in
theorem mov_bg {i : Int} : i ∈ (movedP A o).bg ↔ ∃ q ∈ A.bg, i = ordF o q := mem_canon.trans (by rw [List.mem_map]; exact ⟨fun ⟨q, h, e⟩ => ⟨q, h, e.symm⟩, fun ⟨q, h, e⟩ => ⟨q, h, e.symm⟩⟩)
omit nd in
theorem mov_in {a : Int} (h : a ∈ reachL A) : ordF o a ∈ reachL (movedP A o) := by
  have c := mem_cloL.mp h
  clear h
  induction c with
  | base hb => exact reach_bg ((mov_bg ok).mpr ⟨_, hb, rfl⟩)
  | step _ h2 ih =>
    obtain ⟨⟨a, s, b⟩, he, e⟩ := List.mem_map.mp h2
    injection e with e1 e2
    have e1 : a = _ := e1
    have e2 : b = _ := e2
    subst e1; subst e2
    exact reach_step ih ((mov_ed ok).mpr ⟨_, he, rfl⟩)
theorem mov_out {i : Int} (h : i ∈ reachL (movedP A o)) : ∃ a ∈ reachL A, i = ordF o a := by
  have c := mem_cloL.mp h
  clear h
  induction c with
  | base hb =>
    obtain ⟨q, hq, rfl⟩ := (mov_bg ok).mp hb
    exact ⟨q, reach_bg hq, rfl⟩
  | step _ h2 ih =>
    obtain ⟨⟨x, s, y⟩, he, e⟩ := List.mem_map.mp h2
    injection e with e1 e2
    have e1 : x = _ := e1
    have e2 : y = _ := e2
    subst e1; subst e2
    obtain ⟨⟨k, s', n⟩, hq, e3⟩ := (mov_ed ok).mp he
    injection e3 with e3 e4
    injection e4 with e4 e5
    obtain ⟨a, ha, e6⟩ := ih
    have : a = k := ord_inj ok nd (reach_rng ok.ok ha) (ok.ok.e1 _ hq).1 (e6.symm.trans e3)
    subst this
    exact ⟨n, reach_step ha hq, e5⟩
/-- (iv) -/
theorem mov_alk {a : Int} (h : a ∈ reachL A) : Alk A (movedP A o) a (ordF o a) := by
  constructor
  · refine ⟨fun a i => a ∈ reachL A ∧ i = ordF o a, ⟨?_, ?_, ?_, ?_⟩, h, rfl⟩
    · exact fun r => r.1
    · rintro a i ⟨r, rfl⟩
      exact mov_in ok r
    · rintro a i ⟨r, rfl⟩ hb
      exact (mov_bg ok).mpr ⟨a, hb, rfl⟩
    · rintro a i ⟨r, rfl⟩ k s hk
      obtain ⟨h1, h2⟩ := mem_way.mp hk
      exact ⟨ordF o k, mem_way.mpr ⟨(mov_ed ok).mpr ⟨_, h1, rfl⟩, mov_in ok h2⟩, h2, rfl⟩
  · refine ⟨fun i a => a ∈ reachL A ∧ i = ordF o a, ⟨?_, ?_, ?_, ?_⟩, h, rfl⟩
    · rintro i a ⟨r, rfl⟩
      exact mov_in ok r
    · exact fun r => r.1
    · rintro i a ⟨r, rfl⟩ hb
      obtain ⟨q, hq, e⟩ := (mov_bg ok).mp hb
      rw [ord_inj ok nd (reach_rng ok.ok r) (ok.ok.b1 q hq) e]
      exact hq
    · rintro i a ⟨r, rfl⟩ k' s hk
      obtain ⟨h1, h2⟩ := mem_way.mp hk
      obtain ⟨⟨k, s', n⟩, hq, e⟩ := (mov_ed ok).mp h1
      injection e with e1 e2
      injection e2 with e2 e3
      have e2 : s = s' := e2
      subst e2
      have en : a = n := ord_inj ok nd (reach_rng ok.ok r) (ok.ok.e1 _ hq).2 e3
      subst en
      obtain ⟨x, hx, ex⟩ := mov_out ok nd h2
      have ek : x = k := ord_inj ok nd (reach_rng ok.ok hx) (ok.ok.e1 _ hq).1 (ex.symm.trans e1)
      subst ek
      exact ⟨x, mem_way.mpr ⟨hq, hx⟩, hx, ex⟩
end
/-- sizes -/
def sizeP (P : PD) : Int × Int × Int := (P.pl, (P.bg.length : Int), (P.ed.length : Int))
theorem small_size {A B : PD} {as bs : List Int} (ha : Asked A as) (hb : Asked B bs) (h1 : ∀ a ∈ as, ∃ b ∈ bs, Alk A B a b) (h2 : ∀ b ∈ bs, ∃ a ∈ as, Alk A B a b) : sizeP (smallP A as) = sizeP (smallP B bs) := by
  have to : ∀ a ∈ as, ∃ i, Alk A (smallP B bs) a i := fun a m => by
    obtain ⟨b, mb, al⟩ := h1 a m
    exact ⟨_, al.trans (told_asked hb mb)⟩
  have fro : ∀ b ∈ bs, ∃ i, Alk B (smallP A as) b i := fun b m => by
    obtain ⟨a, ma, al⟩ := h2 b m
    exact ⟨_, al.symm.trans (told_asked ha ma)⟩
  have reach_all : ∀ {C : PD} {cs : List Int}, Asked C cs → (reachL (smallP C cs)).length ≤ (keptL C cs).length := fun {C cs} hc => by
    have := nodup_len (m := upto (keptL C cs).length) (reach_nodup (smallP C cs)) fun x hx => (by
      have r := reach_rng (small_ok hc) hx
      exact mem_upto.mpr ⟨r.1, r.2⟩)
    rw [upto_length] at this
    exact this
  have e1 : ∀ (C : PD) (cs : List Int), (smallP C cs).ed.length = (smallE C cs).length := fun C cs => canon_len_eq (smallE_nodup C cs)
  have b1 : ∀ (C : PD) (cs : List Int), (smallP C cs).bg.length = (smallB C cs).length := fun C cs => canon_len_eq (smallB_nodup C cs)
  have p := least_places ha to
  have p' := least_places hb fro
  have r := reach_all ha
  have r' := reach_all hb
  have e := least_edges ha to
  have e' := least_edges hb fro
  have b := least_begins ha to
  have b' := least_begins hb fro
  rw [e1] at e e'
  rw [b1] at b b'
  have q1 : (smallP A as).pl = (smallP B bs).pl := by
    show ((keptL A as).length : Int) = ((keptL B bs).length : Int)
    omega
  unfold sizeP
  rw [q1, e1, e1, b1, b1]
  have q2 : (smallB A as).length = (smallB B bs).length := by omega
  have q3 : (smallE A as).length = (smallE B bs).length := by omega
  rw [q2, q3]
end FF
namespace FF
open PySem PySem.Spec PyProof.Rows L2
section
variable {X : Cx}
theorem get_list : PGet X (rIxL X.K) := by
  intro pins s σ H o i ov iv Q I ro ri h
  obtain ⟨p, xs, k, z, rfl, rfl, hq, he, q⟩ := h
  cases ro
  obtain ⟨t, rfl⟩ := ri
  obtain ⟨its, r, pl, hz⟩ := I.list hq
  obtain ⟨j, h1, h2, h3, h4, h5⟩ := atI_get he
  obtain ⟨w, ew, rw'⟩ := r.get h2
  have hl := r.length
  have hn := line63
  have fin : EP X pins σ Q w s := ⟨z, H, I, rw', q⟩
  by_cases h0 : 0 ≤ k
  · have hj : k.toNat = j := by
      rw [seqIndex_of h0 h5] at h1
      exact Option.some.inj h1
    exact PySem.wpAny_getItem_list (x := w) pl.isList h0 (by omega) (by rw [hj]; simpa using ew) fin
  · have hj : (k + (its.toArray.size : Int)).toNat = j := by
      rw [seqIndex_neg (by omega) h4] at h1
      rw [List.size_toArray, ← hl]
      exact Option.some.inj h1
    exact PySem.wpAny_getItem_list_neg (x := w) pl.isList (by omega) (by rw [List.size_toArray] <;> omega) (by omega) (by rw [hj]; simpa using ew) fin
end
section
variable {f : Fr} {σ : L2.St} {H : Hp} {Kf : PySem.W.Frag} {i j : Int}
theorem ru_mul (hc : CMul i j) : Ru2 f (rI CMul fun i j => .int (i * j)) H (At zI i) (At zI j) (At zI (i * j)) := fun H1 u w e d p p' Q q => ⟨i, j, p, p', hc, q _ H1 (re.refl _) rfl⟩
theorem ru_mod (hc : 0 < j) : Ru2 f (rI (fun _ j => 0 < j) fun i j => .int (i % j)) H (At zI i) (At zI j) (At zI (i % j)) := fun H1 u w e d p p' Q q => ⟨i, j, p, p', hc, q _ H1 (re.refl _) rfl⟩
theorem ru_fdiv (hc : CDiv i j) : Ru2 f (rI CDiv fun i j => .int (i / j)) H (At zI i) (At zI j) (At zI (i / j)) := fun H1 u w e d p p' Q q => ⟨i, j, p, p', hc, q _ H1 (re.refl _) rfl⟩
theorem ru_gt : Ru2 f (rI0 fun i j => .bl (decide (j < i))) H (At zI i) (At zI j) (At zB (decide (j < i))) := fun H1 u w e d p p' Q q => ⟨i, j, p, p', q _ H1 (re.refl _) rfl⟩
theorem ru_ge : Ru2 f (rI0 fun i j => .bl (decide (j ≤ i))) H (At zI i) (At zI j) (At zB (decide (j ≤ i))) := fun H1 u w e d p p' Q q => ⟨i, j, p, p', q _ H1 (re.refl _) rfl⟩
/-- a list as it is -/
def LstV (p : Addr) (xs : List V) : Hp → V → Prop := fun G u => u = .ref p ∧ G p = some (.lst xs)
instance {p : Addr} {xs : List V} : StP (LstV p xs) := ⟨fun u ⟨e, h⟩ => ⟨e, u _ _ h⟩⟩
theorem ru_ixV {p : Addr} {xs : List V} {m : Int} {v : V} (h : atI xs m = some v) : Ru2 f (rIxL Kf) H (LstV p xs) (At zI m) (IsV v) := fun H1 u w e d p1 p2 Q q => by
  obtain ⟨rfl, hp⟩ := p1
  obtain rfl : w = .int m := p2
  exact ⟨p, xs, m, v, rfl, rfl, SqL.of (hid_same _ _ hp), h, q _ H1 (re.refl _) rfl⟩
end
theorem EvP.keep_c {σ : L2.St} {H : Hp} {te : TE} {c : Addr} {ns : List Int} (h : EvP (⟨[], none⟩ : Fr) te σ H (fun G v => v = .ref c)) (hc : H c = some (.lst (ns.map V.int))) : EvP (⟨[], none⟩ : Fr) te σ H (At (zL zI) ns) := fun H1 e d Q q => h H1 e d _ fun v H2 e2 p => q v H2 e2 ⟨c, _, p, by rw [hid_nil]; exact (e.trans e2).pure _ _ hc, of_ints _⟩
/-- the bag on the way -/
structure BS (H0 H : Hp) (b c : Addr) (i j k : Int) (ns : List Int) : Prop where
  rel : re (some b) H0 H
  hb : H b = some (.lst [.int i, .int j, .int k, .ref c])
  hc : H c = some (.lst (ns.map V.int))
  ne : b ≠ c
  i0 : 0 ≤ i
  j0 : 0 ≤ j
  jm : j < 2147483647
  k0 : 0 ≤ k
  n0 : ∀ n ∈ ns, 0 ≤ n
theorem BS.start {H : Hp} {b c : Addr} (h : BagAt H b c) : ∃ i j k ns, BS H H b c i j k ns := by
  obtain ⟨i, j, k, ns, h1, h2, h3, h4, h5, h6, h7, h8⟩ := h
  exact ⟨i, j, k, ns, re.refl _, h1, h2, h3, h4, h5, h6, h7, h8⟩
theorem BS.go {H0 H H1 : Hp} {b c : Addr} {i j k : Int} {ns : List Int} (h : BS H0 H b c i j k ns) (e : re none H H1) : BS H0 H1 b c i j k ns :=
  { h with rel := h.rel.trans (re.same e.pure), hb := e.pure _ _ h.hb, hc := e.pure _ _ h.hc }
theorem BS.set {H0 H : Hp} {b c : Addr} {i j k : Int} {ns : List Int} (h : BS H0 H b c i j k ns) {i' j' k' : Int} (i0 : 0 ≤ i') (j0 : 0 ≤ j') (jm : j' < 2147483647) (k0 : 0 ≤ k') : BS H0 (upd H b (.lst [.int i', .int j', .int k', .ref c])) b c i' j' k' ns where
  rel := by
    refine h.rel.trans ⟨fun a o n e => ?_, fun a e => ?_⟩
    · rw [upd_ne (fun z => n (by rw [z]))]
      exact e
    · injection e with e
      subst e
      refine ⟨⟨fun _ => by rw [upd_same]; exact fun z => (nomatch z), fun _ => Loc.of upd_same fun _ z => by cases z⟩, fun c' hB => ?_⟩
      obtain ⟨x, y, z, ms, h1, h2, h3, _, _, _, _, h8⟩ := hB
      rw [h.hb] at h1
      injection h1 with h1
      injection h1 with h1
      have : c = c' := by
        injection h1 with _ h1
        injection h1 with _ h1
        injection h1 with _ h1
        injection h1 with h1 _
        injection h1
      subst this
      exact ⟨i', j', k', ms, upd_same, by rw [upd_ne (Ne.symm h3)]; exact h2, h3, i0, j0, jm, k0, h8⟩
  hb := upd_same
  hc := by rw [upd_ne (Ne.symm h.ne)]; exact h.hc
  ne := h.ne
  i0 := i0
  j0 := j0
  jm := jm
  k0 := k0
  n0 := h.n0
theorem BS.bag {H0 H : Hp} {b c : Addr} {i j k : Int} {ns : List Int} (h : BS H0 H b c i j k ns) : BagAt H b c := ⟨i, j, k, ns, h.hb, h.hc, h.ne, h.i0, h.j0, h.jm, h.k0, h.n0⟩
abbrev f0 : Fr := ⟨[], none⟩
theorem dm0 (H : Hp) : Dm f0 H := ⟨fun a m => (nomatch m), fun a z => nomatch z⟩
section
variable {σ : L2.St} {H0 H : Hp} {Kf : PySem.W.Frag} {b c : Addr} {i j k : Int} {ns : List Int}
theorem BS.lst (h : BS H0 H b c i j k ns) (hσ : σ[0]? = some (some (.ref b))) : EvP f0 (tVar 0) σ H (LstV b [.int i, .int j, .int k, .ref c]) := ev_var hσ ⟨rfl, by rw [hid_nil]; exact h.hb⟩
theorem BS.at0 (h : BS H0 H b c i j k ns) (hσ : σ[0]? = some (some (.ref b))) : EvP f0 (tOp (rIxL Kf) (tVar 0) (tC (.int 0))) σ H (At zI i) := ev_op (h.lst hσ) ev_int (ru_ixV rfl)
theorem BS.at1 (h : BS H0 H b c i j k ns) (hσ : σ[0]? = some (some (.ref b))) : EvP f0 (tOp (rIxL Kf) (tVar 0) (tC (.int 1))) σ H (At zI j) := ev_op (h.lst hσ) ev_int (ru_ixV rfl)
theorem BS.at2 (h : BS H0 H b c i j k ns) (hσ : σ[0]? = some (some (.ref b))) : EvP f0 (tOp (rIxL Kf) (tVar 0) (tC (.int 2))) σ H (At zI k) := ev_op (h.lst hσ) ev_int (ru_ixV rfl)
theorem BS.at3 (h : BS H0 H b c i j k ns) (hσ : σ[0]? = some (some (.ref b))) : EvP f0 (tOp (rIxL Kf) (tVar 0) (tC (.int 3))) σ H (At (zL zI) ns) := (ev_op (h.lst hσ) ev_int (Φ := fun G v => v = .ref c) (ru_ixV (v := .ref c) rfl)).keep_c h.hc
end
section
variable {σ : L2.St} {H : Hp} {D : Ends} {te : TE} {tt : TT} {tu tw A B : TS} {Φ : Hp → V → Prop} {b : Addr} {Pb : Bool → Prop}
theorem seq_k (Inv : L2.St → Hp → Prop) (h : ∀ N : L2.St → Hp → Prop, (∀ σ H, Inv σ H → N σ H) → A { D with nx := N } σ H) (hB : ∀ σ H, Inv σ H → B D σ H) : tSeq A B D σ H := h (B D) hB
theorem s_val {i : Nat} (h : EvP f0 te σ H Φ) (k : ∀ v H1, re none H H1 → Φ (hid [] H1) v → D.nx (σ.set i (some v)) H1) : tAsg te (gName i) D σ H := h H (re.refl _) (dm0 _) _ k
theorem s_tst (h : EvT f0 tt σ H Pb) (h1 : Pb true → ∀ H1, re none H H1 → tu D σ H1) (h2 : Pb false → ∀ H1, re none H H1 → tw D σ H1) : tIfS tt tu tw D σ H :=
  h H (re.refl _) (dm0 _) _ fun c H1 e p => by
    cases c with
    | true => exact h1 p H1 e
    | false => exact h2 p H1 e
theorem s_sub {m : Int} (h : EvP f0 te σ H Φ) (hσ : σ[0]? = some (some (.ref b))) (k : ∀ v H1, re none H H1 → Φ (hid [] H1) v → ∃ xs j, H1 b = some (.lst xs) ∧ ixN xs.length m = some j ∧ D.nx σ (upd H1 b (.lst (xs.set j v)))) : tAsg te (gSub (tVar 0) (tC (.int m)) rSetL) D σ H :=
  h H (re.refl _) (dm0 _) _ fun v H1 e p => by
    obtain ⟨xs, j, h1, h2, h3⟩ := k v H1 e p
    exact ⟨.ref b, hσ, b, xs, m, j, rfl, rfl, h1, h2, h3⟩
theorem s_rv (h : EvP f0 te σ H Φ) (k : ∀ v H1, re none H H1 → Φ (hid [] H1) v → D.rt v H1) : tRet te D σ H := h H (re.refl _) (dm0 _) _ k
theorem ev_I {i : Nat} {x : Int} (h : σ[i]? = some (some (.int x))) : EvP f0 (tVar i) σ H (At zI x) := ev_var h rfl
theorem ev_toI {x : Int} (h : EvP f0 te σ H (At zI x)) : EvP f0 (tCB (fun xs H Q => (∃ i, xs = [.int i] ∧ Q (.int i) H) ∨ ∃ k, xs = [.bl k] ∧ Q (.int (if k then 1 else 0)) H) (tCons te tNil)) σ H (At zI x) := ev_cb (ea_cons h ea_nil) ra_int
end
section
variable {P : Program} {w : World} {K : PySem.W.Frag} {mg : Str → Option Value} {base : Heap} {C : Addr}
abbrev s__law_take : Stmt := topS 35
abbrev N__law_take : List Str := ["_law_bag_here", "_law_many", "_law_cell", "_law_mixed_here", "_law_drawn", "_law_early", "_law_second"]
abbrev P__law_take : List Str := ["_law_bag_here", "_law_many"]
theorem sc__law_take : FnScope N__law_take P__law_take (C8.fnScope s__law_take) := C8.fnScope_by (by decide +kernel)
abbrev Many := { m : Int // 0 < m ∧ m < 1073741824 }
abbrev sp_law_take : Sp := SpB (ι := Many) (fun m => ACons (At zI m.1) ANil) (fun m => Som zI fun d => InR m.1 d)
theorem law_many_big {m : Int} (h0 : 0 < m) {a : Int} : InR m (a % m) := ⟨Int.emod_nonneg _ (by omega), Int.emod_lt_of_pos _ h0⟩
theorem ok_law_take {f : Addr} {fd : FuncData} (F : C8.Def K mg "_law_take" s__law_take f fd) (b : L2.Binds K fd P__law_take []) (T : Txt K mg C) : C8.Cal P w K mg base 1 "_law_take" sp_law_take [] := by
  refine C8.cal0 F b .nil sc__law_take (spB_len fun x G vs h => alS h fun _ h => al0 h) (fun cdv A0 outer s H vs Q E hr h => ?_)
  obtain ⟨⟨m, m0, m1⟩, F, b, c, rest, rfl, hbF, hF, hB, ⟨v, r, rfl, p, rfl⟩, kk⟩ := h
  obtain rfl : v = .int m := p
  have hu := hu_of hr
  refine ⟨_, (pss_cons (ps_if (pt_cmpR op_eq (pe_ix ix_list (pv 0) pe_int (fun _ _ => rfl)) pe_int (nomark _)) (pss_cons (ps_set (i := 2) sc__law_take.nd rfl (.inl rfl) pe_int) (pss_cons (ps_if (pt_cmpR op_lt (pe_ix ix_list (pv 0) pe_int (fun _ _ => rfl)) (pe_callB call_len_seq (by rfl) T.m_len (by decide +kernel) (pa_cons (pe_ix ix_list (pv 0) pe_int (fun _ _ => rfl)) pa_nil)) (nomark _)) (pss_one (ps_set (i := 2) sc__law_take.nd rfl (.inl rfl) (pe_ix ix_list (pe_ix ix_list (pv 0) pe_int (fun _ _ => rfl)) (pe_ix ix_list (pv 0) pe_int (fun _ _ => rfl)) (fun _ _ => rfl)))) pss_nil) (pss_cons (ps_augS (pv 0) pe_int get_list pe_int ip_add set_list) (pss_cons (ps_if (pt_cmpR op_ge (pv 2) pe_int (nomark _)) (pss_one (ps_asg (pv 2) (pg_sub (pv 0) pe_int set_list))) pss_nil) (pss_cons (ps_set (i := 3) sc__law_take.nd rfl (.inl rfl) (pe_op op_add (pe_op op_add (pe_op op_mul (pe_ix ix_list (pv 0) pe_int (fun _ _ => rfl)) pe_int) (pe_op op_mod (pe_callTy call_int1 (by rfl) T.m_int (by decide +kernel) (pa_cons (pv 2) pa_nil)) pe_int)) (pe_op op_mul pe_int (pe_ix ix_list (pv 0) pe_int (fun _ _ => rfl))))) (pss_one (ps_asg (pe_op op_mod (pe_callTy call_int1 (by rfl) T.m_int (by decide +kernel) (pa_cons (pv 3) pa_nil)) pe_int) (pg_sub (pv 0) pe_int set_list)))))))) pss_nil) (pss_cons (ps_if (pt_cmpR op_gt (pe_ix ix_list (pv 0) pe_int (fun _ _ => rfl)) pe_int (nomark _)) (pss_cons (ps_set (i := 4) sc__law_take.nd rfl (.inl rfl) (pe_op op_mod (pe_callTy call_int1 (by rfl) T.m_int (by decide +kernel) (pa_cons (pe_ix ix_list (pv 0) pe_int (fun _ _ => rfl)) pa_nil)) (pv 1))) (pss_cons (ps_asg (pe_op op_fdiv (pe_callTy call_int1 (by rfl) T.m_int (by decide +kernel) (pa_cons (pe_ix ix_list (pv 0) pe_int (fun _ _ => rfl)) pa_nil)) (pv 1)) (pg_sub (pv 0) pe_int set_list)) (pss_one (ps_ret (pv 4))))) pss_nil) (pss_cons (ps_set (i := 5) sc__law_take.nd rfl (.inl rfl) (pe_op op_mod (pe_callTy call_int1 (by rfl) T.m_int (by decide +kernel) (pa_cons (pe_op op_mul (pe_op op_add (pe_ix ix_list (pv 0) pe_int (fun _ _ => rfl)) pe_int) pe_int) pa_nil)) pe_int)) (pss_cons (ps_set (i := 6) sc__law_take.nd rfl (.inl rfl) (pe_op op_mod (pe_callTy call_int1 (by rfl) T.m_int (by decide +kernel) (pa_cons (pe_op op_mul (pe_op op_mod (pe_callTy call_int1 (by rfl) T.m_int (by decide +kernel) (pa_cons (pe_op op_mul (pv 5) (pv 5)) pa_nil)) pe_int) pe_int) pa_nil)) pe_int)) (pss_cons (ps_if (pt_cmpR op_gt (pv 1) pe_int (nomark _)) (pss_one (ps_ret (pe_op op_mod (pe_callTy call_int1 (by rfl) T.m_int (by decide +kernel) (pa_cons (pe_op op_add (pe_op op_mul (pv 6) pe_int) (pv 5)) pa_nil)) (pv 1)))) pss_nil) (pss_one (ps_ret (pe_op op_mod (pe_callTy call_int1 (by rfl) T.m_int (by decide +kernel) (pa_cons (pe_op op_fdiv (pv 6) pe_int) pa_nil)) (pv 1))))))))), ?_⟩
  obtain ⟨i, j, k, ns, S⟩ := BS.start hB
  have fin : ∀ {H2 : Hp} {i j k : Int} {ns : List Int} {d : Int}, BS H H2 b c i j k ns → InR m d → Q (.int d) H2 := fun {H2 i j k ns d} S hd => kk _ H2 S.rel ⟨d, hd, rfl⟩
  refine seq_k (fun σ' H2 => ∃ i j k x2 x3, σ' = [some (.ref b), some (.int m), x2, x3, none, none, none] ∧ BS H H2 b c i j k ns) (fun N hN => ?_) ?_
  · refine s_tst (et_test1 (ev_op (S.at0 rfl) ev_int ru_eqI)) (fun _ H1 e1 => ?_) fun _ H1 e1 => hN _ _ ⟨i, j, k, none, none, rfl, S.go e1⟩
    have S1 := S.go e1
    refine seq_ ?_
    refine s_val (ev_int (i := 0)) fun v H2 e2 hv => ?_
    obtain rfl : v = .int 0 := hv
    have S2 := S1.go e2
    refine nx_ ?_
    refine seq_k (fun σ' H2 => ∃ i j k cell, 0 ≤ cell ∧ σ' = [some (.ref b), some (.int m), some (.int cell), none, none, none, none] ∧ BS H H2 b c i j k ns) (fun N2 hN2 => ?_) ?_
    · refine s_tst (et_test1 (ev_op (S2.at2 rfl) (ev_cb (ea_cons (S2.at3 rfl) ea_nil) ra_lenL) ru_lt)) (fun pt H3 e3 => ?_) fun _ H3 e3 => hN2 _ _ ⟨i, j, k, 0, Int.le_refl _, rfl, S2.go e3⟩
      have S3 := S2.go e3
      have lt : k < (ns.length : Int) := of_decide_eq_true pt.symm
      have k0 := S3.k0
      have ltn : k.toNat < ns.length := by omega
      refine s_val (ev_op (S3.at3 rfl) (S3.at2 rfl) (ru_ixL (x := ns[k.toNat]) k0 (List.getElem?_eq_getElem ltn))) fun v H4 e4 hv => ?_
      obtain rfl : v = .int _ := hv
      exact hN2 _ _ ⟨i, j, k, _, S3.n0 _ (List.getElem_mem ltn), rfl, S3.go e4⟩
    · rintro σ' H3 ⟨i, j, k, cell, c0, rfl, S3⟩
      refine seq_ ?_
      refine ⟨.ref b, rfl, ⟨b, _, 2, .int k, rfl, rfl, SqL.of S3.hb, rfl, ⟨k, 1, rfl, rfl, b, _, 2, 2, rfl, rfl, S3.hb, rfl, ?_⟩⟩⟩
      have k0 := S3.k0
      have S4 : BS H (upd H3 b (.lst [.int i, .int j, .int (k + 1), .ref c])) b c i j (k + 1) ns := S3.set S3.i0 S3.j0 S3.jm (by omega)
      refine nx_ ?_
      refine seq_k (fun σ' H2 => ∃ i j k, σ' = [some (.ref b), some (.int m), some (.int cell), none, none, none, none] ∧ BS H H2 b c i j k ns) (fun N3 hN3 => ?_) ?_
      · refine s_tst (et_test1 (ev_op (ev_I (x := cell) rfl) ev_int ru_ge)) (fun _ H5 e5 => ?_) fun _ H5 e5 => hN3 _ _ ⟨i, j, k + 1, rfl, S4.go e5⟩
        have S5 := S4.go e5
        refine s_sub (ev_I (x := cell) rfl) rfl fun v H6 e6 hv => ?_
        obtain rfl : v = .int cell := hv
        have S6 := S5.go e6
        exact ⟨_, 0, S6.hb, rfl, hN3 _ _ ⟨cell, j, k + 1, rfl, S6.set c0 S6.j0 S6.jm S6.k0⟩⟩
      · rintro σ' H5 ⟨i, j, k, rfl, S5⟩
        have jm := S5.jm
        have j0 := S5.j0
        refine seq_ ?_
        refine s_val (ev_op (ev_op (ev_op (S5.at1 rfl) ev_int (ru_mul (.inl ⟨by omega, by omega⟩))) (ev_op (ev_toI (ev_I (x := cell) rfl)) ev_int (ru_mod (by decide))) ru_add) (ev_op ev_int (S5.at2 rfl) (ru_mul (.inl ⟨by decide, by decide⟩))) ru_add) fun v H6 e6 hv => ?_
        obtain rfl : v = .int _ := hv
        have S6 := S5.go e6
        refine nx_ ?_
        refine s_sub (ev_op (ev_toI (ev_I rfl)) ev_int (ru_mod (by decide))) rfl fun v H7 e7 hv => ?_
        obtain rfl : v = .int _ := hv
        have S7 := S6.go e7
        have r := law_many_big (m := 2147483647) (by decide) (a := j * 48271 + cell % 2147483647 + 7919 * k)
        exact ⟨_, 1, S7.hb, rfl, hN _ _ ⟨i, _, k, _, _, rfl, S7.set S7.i0 r.1 r.2 S7.k0⟩⟩
  · rintro σ' H2 ⟨i, j, k, x2, x3, rfl, S2⟩
    refine seq_ ?_
    refine s_tst (et_test1 (ev_op (S2.at0 rfl) ev_int ru_gt)) (fun pt H3 e3 => ?_) fun _ H3 e3 => ?_
    · have S3 := S2.go e3
      have i0 := S3.i0
      refine seq_ ?_
      refine s_val (ev_op (ev_toI (S3.at0 rfl)) (ev_I (x := m) rfl) (ru_mod m0)) fun v H4 e4 hv => ?_
      obtain rfl : v = .int _ := hv
      have S4 := S3.go e4
      refine nx_ (seq_ ?_)
      refine s_sub (ev_op (ev_toI (S4.at0 rfl)) (ev_I (x := m) rfl) (ru_fdiv ⟨m0, m1⟩)) rfl fun v H5 e5 hv => ?_
      obtain rfl : v = .int _ := hv
      have S5 := S4.go e5
      refine ⟨_, 0, S5.hb, rfl, ?_⟩
      have S6 : BS H (upd H5 b (.lst [.int (i / m), .int j, .int k, .ref c])) b c (i / m) j k ns := S5.set (Int.ediv_nonneg i0 (by omega)) S5.j0 S5.jm S5.k0
      refine nx_ ?_
      refine s_rv (ev_I (x := i % m) rfl) fun v H6 e6 hv => ?_
      obtain rfl : v = .int _ := hv
      exact fin (S6.go e6) (law_many_big m0)
    · have S3 := S2.go e3
      have j0 := S3.j0
      have jm := S3.jm
      refine nx_ (seq_ ?_)
      refine s_val (ev_op (ev_toI (ev_op (ev_op (S3.at1 rfl) ev_int ru_add) ev_int (ru_mul (.inr ⟨by decide, by decide⟩)))) ev_int (ru_mod (by decide))) fun v H4 e4 hv => ?_
      obtain rfl : v = .int _ := hv
      have S4 := S3.go e4
      have r := law_many_big (m := 1000000007) (by decide) (a := (j + 1) * 39373)
      generalize (j + 1) * 39373 % 1000000007 = early at *
      refine nx_ (seq_ ?_)
      refine s_val (ev_op (ev_toI (ev_op (ev_op (ev_toI (ev_op (ev_I (x := early) rfl) (ev_I (x := early) rfl) (ru_mul (.inl ⟨by have := r.1; omega, by have := r.2; omega⟩)))) ev_int (ru_mod (by decide))) ev_int (ru_mul (.inr ⟨by decide, by decide⟩)))) ev_int (ru_mod (by decide))) fun v H5 e5 hv => ?_
      obtain rfl : v = .int _ := hv
      have S5 := S4.go e5
      have r2 := law_many_big (m := 998244353) (by decide) (a := early * early % 998244353 * 30011)
      generalize early * early % 998244353 * 30011 % 998244353 = second at *
      refine nx_ (seq_ ?_)
      refine s_tst (et_test1 (ev_op (ev_I (x := m) rfl) ev_int ru_gt)) (fun _ H6 e6 => ?_) fun _ H6 e6 => ?_
      · have S6 := S5.go e6
        refine s_rv (ev_op (ev_toI (ev_op (ev_op (ev_I (x := second) rfl) ev_int (ru_mul (.inr ⟨by decide, by decide⟩))) (ev_I (x := early) rfl) ru_add)) (ev_I (x := m) rfl) (ru_mod m0)) fun v H7 e7 hv => ?_
        obtain rfl : v = .int _ := hv
        exact fin (S6.go e7) (law_many_big m0)
      · have S6 := S5.go e6
        refine nx_ ?_
        refine s_rv (ev_op (ev_toI (ev_op (ev_I (x := second) rfl) ev_int (ru_fdiv ⟨by decide, by decide⟩))) (ev_I (x := m) rfl) (ru_mod m0)) fun v H7 e7 hv => ?_
        obtain rfl : v = .int _ := hv
        exact fin (S6.go e7) (law_many_big m0)
end
end FF
namespace FF
open PySem PySem.Spec PyProof.Rows L2
theorem Now.seeB {f : Fr} {L : List Addr} {d : Addr} {H0 H : Hp} {K : Hp → Prop} {Φ : Hp → V → Prop} [StH K] (n : Now (f.add d) L H0 K H) (db : ∀ a, f.b = some a → a ∈ f.F) (p : Φ (hid f.F H) (.ref d)) : Now f [] H0 (KAnd K (KV Φ (.ref d))) H :=
  ⟨by rw [hid_nil]; exact n.out, ⟨fun x m => n.dm.there x (List.mem_cons_of_mem _ m), db⟩, fun x m => (nomatch m), StH.up (hid_sub fun x m => List.mem_cons_of_mem _ m) n.kn, p⟩
theorem pair_take {α β : Type} {G : α → β → Prop} : ∀ (k : Nat) {a : List α} {b : List β}, Paired G a b → Paired G (a.take k) (b.take k)
  | 0, _, _, _ => .nil
  | _ + 1, _, _, .nil => .nil
  | k + 1, _, _, .cons r t => .cons r (pair_take k t)
theorem pair_drop {α β : Type} {G : α → β → Prop} : ∀ (k : Nat) {a : List α} {b : List β}, Paired G a b → Paired G (a.drop k) (b.drop k)
  | 0, _, _, h => h
  | _ + 1, _, _, .nil => .nil
  | k + 1, _, _, .cons _ t => pair_drop k t
section
variable {P : Program} {w : World} {K : PySem.W.Frag} {mg : Str → Option Value} {base : Heap} {C : Addr}
abbrev s__law_mixed : Stmt := topS 36
abbrev N__law_mixed : List Str := ["_law_bag_here", "_law_things", "_law_found", "_law_thing"]
abbrev P__law_mixed : List Str := ["_law_bag_here", "_law_things"]
theorem sc__law_mixed : FnScope N__law_mixed P__law_mixed (C8.fnScope s__law_mixed) := C8.fnScope_by (by decide +kernel)
abbrev sp_law_mixed {α : Type} (R : Rep α) : Sp := SpB (ι := { l : List α // l.length ≤ 100 }) (fun l => ACons (At (zL R) l.1) ANil) (fun l => Som (zL R) fun m => m.Perm l.1)
theorem ok_law_mixed {α : Type} {R : Rep α} [Stb R] {f : Addr} {fd : FuncData} (F : C8.Def K mg "_law_mixed" s__law_mixed f fd) (b : L2.Binds K fd P__law_mixed []) (T : Txt K mg C) (c__law_take : C8.Cal P w K mg base 1 "_law_take" sp_law_take []) : C8.Cal P w K mg base 2 "_law_mixed" (sp_law_mixed R) [] := by
  refine C8.cal0 F b .nil sc__law_mixed (spB_len fun x G vs h => alS h fun _ h => al0 h) (fun cdv A0 outer s H vs Q E hr h => ?_)
  obtain ⟨⟨l, few⟩, F, b, c, rest, rfl, hbF, hF, hB, ⟨v, r, rfl, p, rfl⟩, kk⟩ := h
  have hu := hu_of hr
  refine ⟨_, (pss_cons (ps_set (i := 2) sc__law_mixed.nd rfl (.inl rfl) (pe_lst pa_nil)) (pss_cons (ps_for PassesOwn.never rfl (pi_list (pv 1)) (pg_name (i := 3) sc__law_mixed.nd rfl (.inl rfl)) (pss_one (ps_expr (pe_bm PySem.F.plainAttrs_list PySem.F.slot_list_insert PySem.F.type_list_insert mt_insert (pv 2) (pa_cons (C8.pe_c c__law_take hr (by decide) rfl (pa_cons (pv 0) (pa_cons (pe_op op_add (pe_callB call_len_seq (by rfl) T.m_len (by decide +kernel) (pa_cons (pv 2) pa_nil)) pe_int) pa_nil))) (pa_cons (pv 3) pa_nil)))))) (pss_one (ps_ret (pv 2))))), ?_⟩
  have n : Now ⟨F, some b⟩ [] H (KV (At (zL R) l) v) H := Now.start (dmB hF hbF) p
  have db : ∀ a, (⟨F, some b⟩ : Fr).b = some a → a ∈ F := fun a e => by
    injection e with e
    rw [← e]
    exact hbF
  refine seq_ ?_
  refine s_newL n fun d hd n1 => ?_
  have dF : d ∉ F := n.dm.new hd
  have bd : b ≠ d := fun z => dF (z ▸ hbF)
  refine nx_ (seq_ ?_)
  refine s_for n1 (ei_list (R := R) (ev_var (v := v) rfl n1.kn)) fun Kn H1 sKn e1 n2 => ?_
  refine ⟨fun i σ' H' => ∃ a1 xs m, σ' = [some (.ref b), some v, some (.ref d), a1] ∧ H' d = some (.lst xs) ∧ Paired (R (hid (d :: F) H')) xs m ∧ m.Perm (l.take i) ∧ Now ⟨d :: F, some b⟩ [d] H (KAnd (KV (At (zL R) l) v) Kn) H', ⟨none, [], [], rfl, e1.keep (fun z => bd (Option.some.inj z)) upd_same, .nil, .refl _, n2⟩, ?_, ?_, ?_⟩
  · rintro i σ' H' ⟨a1, xs, m, rfl, _, _, _, n3⟩
    exact ⟨n3.dm, n3.kn.2⟩
  · rintro i x u σ' H2 H3 hx ⟨a1, xs, m, rfl, hd2, pxs, pm, n3⟩ sm hu'
    have n4 := n3.go (re.same sm)
    have hd3 : H3 d = some (.lst xs) := sm _ _ hd2
    have pxs3 : Paired (R (hid (d :: F) H3)) xs m := Paired.mapP pxs fun _ _ z => Stb.up (Same.hid sm) z
    have vis : zL R (hid F H3) (.ref d) m := ⟨d, xs, rfl, by rw [hid_out dF]; exact hd3, Paired.mapP pxs3 fun _ _ z => Stb.up (hid_sub fun a m => List.mem_cons_of_mem _ m) z⟩
    have n5 := n4.seeB (f := ⟨F, some b⟩) (Φ := At (zL R) m) db vis
    have hB3 : BagAt H3 b c := (n4.out.2 b rfl).2 c hB
    have il : i < l.length := (List.getElem?_eq_some_iff.mp hx).1
    have ml : m.length = i := by
      rw [pm.length_eq, List.length_take]
      omega
    have xl : xs.length = i := by rw [Paired.length pxs, ml]
    have tk : l.take (i + 1) = l.take i ++ [x] := by
      rw [List.take_add_one, hx]; rfl
    refine ⟨.ref d, rfl, .inl ⟨rfl, xs, SqL.of hd3⟩, ?_⟩
    refine (ea_cons (Φ := Som zI fun k => InR ((m.length : Int) + 1) k) (ev_callB (f := ⟨F, some b⟩) (x := (⟨(m.length : Int) + 1, by omega, by omega⟩ : Many)) rfl hB3 rfl (ea_cons (ev_op (ev_cb (ea_cons (ev_var (Φ := At (zL R) m) (v := .ref d) rfl n5.kn.2) ea_nil) ra_lenL) ev_int ru_add) ea_nil)) (ea_cons (ev_var (Φ := IsV u) (v := u) rfl rfl) ea_nil)) H3 (re.refl _) n5.dm _ fun vs H4 e4 pv => ?_
    obtain ⟨v1, r1, e5, ⟨k, ⟨k0, k1⟩, e6⟩, v2, r2, e7, e8, e9⟩ := pv
    obtain rfl : r2 = [] := e9
    obtain rfl : v2 = u := e8
    obtain rfl : v1 = .int k := e6
    subst e7; subst e5
    have hd4 : H4 d = some (.lst xs) := e4.keep (fun z => bd (Option.some.inj z)) hd3
    have n6 := n4.go e4
    have u4 : R (hid (d :: F) H4) v2 x := Stb.up (e4.known (f := (⟨F, some b⟩ : Fr).add d) n4.dm.bag) hu'
    have pxs4 : Paired (R (hid (d :: F) H4)) xs m := Paired.mapP pxs3 fun _ _ z => Stb.up (e4.known (f := (⟨F, some b⟩ : Fr).add d) n4.dm.bag) z
    refine ⟨d, xs, k, v2, rfl, rfl, hd4, Nat.lt_of_le_of_lt (by omega : xs.length ≤ 100000) (by decide), k0, by omega, ?_⟩
    refine ⟨_, _, m.take k.toNat ++ [x] ++ m.drop k.toNat, rfl, upd_same, ?_, ?_, n6.upd List.mem_cons_self⟩
    · rw [hid_upd List.mem_cons_self]
      exact pair_app (pair_app (pair_take _ pxs4) (.cons u4 .nil)) (pair_drop _ pxs4)
    · rw [tk]
      have h1 : (m.take k.toNat ++ [x] ++ m.drop k.toNat).Perm (x :: (m.take k.toNat ++ m.drop k.toNat)) := by
        rw [List.append_assoc]
        exact List.perm_middle
      rw [List.take_append_drop] at h1
      exact h1.trans ((List.Perm.cons x pm).trans (List.perm_append_singleton x _).symm)
  · rintro σ' H2 ⟨a1, xs, m, rfl, hd2, pxs, pm, n3⟩
    rw [List.take_length] at pm
    refine nx_ ?_
    refine ⟨.ref d, rfl, kk (.ref d) H2 n3.out ⟨m, pm, d, xs, rfl, by rw [hid_out dF]; exact hd2, Paired.mapP pxs fun _ _ z => Stb.up (hid_sub fun a m => List.mem_cons_of_mem _ m) z⟩⟩
abbrev s__law_some : Stmt := topS 37
abbrev N__law_some : List Str := ["_law_bag_here", "_law_things", "_law_rare", "_law_thing"]
abbrev P__law_some : List Str := ["_law_bag_here", "_law_things", "_law_rare"]
theorem sc__law_some : FnScope N__law_some P__law_some (C8.fnScope s__law_some) := C8.fnScope_by (by decide +kernel)
abbrev SomeI (α : Type) := { x : List α × Int // x.1.length ≤ 100 ∧ 0 < x.2 ∧ x.2 < 1073741824 }
abbrev sp_law_some {α : Type} (R : Rep α) : Sp := SpB (ι := SomeI α) (fun x => ACons (At (zL R) x.1.1) (ACons (At zI x.1.2) ANil)) (fun x => Som (zL R) fun m => List.Sublist m x.1.1)
theorem ok_law_some {α : Type} {R : Rep α} [Stb R] {f : Addr} {fd : FuncData} (F : C8.Def K mg "_law_some" s__law_some f fd) (b : L2.Binds K fd P__law_some []) (T : Txt K mg C) (c__law_take : C8.Cal P w K mg base 1 "_law_take" sp_law_take []) : C8.Cal P w K mg base 2 "_law_some" (sp_law_some R) [] := by
  refine C8.cal0 F b .nil sc__law_some (spB_len fun x G vs h => alS h fun _ h => alS h fun _ h => al0 h) (fun cdv A0 outer s H vs Q E hr h => ?_)
  obtain ⟨⟨⟨l, q⟩, few, q0, q1⟩, F, b, c, rest, rfl, hbF, hF, hB, ⟨v, r, rfl, p, v2, r2, rfl, p2, rfl⟩, kk⟩ := h
  have few : l.length ≤ 100 := few
  have p2 : v2 = .int q := p2
  subst p2
  have hu := hu_of hr
  refine ⟨_, (pss_one (ps_ret (pe_lc (own := [("_law_thing", 3)]) rfl sc__law_some.nd (pi_list (pv 1)) (blkOk_by (own := [("_law_thing", 3)]) (N := N__law_some) (sc := C8.fnScope s__law_some) (by decide +kernel)) (fun _ _ _ _ _ => (pg_name (i := 3) sc__law_some.nd rfl (.inl rfl))) (fun _ _ _ _ _ => (pts_one (pt_cmpR op_eq (C8.pe_c c__law_take hr (by decide) rfl (pa_cons (pv 0) (pa_cons (pv 2) pa_nil))) pe_int (nomark _)))) (fun _ _ _ _ _ => (pv 3))))), ?_⟩
  have n : Now ⟨F, some b⟩ [] H (KV (At (zL R) l) v) H := Now.start (dmB hF hbF) p
  refine s_ret n (ev_lc (S := R) n.kn (ei_list (R := R) (ev_var (v := v) rfl n.kn)) (by omega) (fun i out => List.Sublist out (l.take i)) (.refl _) fun i x out f' H' u hx hJ hb d e k' hr' => ?_) fun v3 H2 e2 n2 => ?_
  · have tk : l.take (i + 1) = l.take i ++ [x] := by
      rw [List.take_add_one, hx]; rfl
    have hb' : f'.b = some b := hb
    refine ⟨fun _ => True, bnd_name ⟨rfl, et_B (ev_op (ev_callB (x := (⟨q, q0, q1⟩ : Many)) hb' ((e.2 b rfl).2 c hB) rfl (ea_cons (ev_var (Φ := At zI q) (v := .int q) rfl rfl) ea_nil)) ev_int (Ru2.ex1 fun k _ H1 u w e d p p' Q q => ru_eqI H1 u w e d p p' Q fun v H2 e2 z => q v H2 e2 ⟨_, trivial, z⟩)), fun _ => ev_var (Φ := Som R fun y => List.Sublist (out ++ [y]) (l.take (i + 1))) rfl ⟨x, ?_, hr'⟩⟩, fun _ => ?_⟩
    · rw [tk]
      exact List.Sublist.append hJ (.refl _)
    · rw [tk]
      exact hJ.trans (List.sublist_append_left _ _)
  · obtain ⟨m, hm, hv⟩ := n2.kn.2
    rw [List.take_length] at hm
    exact kk v3 H2 n2.out ⟨m, hm, hv⟩
end
end FF
namespace FF
open PySem PySem.Spec PyProof.Rows L2
theorem r_lst {f : Fr} {σ : L2.St} {H : Hp} {D : Ends} {tr : TA} {Ψ : Hp → List V → Prop} (d : Dm f H) (h : EvA f tr σ H Ψ) (k : ∀ vs H1, re f.b H H1 → Ψ (hid f.F H1) vs → vs.length ≤ sizeLine ∧ ∀ p, H1 p = none → D.rt (.ref p) (upd H1 p (.lst vs))) : tRet (tLst tr) D σ H := h H (re.refl _) d _ k
/-- a list of whole numbers, to be read -/
def zQ (Kf : PySem.W.Frag) : Rep (List Int) := fun G v l => ∃ a, v = .ref a ∧ SqL Kf G a (l.map V.int)
theorem sq_up {Kf : PySem.W.Frag} {G G' : Hp} {a : Addr} {xs : List V} (u : Same G G') (h : SqL Kf G a xs) : SqL Kf G' a xs := h.imp (fun h => h.imp (fun h => u _ _ h) fun ⟨o, h⟩ => ⟨o, u _ _ h⟩) id
instance {Kf : PySem.W.Frag} : Stb (zQ Kf) := ⟨fun u ⟨a, e, h⟩ => ⟨a, e, sq_up u h⟩⟩
theorem ev_sliceQ {f : Fr} {σ : L2.St} {H : Hp} {te : TE} {tl th : TO} {Kf : PySem.W.Frag} {l : List Int} {lo hi : Option Int} (h : EvP f te σ H (At (zQ Kf) l)) (hl : EvO f tl σ H lo) (hh : EvO f th σ H hi) : EvP f (tSl (rSlL Kf) te tl th) σ H (At (zL zI) (part l lo hi)) := fun H1 e d Q q =>
  h H1 e d _ fun u H2 e2 p => hl H2 (e.trans e2) (d.re e2) _ fun H3 e3 => hh H3 ((e.trans e2).trans e3) ((d.re e2).re e3) _ fun H4 e4 => by
    have d4 := ((d.re e2).re e3).re e4
    obtain ⟨a, rfl, ha⟩ := Stb.up (R := zQ Kf) (known_up (e3.trans e4) d4) p
    refine ⟨a, _, rfl, sq_up hid_same ha, fun n hn => q _ _ (((e2.trans e3).trans e4).trans (re.same (same_new hn))) ⟨n, _, rfl, hid_new d4 hn, ?_⟩⟩
    have : cutV (l.map V.int) lo hi = (part l lo hi).map V.int := by
      unfold cutV part
      rw [List.length_map, ← List.map_drop, ← List.map_take]
    rw [this]
    exact of_ints _
section
variable {P : Program} {w : World} {K : PySem.W.Frag} {mg : Str → Option Value} {base : Heap} {C : Addr}
abbrev s__law_bag : Stmt := topS 34
abbrev N__law_bag : List Str := ["_law_script", "_law_cell"]
abbrev P__law_bag : List Str := ["_law_script"]
theorem sc__law_bag : FnScope N__law_bag P__law_bag (C8.fnScope s__law_bag) := C8.fnScope_by (by decide +kernel)
def IsBag : Hp → V → Prop := fun G v => ∃ b c, v = .ref b ∧ BagAt G b c
abbrev sp_law_bag (K : PySem.W.Frag) : Sp := SpN (ι := List Int) (fun ns => ACons (At (zQ K) ns) ANil) (fun _ => IsBag)
theorem ok_law_bag {f : Addr} {fd : FuncData} (F : C8.Def K mg "_law_bag" s__law_bag f fd) (b : L2.Binds K fd P__law_bag []) (T : Txt K mg C) : C8.Cal P w K mg base 1 "_law_bag" (sp_law_bag K) [] := by
  refine C8.cal0 F b .nil sc__law_bag (spN_len fun x G vs h => alS h fun _ h => al0 h) (fun cdv A0 outer s H vs Q E hr h => ?_)
  obtain ⟨l, F, hF, ⟨v, r, rfl, p, rfl⟩, kk⟩ := h
  have hu := hu_of hr
  refine ⟨_, (pss_one (ps_ret (pe_lst (pa_cons pe_int (pa_cons pe_int (pa_cons pe_int (pa_cons (pe_lc (own := [("_law_cell", 1)]) rfl sc__law_bag.nd (pi_list (pe_slice sl_list (pv 0) po_none (po_some pe_int))) (blkOk_by (own := [("_law_cell", 1)]) (N := N__law_bag) (sc := C8.fnScope s__law_bag) (by decide +kernel)) (fun _ _ _ _ _ => (pg_name (i := 1) sc__law_bag.nd rfl (.inl rfl))) (fun _ _ _ _ _ => pts_nil) (fun _ _ _ _ _ => (pe_callB call_abs (by rfl) T.m_abs (by decide +kernel) (pa_cons (pv 1) pa_nil)))) pa_nil))))))), ?_⟩
  have pt : part l none (some 63) = l.take 63 := part_take (i := 63)
  have n : Now ⟨F, none⟩ [] H (KV (At (zQ K) l) v) H := Now.start (dmP hF) p
  refine r_lst (Ψ := ACons (At zI 0) (ACons (At zI 1234567891) (ACons (At zI 0) (ACons (At (zL zI) ((l.take 63).map fun i => if i < 0 then -i else i)) ANil)))) n.dm ?_ fun vs H2 e2 pv => ?_
  · exact ea_cons (Φ := At zI 0) ev_int (ea_cons (Φ := At zI 1234567891) ev_int (ea_cons (Φ := At zI 0) ev_int (ea_cons (Φ := At (zL zI) ((l.take 63).map fun i => if i < 0 then -i else i)) (EvP.is (ev_lcD (S := zI) n.kn (ei_list (R := zI) (ev_sliceQ (ev_var (Φ := At (zQ K) l) (v := v) rfl n.kn) eo_none (eo_some ev_int))) (by rw [pt, List.length_take]; omega) (fun _ => true) (fun i => if i < 0 then -i else i) fun x f' H' u hx hb d e' k' hr' => bnd_name ⟨rfl, et_yes, fun _ => ev_cb (ea_cons (ev_var (Φ := At zI x) rfl hr') ea_nil) ra_abs⟩) (by rw [pt, filter_yes])) ea_nil)))
  · obtain ⟨v1, r1, q1, p1, v2, r2, q2, p2, v3, r3, q3, p3, v4, r4, q4, p4, q5⟩ := pv
    obtain rfl : r4 = [] := q5
    obtain rfl : v1 = .int 0 := p1
    obtain rfl : v2 = .int 1234567891 := p2
    obtain rfl : v3 = .int 0 := p3
    obtain ⟨c, xs, rfl, hc, hp⟩ := p4
    rw [ints_of hp] at hc
    subst q4; subst q3; subst q2; subst q1
    have hc2 := hid_some hc
    refine ⟨by show 4 ≤ sizeLine; decide, fun q hq => kk q _ (e2.pure.trans (same_new hq)) (e2.free hq) ⟨q, c, rfl, 0, 1234567891, 0, (l.take 63).map fun i => if i < 0 then -i else i, ?_, ?_, ?_, by decide, by decide, by decide, by decide, ?_⟩⟩
    · have nq : q ∉ F := (n.dm.re e2).new hq
      rw [hid_out nq, upd_same]
    · have ne : c ≠ q := fun z => by rw [z, hq] at hc2; cases hc2.2
      rw [hid_out hc2.1, upd_ne ne]
      exact hc2.2
    · exact fun z => by rw [← z, hq] at hc2; cases hc2.2
    · intro x hx
      obtain ⟨y, _, rfl⟩ := List.mem_map.mp hx
      show 0 ≤ if y < 0 then -y else y
      split <;> omega
end
end FF
namespace FF
open PySem PySem.Spec PyProof.Rows L2
section
variable {f : Fr} {σ : L2.St} {H : Hp} {tr : TA} {te : TE}
theorem en_lst {α : Type} {R : Rep α} [Stb R] {l : List α} (h : EvA f tr σ H (AEach R l)) (hl : l.length ≤ 100000) : EvN f (tLst tr) σ H (At (zL R) l) := fun H1 e d Q q =>
  h H1 e d _ fun vs H2 e2 ps => ⟨by rw [Paired.length ps]; exact Nat.le_trans hl (by decide), fun p hp => q p _ (e2.free hp) (e2.trans (re.same (same_new hp))) ⟨p, vs, rfl, hid_new (d.re e2) hp, Paired.mapP ps fun _ _ z => Stb.up (up_new hp) z⟩⟩
theorem ev_nm {x : Str} (h : IsNm x) : EvP f (tC (.str x)) σ H (At zN x) := ev_c fun _ => ⟨rfl, h⟩
theorem RuA.ex {α : Type} {R : Rep α} {Pr : α → Prop} {r : List V → Hp → VK → Prop} {Φ : Hp → V → Prop} (h : ∀ x, Pr x → RuA f r H (ACons (At R x) ANil) Φ) : RuA f r H (ACons (Som R Pr) ANil) Φ := fun H1 vs e d ⟨v, r1, e1, ⟨x, hx, p⟩, e2⟩ Q q => h x hx H1 vs e d ⟨v, r1, e1, p, e2⟩ Q q
theorem s_newLst {α : Type} {R : Rep α} {l : List α} {L : List Addr} {H0 : Hp} {K : Hp → Prop} {D : Ends} {i : Nat} [StH K] [Stb R] (n : Now f L H0 K H) (h : EvA f tr σ H (AEach R l)) (hl : l.length ≤ 100000)
    (k : ∀ d xs H1, H d = none → re f.b H (upd H1 d (.lst xs)) → Paired (R (hid (d :: f.F) (upd H1 d (.lst xs)))) xs l → Now (f.add d) (d :: L) H0 K (upd H1 d (.lst xs)) → D.nx (σ.set i (some (.ref d))) (upd H1 d (.lst xs))) : tAsg (tLst tr) (gName i) D σ H :=
  h H (re.refl _) n.dm _ fun vs H1 e ps => ⟨by rw [Paired.length ps]; exact Nat.le_trans hl (by decide), fun p hp => k p vs H1 (e.free hp) (e.trans (re.same (same_new hp))) (by rw [hid_cons_new hp]; exact ps) ((n.go e).new hp)⟩
theorem EvP.bind {α : Type} {R : Rep α} {Pr : α → Prop} {Φ : Hp → V → Prop} (h : EvP f te σ H (Som R Pr)) (k : ∀ G v x, Pr x → R G v x → Φ G v) : EvP f te σ H Φ := h.imp fun G v ⟨x, hx, p⟩ => k G v x hx p
theorem ev_sliceS {α : Type} {R : Rep α} [Stb R] {Kf : PySem.W.Frag} {Pr : List α → Prop} {lo hi : Option Int} {tl th : TO} (h : EvP f te σ H (Som (zL R) Pr)) (hl : EvO f tl σ H lo) (hh : EvO f th σ H hi) : EvP f (tSl (rSlL Kf) te tl th) σ H (Som (zL R) fun m => ∃ l, Pr l ∧ m = part l lo hi) := fun H1 e d Q q =>
  h H1 e d _ fun u H2 e2 ⟨l, hP, p⟩ => hl H2 (e.trans e2) (d.re e2) _ fun H3 e3 => hh H3 ((e.trans e2).trans e3) ((d.re e2).re e3) _ fun H4 e4 => by
    have d4 := ((d.re e2).re e3).re e4
    have p4 : zL R (hid f.F H4) u l := Stb.up (known_up (e3.trans e4) d4) p
    obtain ⟨a, xs, rfl, ha, hp⟩ := p4
    refine ⟨a, xs, rfl, SqL.of (hid_same _ _ ha), fun n hn => q _ _ (((e2.trans e3).trans e4).trans (re.same (same_new hn))) ⟨part l lo hi, ⟨l, hP, rfl⟩, n, _, rfl, hid_new d4 hn, ?_⟩⟩
    unfold cutV part
    rw [Paired.length hp]
    exact paired_take _ (paired_drop _ (Paired.mapP hp fun _ _ z => Stb.up (up_new hn) z))
end
theorem zN_list {G : Hp} {v : V} {l : List Str} (h : zL zN G v l) : zL zS G v l ∧ ∀ x ∈ l, IsNm x := by
  obtain ⟨a, xs, e, ha, hp⟩ := h
  refine ⟨⟨a, xs, e, ha, Paired.mapP hp fun _ _ z => z.1⟩, ?_⟩
  clear ha e
  induction hp with
  | nil => exact fun x hx => nomatch hx
  | cons h _ ih => exact fun x hx => (List.mem_cons.mp hx).elim (fun e => e ▸ h.2) (ih x)
theorem list_zN {G : Hp} {v : V} {l : List Str} (h : zL zS G v l) (hn : ∀ x ∈ l, IsNm x) : zL zN G v l := by
  obtain ⟨a, xs, e, ha, hp⟩ := h
  refine ⟨a, xs, e, ha, ?_⟩
  clear ha e
  induction hp with
  | nil => exact .nil
  | cons h _ ih => exact .cons ⟨h, hn _ List.mem_cons_self⟩ (ih fun x hx => hn x (List.mem_cons_of_mem _ hx))
def wordsL : List (List Str) := [["a", "b", "c", "d", "e", "f"], ["begin", "do", "edge", "join", "map", "places"], ["x", "xa", "xaa", "xab", "xb", "zzzzzzzz"]]
theorem words_ok : ∀ l ∈ wordsL, l.length = 6 ∧ ∀ x ∈ l, IsNm x := by
  unfold IsNm
  decide +kernel
section
variable {P : Program} {w : World} {K : PySem.W.Frag} {mg : Str → Option Value} {base : Heap} {C : Addr}
abbrev s__law_names : Stmt := topS 38
abbrev N__law_names : List Str := ["_law_bag_here", "_law_many", "_law_words", "_law_some_here"]
abbrev P__law_names : List Str := ["_law_bag_here", "_law_many"]
theorem sc__law_names : FnScope N__law_names P__law_names (C8.fnScope s__law_names) := C8.fnScope_by (by decide +kernel)
abbrev NamesI := { m : Nat // m ≤ 6 }
abbrev sp_law_names : Sp := SpB (ι := NamesI) (fun m => ACons (At zI (m.1 : Int)) ANil) (fun m => Som (zL zN) fun l => l.length = m.1)
theorem ok_law_names {f : Addr} {fd : FuncData} (F : C8.Def K mg "_law_names" s__law_names f fd) (b : L2.Binds K fd P__law_names []) (T : Txt K mg C) (c__law_take : C8.Cal P w K mg base 1 "_law_take" sp_law_take []) (c__law_mixed : C8.Cal P w K mg base 2 "_law_mixed" (sp_law_mixed zN) []) : C8.Cal P w K mg base 3 "_law_names" sp_law_names [] := by
  refine C8.cal0 F b .nil sc__law_names (spB_len fun x G vs h => alS h fun _ h => al0 h) (fun cdv A0 outer s H vs Q E hr h => ?_)
  obtain ⟨⟨m, few⟩, F, b, c, rest, rfl, hbF, hF, hB, ⟨v, r, rfl, p, rfl⟩, kk⟩ := h
  obtain rfl : v = .int (m : Int) := p
  have hu := hu_of hr
  refine ⟨_, (pss_cons (ps_set (i := 2) sc__law_names.nd rfl (.inl rfl) (pe_lst (pa_cons (pe_lst (pa_cons pe_str (pa_cons pe_str (pa_cons pe_str (pa_cons pe_str (pa_cons pe_str (pa_cons pe_str pa_nil))))))) (pa_cons (pe_lst (pa_cons pe_str (pa_cons pe_str (pa_cons pe_str (pa_cons pe_str (pa_cons pe_str (pa_cons pe_str pa_nil))))))) pa_nil)))) (pss_cons (ps_expr (pe_bm PySem.F.plainAttrs_list PySem.F.slot_list_append PySem.F.type_list_append mt_append (pv 2) (pa_cons (pe_lst (pa_cons pe_str (pa_cons pe_str (pa_cons pe_str (pa_cons pe_str (pa_cons pe_str (pa_cons pe_str pa_nil))))))) pa_nil))) (pss_cons (ps_set (i := 3) sc__law_names.nd rfl (.inl rfl) (pe_ix ix_list (pv 2) (pe_ix ix_list (pe_lst (pa_cons pe_int (pa_cons pe_int (pa_cons pe_int (pa_cons pe_int pa_nil))))) (C8.pe_c c__law_take hr (by decide) rfl (pa_cons (pv 0) (pa_cons pe_int pa_nil))) (fun _ _ => rfl)) (fun _ _ => rfl))) (pss_one (ps_ret (pe_callB cr_sortedS (by rfl) T.m_sorted (by decide +kernel) (pa_cons (pe_slice sl_list (C8.pe_c c__law_mixed hr (by decide) rfl (pa_cons (pv 0) (pa_cons (pv 3) pa_nil))) po_none (po_some (pv 1))) pa_nil))))))), ?_⟩
  have n : Now ⟨F, some b⟩ [] H (KV (At zI (m : Int)) (.int (m : Int))) H := Now.start (dmB hF hbF) rfl
  have db : ∀ a, (⟨F, some b⟩ : Fr).b = some a → a ∈ F := fun a e => by
    injection e with e
    rw [← e]
    exact hbF
  refine seq_ (s_newLst (l := wordsL.take 2) n (R := zL zN) (ee_cons (ev_lst (R := zN) (ee_cons (x := ("a" : Str)) (ev_nm (by unfold IsNm; decide +kernel)) (ee_cons (x := ("b" : Str)) (ev_nm (by unfold IsNm; decide +kernel)) (ee_cons (x := ("c" : Str)) (ev_nm (by unfold IsNm; decide +kernel)) (ee_cons (x := ("d" : Str)) (ev_nm (by unfold IsNm; decide +kernel)) (ee_cons (x := ("e" : Str)) (ev_nm (by unfold IsNm; decide +kernel)) (ee_cons (x := ("f" : Str)) (ev_nm (by unfold IsNm; decide +kernel)) ee_nil)))))) (by decide)) (ee_cons (ev_lst (R := zN) (ee_cons (x := ("begin" : Str)) (ev_nm (by unfold IsNm; decide +kernel)) (ee_cons (x := ("do" : Str)) (ev_nm (by unfold IsNm; decide +kernel)) (ee_cons (x := ("edge" : Str)) (ev_nm (by unfold IsNm; decide +kernel)) (ee_cons (x := ("join" : Str)) (ev_nm (by unfold IsNm; decide +kernel)) (ee_cons (x := ("map" : Str)) (ev_nm (by unfold IsNm; decide +kernel)) (ee_cons (x := ("places" : Str)) (ev_nm (by unfold IsNm; decide +kernel)) ee_nil)))))) (by decide)) ee_nil)) (by decide) fun d xs H1 hd e1 pxs n2 => ?_)
  have dF : d ∉ F := n.dm.new hd
  have bd : b ≠ d := fun z => dF (z ▸ hbF)
  have xl : xs.length = 2 := Paired.length pxs
  refine nx_ (seq_ ?_)
  refine s_append n2 List.mem_cons_self rfl upd_same (by omega) (ev_lst (R := zN) (ee_cons (x := ("x" : Str)) (ev_nm (by unfold IsNm; decide +kernel)) (ee_cons (x := ("xa" : Str)) (ev_nm (by unfold IsNm; decide +kernel)) (ee_cons (x := ("xaa" : Str)) (ev_nm (by unfold IsNm; decide +kernel)) (ee_cons (x := ("xab" : Str)) (ev_nm (by unfold IsNm; decide +kernel)) (ee_cons (x := ("xb" : Str)) (ev_nm (by unfold IsNm; decide +kernel)) (ee_cons (x := ("zzzzzzzz" : Str)) (ev_nm (by unfold IsNm; decide +kernel)) ee_nil)))))) (by decide)) fun v3 H2 e2 h2 n3 => ?_
  have pxs2 : Paired (zL zN (hid (d :: F) (upd H2 d (.lst (xs ++ [v3]))))) (xs ++ [v3]) wordsL := by
    have := e2.known (f := (⟨F, some b⟩ : Fr).add d) n2.dm.bag
    rw [hid_upd List.mem_cons_self]
    refine pair_app (Paired.mapP pxs fun _ _ z => Stb.up this z) (.cons ?_ .nil)
    have := n3.kn.2
    rw [show hid ((⟨F, some b⟩ : Fr).add d).F (upd H2 d (.lst (xs ++ [v3]))) = hid (d :: F) H2 from hid_upd List.mem_cons_self] at this
    exact this
  have n4 := n3.seeB (f := ⟨F, some b⟩) (Φ := At (zL (zL zN)) wordsL) db ⟨d, _, rfl, by rw [hid_out dF]; exact upd_same, Paired.mapP pxs2 fun _ _ z => Stb.up (hid_sub fun a m => List.mem_cons_of_mem _ m) z⟩
  have hB4 := (n4.out.2 b rfl).2 c hB
  refine nx_ (seq_ ?_)
  refine s_set n4 (Φ := Som (zL zN) fun l => l ∈ wordsL) (ev_op (ev_var (Φ := At (zL (zL zN)) wordsL) (v := .ref d) rfl n4.kn.2) (ev_op (Φ := Som zI fun k => InR 3 k) (ev_lst (R := zI) (l := [0, 0, 1, 2]) (ee_cons ev_int (ee_cons ev_int (ee_cons ev_int (ee_cons ev_int ee_nil)))) (by decide)) (ev_callB (f := ⟨F, some b⟩) (x := (⟨4, by decide, by decide⟩ : Many)) rfl hB4 rfl (ea_cons ev_int ea_nil)) (Ru2.ex2 fun k hk => ?_)) (Ru2.ex2 fun k hk => ?_)) fun v5 H3 e3 n5 => ?_
  · have hk : InR 4 k := hk
    obtain ⟨x, hx, r⟩ : ∃ x, ([0, 0, 1, 2] : List Int)[k.toNat]? = some x ∧ InR 3 x := by
      have h1 := hk.1
      have h2 := hk.2
      have h3 : k = 0 ∨ k = 1 ∨ k = 2 ∨ k = 3 := by omega
      rcases h3 with rfl | rfl | rfl | rfl
      · exact ⟨0, rfl, by decide⟩
      · exact ⟨0, rfl, by decide⟩
      · exact ⟨1, rfl, by decide⟩
      · exact ⟨2, rfl, by decide⟩
    exact Ru2.imp (ru_ixL hk.1 hx) fun G v z => ⟨x, r, z⟩
  · have hk : InR 3 k := hk
    have lt : k.toNat < wordsL.length := by
      have h1 := hk.1
      have h2 := hk.2
      show k.toNat < 3
      omega
    exact Ru2.imp (ru_ixL (x := wordsL[k.toNat]) hk.1 (List.getElem?_eq_getElem lt)) fun G v z => ⟨_, List.getElem_mem lt, z⟩
  · obtain ⟨l, hl, hv⟩ := n5.kn.2
    obtain ⟨l6, lN⟩ := words_ok l hl
    have n6 := n5.know (K' := KV (At (zL zN) l) v5) hv
    have hB5 := (n5.out.2 b rfl).2 c hB
    have pt : ∀ z : List Str, part z none (some (m : Int)) = z.take m := fun z => part_take (i := m)
    refine nx_ ?_
    refine s_ret n6 (Φ := Som (zL zN) fun l => l.length = m) (EvP.imp (ev_cb (ea_cons (Φ := Som (zL zS) fun z => z.length = m ∧ ∀ x ∈ z, IsNm x) (EvP.imp (ev_sliceS (R := zN) (ev_callB (f := ⟨F, some b⟩) (x := (⟨l, by omega⟩ : { l : List Str // l.length ≤ 100 })) rfl hB5 rfl (ea_cons (ev_var (Φ := At (zL zN) l) (v := v5) rfl n6.kn) ea_nil)) eo_none (eo_some (ev_var (Φ := At zI (m : Int)) (v := .int (m : Int)) rfl rfl))) fun G u ⟨z, ⟨y, hy, ez⟩, hz⟩ => ?_) ea_nil) (RuA.ex (Φ := Som (zL zS) fun z => z.length = m ∧ ∀ x ∈ z, IsNm x) fun z hz H1 vs e d a Q q => ra_sortedS (by omega) H1 vs e d a Q fun u H2 e2 ⟨y, hy, r⟩ => q u H2 e2 ⟨y, ⟨by rw [hy.length_eq]; exact hz.1, fun x hx => hz.2 x (hy.mem_iff.mp hx)⟩, r⟩)) fun G u ⟨z, hz, r⟩ => ⟨z, hz.1, list_zN r hz.2⟩) fun v6 H4 e4 n7 => kk v6 H4 n7.out n7.kn.2
    rw [pt] at ez
    obtain ⟨r1, r2⟩ := zN_list hz
    exact ⟨z, ⟨by rw [ez, List.length_take, hy.length_eq, l6]; omega, r2⟩, r1⟩
end
end FF
namespace FF
open PySem PySem.Spec PyProof.Rows L2
theorem g_name {i : Nat} {x : V} {σ : L2.St} {H : Hp} {Q : L2.St → Hp → Prop} (h : Q (σ.set i (some x)) H) : gName i x σ H Q := h
section
variable {f : Fr} {L : List Addr} {K : Hp → Prop} {H H0 : Hp} {σ : L2.St} {ta tb tc te : TE} {tr : TA} {D : Ends} {Φ Φ' Φ1 Φ2 Φ3 : Hp → V → Prop} {Ψ Ψ' : Hp → List V → Prop} {E : XK} {ι α : Type} {R : Rep α} {Kf : PySem.W.Frag} {Arg : ι → Hp → List V → Prop} {Res : ι → Hp → V → Prop}
theorem RuA.imp {r : List V → Hp → VK → Prop} (h : RuA f r H Ψ Φ) (i : ∀ G v, Φ G v → Φ' G v) : RuA f r H Ψ Φ' := fun H1 vs e d p Q q => h H1 vs e d p Q fun v H2 e2 z => q v H2 e2 (i _ _ z)
/-- a bag call, its arguments not known in full -/
theorem ev_callBx {X : ι → Prop} {i : Nat} {b c : Addr} (hb : f.b = some b) (hB : BagAt H b c) (hi : σ[i]? = some (some (.ref b))) (h : EvA f tr σ H (fun G vs => ∃ x, X x ∧ Arg x G vs)) : EvP f (tCall (SpB Arg Res) [] E (tCons (tVar i) tr)) σ H (fun G v => ∃ x, X x ∧ Res x G v) := fun H1 e d Q q => by
  show ∃ v, σ[i]? = some (some v) ∧ _
  refine ⟨.ref b, hi, h H1 e d _ fun vs H2 e2 ⟨x, hx, p⟩ => ?_⟩
  show SpB Arg Res ((.ref b :: vs) ++ []) H2 Q E
  rw [List.append_nil]
  refine ⟨x, f.F, b, c, vs, rfl, d.bag b hb, (d.re e2).there, ((e.trans e2).2 b hb).2 c hB, p, fun v H3 s k => q v H3 (e2.trans ?_) ⟨x, hx, k⟩⟩
  rw [hb]; exact s
theorem ev_callx {X : ι → Prop} (h : EvA f tr σ H (fun G vs => ∃ x, X x ∧ Arg x G vs)) : EvP f (tCall (SpP Arg Res) [] E tr) σ H (fun G v => ∃ x, X x ∧ Res x G v) := fun H1 e d Q q => h H1 e d _ fun vs H2 e2 ⟨x, hx, p⟩ => by
  show SpP Arg Res (vs ++ []) H2 Q E
  rw [List.append_nil]
  exact ⟨x, f.F, (d.re e2).there, p, fun v H3 s k => q v H3 (e2.trans (re.same s)) ⟨x, hx, k⟩⟩
theorem ea_done {vs : List V} [StA Ψ] (p : Ψ (hid f.F H) vs) : EvA f (fun _ H Q => Q vs H) σ H Ψ := fun H1 e d Q q => q vs H1 (re.refl _) (StA.up (known_up e d) p)
theorem ev_makeS {C : Addr} {pl : Int} {Pb : List Int → Prop} {Pe : List E3 → Prop} {P : PD} (raw : ∀ bl el, Pb bl → Pe el → RawP pl bl el) (same : ∀ bl el, Pb bl → Pe el → mkP pl bl el = P) (h : EvA f tr σ H (ACons (At zI pl) (ACons (Som (zL zI) Pb) (ACons (Som (zL zE) Pe) ANil)))) : EvP f (tMake C (sp_init C) [] E tr) σ H (At (zPr C) P) := fun H1 e d Q q => h H1 e d _ fun vs H2 e2 p => by
  obtain ⟨vp, r, e3, p1, vb, r2, e4, ⟨bl, hb, p2⟩, ve, r3, e5, ⟨el, he, p3⟩, e6⟩ := p
  exact (ev_make (f := f) (C := C) (E := E) (tr := fun _ H Q => Q vs H) (σ := σ) (H := H2) (raw bl el hb he) (ea_done ⟨vp, r, e3, p1, vb, r2, e4, p2, ve, r3, e5, p3, e6⟩)) H2 (re.refl _) (d.re e2) Q fun v H3 e3 p => q v H3 (e2.trans e3) (by rw [← same bl el hb he]; exact p)
/-- xs[:k], k not known in full -/
theorem ev_sliceB [Stb R] {l : List α} {Pr : Int → Prop} (h : EvP f te σ H (At (zL R) l)) (hk : EvP f ta σ H (Som zI Pr)) : EvP f (tSl (rSlL Kf) te tNoPart (tPart ta)) σ H (Som (zL R) fun m => ∃ k, Pr k ∧ m = part l none (some k)) := fun H1 e d Q q =>
  h H1 e d _ fun u H2 e2 p => by
    refine hk H2 (e.trans e2) (d.re e2) _ fun w H3 e3 ⟨k, hk, p3⟩ => ?_
    obtain rfl : w = .int k := p3
    refine ⟨k, rfl, ?_⟩
    have d3 := (d.re e2).re e3
    have p4 : zL R (hid f.F H3) u l := Stb.up (known_up e3 d3) p
    obtain ⟨a, xs, rfl, ha, hp⟩ := p4
    refine ⟨a, xs, rfl, SqL.of (hid_same _ _ ha), fun n hn => q _ _ ((e2.trans e3).trans (re.same (same_new hn))) ⟨_, ⟨k, hk, rfl⟩, n, _, rfl, hid_new d3 hn, ?_⟩⟩
    unfold cutV part
    rw [Paired.length hp]
    exact paired_take _ (paired_drop _ (Paired.mapP hp fun _ _ z => Stb.up (up_new hn) z))
/-- a tuple of three -/
def ZT3 (Φ1 Φ2 Φ3 : Hp → V → Prop) : Hp → V → Prop := fun G v => ∃ a u w z, v = .ref a ∧ G a = some (.tup [u, w, z]) ∧ Φ1 G u ∧ Φ2 G w ∧ Φ3 G z
theorem ev_tup3P [StP Φ1] [StP Φ2] [StP Φ3] (ha : EvP f ta σ H Φ1) (hb : EvP f tb σ H Φ2) (hc : EvP f tc σ H Φ3) : EvP f (tTup (tCons ta (tCons tb (tCons tc tNil)))) σ H (ZT3 Φ1 Φ2 Φ3) := fun H1 e d Q q =>
  ea_cons ha (ea_cons hb (ea_cons hc ea_nil)) H1 e d _ fun vs H2 e2 ⟨u, r1, e3, p1, w, r2, e4, p2, t, r3, e5, p3, e6⟩ => by
    obtain rfl : r3 = [] := e6
    subst e5; subst e4; subst e3
    refine ⟨by show 3 ≤ sizeLine; decide, fun p hp => q _ _ (e2.trans (re.same (same_new hp))) ?_⟩
    exact ⟨p, u, w, t, rfl, hid_new (d.re e2) hp, StP.up (up_new hp) p1, StP.up (up_new hp) p2, StP.up (up_new hp) p3⟩
/-- a tuple of two -/
def ZT2 (Φ1 Φ2 : Hp → V → Prop) : Hp → V → Prop := fun G v => ∃ a u w, v = .ref a ∧ G a = some (.tup [u, w]) ∧ Φ1 G u ∧ Φ2 G w
theorem ev_tup2P [StP Φ1] [StP Φ2] (ha : EvP f ta σ H Φ1) (hb : EvP f tb σ H Φ2) : EvP f (tTup (tCons ta (tCons tb tNil))) σ H (ZT2 Φ1 Φ2) := fun H1 e d Q q =>
  ea_cons ha (ea_cons hb ea_nil) H1 e d _ fun vs H2 e2 ⟨u, r1, e3, p1, w, r2, e4, p2, e6⟩ => by
    obtain rfl : r2 = [] := e6
    subst e4; subst e3
    refine ⟨by show 2 ≤ sizeLine; decide, fun p hp => q _ _ (e2.trans (re.same (same_new hp))) ?_⟩
    exact ⟨p, u, w, rfl, hid_new (d.re e2) hp, StP.up (up_new hp) p1, StP.up (up_new hp) p2⟩
end
section
variable {f : Fr} {L : List Addr} {K : Hp → Prop} {H H0 : Hp} {σ : L2.St} {D : Ends} {g : TG} {tb : TS} {tr : TA}
theorem s_forR [StH K] {Pr : Int → Prop} {N : Nat} (n : Now f L H0 K H) (h : EvA f tr σ H (ACons (Som zI Pr) ANil)) (hN : N ≤ 100000) (hP : ∀ i, Pr i → 0 ≤ i ∧ i ≤ N)
    (k : ∀ (m : Nat) H1, Pr m → m ≤ N → re f.b H H1 → Now f L H0 K H1 → ∃ Inv : Nat → L2.St → Hp → Prop, Inv 0 σ H1 ∧ (∀ i σ' H', Inv i σ' H' → Dm f H') ∧
      (∀ (i : Nat) σ' H' H'', i < m → Inv i σ' H' → Same H' H'' → g (.int (i : Int)) σ' H'' fun σ2 H2 => tb { D with nx := Inv (i + 1), ct := Inv (i + 1), bk := D.nx } σ2 H2) ∧ (∀ σ' H', Inv m σ' H' → D.nx σ' H')) :
    tFor (iRng1 tr) g tb D σ H :=
  ei_rangeS (wi := iRng1 tr) h hN hP H (re.refl _) n.dm fun m H1 hm e => by
    obtain ⟨Inv, i0, il, is, id⟩ := k m H1 hm (by have := (hP _ hm).2; omega) e (n.go e)
    have wk : Walk (Itr 0 m) zI (upto m) KT := walk_range
    have ul := upto_length m
    refine ⟨fun i x σ H => x = m - i ∧ i ≤ m ∧ Inv i σ H, ⟨m, by simp, Nat.zero_le _, i0⟩, ?_⟩
    rintro i x σ' H' ⟨rfl, hi, q⟩
    have d := il i σ' H' q
    by_cases hlt : i < m
    · refine .inr ⟨wk.go _ _ _ (show KT (hid f.F H') from trivial) (by rw [ul]; exact hlt), Inv (i + 1), fun σ2 H2 q2 => ⟨m - (i + 1), by omega, rfl, hlt, q2⟩, fun x H2 y => ?_⟩
      obtain ⟨z, hz, sm, hr⟩ := wk.yld _ _ _ _ _ d.there (show KT (hid f.F H') from trivial) (by rw [ul]; exact hlt) y
      rw [upto_get hlt] at hz
      injection hz with hz
      have hr : x = .int z := hr
      rw [hr, ← hz]
      exact is i σ' H' H2 hlt q sm
    · have e3 : i = m := by omega
      subst e3
      exact .inl ⟨wk.stop _ _ _ (show KT (hid f.F H') from trivial) (by rw [ul]; exact Nat.le_refl _), id σ' H' q⟩
end
theorem zE_hid {F : List Addr} {d : Addr} {H : Hp} {xs : List V} {v : V} {e : E3} (hd : H d = some (.lst xs)) (h : zE (hid F H) v e) : zE (hid (d :: F) H) v e := by
  obtain ⟨a, u, w, z, rfl, ha, r⟩ := h
  refine ⟨a, u, w, z, rfl, ?_, r⟩
  obtain ⟨m, ha⟩ := hid_some ha
  have ne : a ≠ d := by
    rintro rfl
    rw [hd] at ha
    cases ha
  rw [hid_out (fun z => (List.mem_cons.mp z).elim ne m)]
  exact ha
theorem names_in {G : Hp} : ∀ {xs : List V} {l : List E3}, Paired (zE G) xs l → ∀ e ∈ l, IsNm e.2.1
  | _, _, .nil, e, h => nomatch h
  | _, _, .cons h t, e, m => (List.mem_cons.mp m).elim (fun z => by
    rw [z]
    obtain ⟨_, _, _, _, _, _, _, h2, _⟩ := h
    exact h2.2) (names_in t e)
theorem names_lst {G : Hp} {v : V} {l : List E3} (h : zL zE G v l) : ∀ e ∈ l, IsNm e.2.1 := by
  obtain ⟨a, xs, _, _, hp⟩ := h
  exact names_in hp
/-- a program's parts, as the law holds them -/
def zPt : Rep PD := fun G v P => zT3 zI (zL zI) (zL zE) G v (P.pl, P.bg, P.ed)
instance : Stb zPt := ⟨fun u h => Stb.up (R := zT3 zI (zL zI) (zL zE)) u h⟩
section
variable {f : Fr} {σ : L2.St} {H : Hp} {te : TE} {P : PD} {Kf : PySem.W.Frag}
theorem ev_pt (h : EvP f te σ H (At zPt P)) : EvP f te σ H (At (zT3 zI (zL zI) (zL zE)) (P.pl, P.bg, P.ed)) := h
theorem ev_pt0 (h : EvP f te σ H (At zPt P)) : EvP f (tOp (rIxT Kf) te (tC (.int 0))) σ H (At zI P.pl) := ev_op (ev_pt h) ev_int ru_ix30
theorem ev_pt1 (h : EvP f te σ H (At zPt P)) : EvP f (tOp (rIxT Kf) te (tC (.int 1))) σ H (At (zL zI) P.bg) := ev_op (ev_pt h) ev_int ru_ix31
theorem ev_pt2 (h : EvP f te σ H (At zPt P)) : EvP f (tOp (rIxT Kf) te (tC (.int 2))) σ H (At (zL zE) P.ed) := ev_op (ev_pt h) ev_int ru_ix32
end
end FF
namespace FF
open PySem
/-- the edges that lead on from l -/
def onP (P : PD) (l : List Int) : List E3 := P.ed.filter fun e => decide (e.1 ∈ l) && !decide (e.2.2 ∈ l)
def nextL (P : PD) (l : List Int) : List Int := l ++ (onP P l).map fun e => e.2.2
theorem two_filters {α : Type} {p q r : α → Bool} : ∀ {l : List α}, (∀ x ∈ l, p x = true → q x = false ∧ r x = true) → (∀ x ∈ l, q x = true → r x = true) → (l.filter p).length + (l.filter q).length ≤ (l.filter r).length
  | [], _, _ => Nat.le_refl _
  | x :: l, h1, h2 => by
    have ih := two_filters (l := l) (fun y hy => h1 y (List.mem_cons_of_mem _ hy)) fun y hy => h2 y (List.mem_cons_of_mem _ hy)
    have a := h1 x List.mem_cons_self
    have b := h2 x List.mem_cons_self
    rw [List.filter_cons, List.filter_cons, List.filter_cons]
    cases hp : p x with
    | true =>
      obtain ⟨a1, a2⟩ := a hp
      rw [a1, a2]
      simp only [if_true, Bool.false_eq_true, if_false, List.length_cons]
      omega
    | false =>
      cases hq : q x with
      | true =>
        rw [b hq]
        simp only [if_true, Bool.false_eq_true, if_false, List.length_cons]
        omega
      | false =>
        simp only [Bool.false_eq_true, if_false]
        split
        · rw [List.length_cons]; omega
        · exact ih
structure Rea (P : PD) (i : Nat) (l : List Int) : Prop where
  so : ∀ x ∈ l, Clo (arcs P) P.bg x
  al : ∀ x ∈ P.bg, x ∈ l
  few : l.length + (P.ed.filter fun e => !decide (e.2.2 ∈ l)).length ≤ P.bg.length + P.ed.length
  pr : onP P l = [] ∨ i + 1 ≤ (canon l).length
theorem mem_on {P : PD} {l : List Int} {e : E3} : e ∈ onP P l ↔ e ∈ P.ed ∧ e.1 ∈ l ∧ e.2.2 ∉ l := by
  unfold onP
  rw [List.mem_filter, Bool.and_eq_true, decide_eq_true_eq, Bool.not_eq_true', decide_eq_false_iff_not]
theorem mem_next {P : PD} {l : List Int} {x : Int} : x ∈ nextL P l ↔ x ∈ l ∨ ∃ e ∈ onP P l, e.2.2 = x := by
  unfold nextL
  rw [List.mem_append, List.mem_map]
theorem Rea.start {P : PD} (h : P.bg ≠ []) : Rea P 0 P.bg where
  so := fun x hx => .base hx
  al := fun x hx => hx
  few := Nat.add_le_add_left (List.length_filter_le _ _) _
  pr := .inr (by
    have := List.length_pos_iff.mpr (canon_ne h)
    omega)
theorem Rea.next {P : PD} {i : Nat} {l : List Int} (h : Rea P i l) : Rea P (i + 1) (nextL P l) where
  so := fun x hx => by
    rcases mem_next.mp hx with hx | ⟨e, he, rfl⟩
    · exact h.so x hx
    · obtain ⟨h1, h2, _⟩ := mem_on.mp he
      exact .step (h.so _ h2) (List.mem_map.mpr ⟨e, h1, rfl⟩)
  al := fun x hx => mem_next.mpr (.inl (h.al x hx))
  few := by
    have h2 : (onP P l).length + (P.ed.filter fun e => !decide (e.2.2 ∈ nextL P l)).length ≤ (P.ed.filter fun e => !decide (e.2.2 ∈ l)).length := by
      refine two_filters (fun e he hp => ?_) fun e he hq => ?_
      · rw [Bool.and_eq_true, decide_eq_true_eq, Bool.not_eq_true', decide_eq_false_iff_not] at hp
        have m : e.2.2 ∈ nextL P l := mem_next.mpr (.inr ⟨e, mem_on.mpr ⟨he, hp⟩, rfl⟩)
        rw [decide_eq_true m, decide_eq_false hp.2]
        exact ⟨rfl, rfl⟩
      · rw [Bool.not_eq_true', decide_eq_false_iff_not] at hq ⊢
        exact fun z => hq (mem_next.mpr (.inl z))
    have := h.few
    have e : (nextL P l).length = l.length + (onP P l).length := by
      unfold nextL
      rw [List.length_append, List.length_map]
    omega
  pr := by
    by_cases c : onP P l = []
    · refine .inl ?_
      have : nextL P l = l := by
        unfold nextL
        rw [c]
        exact List.append_nil l
      rw [this]
      exact c
    · refine .inr ?_
      rcases h.pr with z | z
      · exact absurd z c
      · obtain ⟨e, l', he⟩ := List.exists_cons_of_ne_nil c
        have he : e ∈ onP P l := by rw [he]; exact List.mem_cons_self
        have no := (mem_on.mp he).2.2
        have := nodup_len (l := e.2.2 :: canon l) (m := canon (nextL P l)) (List.nodup_cons.mpr ⟨fun z => no (mem_canon.mp z), asc_nodup (asc_canon _)⟩) fun x hx => (by
          refine mem_canon.mpr (mem_next.mpr ?_)
          rcases List.mem_cons.mp hx with rfl | hx
          · exact .inr ⟨e, he, rfl⟩
          · exact .inl (mem_canon.mp hx))
        rw [List.length_cons] at this
        omega
theorem Rea.done {P : PD} (ok : OkP P) {l : List Int} (h : Rea P P.pl.toNat l) : canon l = reachL P := by
  have rng : ∀ x ∈ l, InR P.pl x := fun x hx => reach_rng ok (mem_cloL.mpr (h.so x hx))
  have c : onP P l = [] := by
    rcases h.pr with z | z
    · exact z
    · have := nodup_len (m := upto P.pl.toNat) (asc_nodup (asc_canon l)) fun x hx => (by
        have r := rng x (mem_canon.mp hx)
        exact mem_upto.mpr ⟨r.1, by have := r.2; omega⟩)
      rw [upto_length] at this
      omega
  refine cloL_is fun n => ⟨h.so n, fun q => ?_⟩
  induction q with
  | base hb => exact h.al _ hb
  | step _ hs ih =>
    obtain ⟨e, he, ee⟩ := List.mem_map.mp hs
    injection ee with e1 e2
    refine Classical.byContradiction fun no => ?_
    have : e ∈ onP P l := mem_on.mpr ⟨he, by rw [e1]; exact ih, by rw [e2]; exact no⟩
    rw [c] at this
    cases this
theorem Rea.len {P : PD} {i : Nat} {l : List Int} (h : Rea P i l) : l.length ≤ P.bg.length + P.ed.length := by
  have := h.few
  omega
theorem reach_ne {P : PD} (h : P.bg ≠ []) : reachL P ≠ [] := by
  obtain ⟨x, l, e⟩ := List.exists_cons_of_ne_nil h
  intro z
  have : x ∈ reachL P := reach_bg (by rw [e]; exact List.mem_cons_self)
  rw [z] at this
  cases this
/-- a pair falls: a way of m without a fellow that is left -/
def FallP (A B : PD) (left : Int × Int → Prop) (m n : Int) : Prop := ∃ k s, (k, s) ∈ wayP A m ∧ ∀ l, (l, s) ∈ wayP B n → ¬ left (k, l)
theorem fall_no {A B : PD} {left : Int × Int → Prop} (h : ∀ p, p.1 ∈ reachL A → p.2 ∈ reachL B → ¬ left p → ¬ Fol A B p.1 p.2) {m n : Int} (f : FallP A B left m n) : ¬ Fol A B m n := fun g => by
  obtain ⟨k, s, hk, hl⟩ := f
  obtain ⟨l, h1, h2⟩ := (fol_sim A B).st g k s hk
  exact h (k, l) (mem_way.mp hk).2 (mem_way.mp h1).2 (hl l h1) h2
theorem left_ok {A B : PD} {left : Int × Int → Prop} (h0 : ∀ p, left p → p.1 ∈ reachL A ∧ p.2 ∈ reachL B ∧ (p.1 ∈ A.bg → p.2 ∈ B.bg)) (h1 : ∀ p, left p → ¬ FallP A B left p.1 p.2) {m n : Int} (h : left (m, n)) : Fol A B m n := by
  refine ⟨fun m n => left (m, n), ⟨fun r => (h0 _ r).1, fun r => (h0 _ r).2.1, fun r => (h0 _ r).2.2, fun {m n} r k s hk => ?_⟩, h⟩
  have := h1 _ r
  refine Classical.byContradiction fun no => this ⟨k, s, hk, fun l hl z => no ⟨l, hl, z⟩⟩
end FF
namespace FF
open PySem PySem.Spec PyProof.Rows L2
/-- parts that are in order -/
structure OkT (bound : Int) (many : Nat) (P : PD) : Prop where
  p1 : 1 ≤ P.pl
  pb : P.pl ≤ bound
  b0 : P.bg ≠ []
  b1 : ∀ x ∈ P.bg, InR P.pl x
  e1 : ∀ e ∈ P.ed, InR P.pl e.1 ∧ InR P.pl e.2.2
  ab : Asc P.bg
  ae : Asc P.ed
  few : P.ed.length ≤ many
section
variable {f : Fr} {L : List Addr} {K : Hp → Prop} {H H0 : Hp} {σ : L2.St} {D : Ends} {g : TG} {tb : TS} {ta te : TE} {tr : TA} {Φ Φ2 : Hp → V → Prop}
theorem s_parPL {i j : Nat} [StH K] [StP Φ] (n : Now f L H0 K H) (h : EvP f ta σ H Φ)
    (k : ∀ v p H1, H1 p = none → re f.b H H1 → Now (f.add p) (p :: L) H0 (KAnd K (KV Φ v)) (upd H1 p (.lst [])) → D.nx ((σ.set i (some v)).set j (some (.ref p))) (upd H1 p (.lst []))) : tPar i j (tCons ta (tCons (tLst tNil) tNil)) D σ H :=
  h H (re.refl _) n.dm _ fun v H1 e p => ⟨Nat.zero_le _, fun q hq => ⟨v, .ref q, rfl, k v q H1 hq e (((n.go e).know (K' := KAnd K (KV Φ v)) ⟨(n.go e).kn, p⟩).new hq)⟩⟩
theorem ev_lst1S {α : Type} {R : Rep α} [Stb R] {Pr : α → Prop} (h : EvP f ta σ H (Som R Pr)) : EvP f (tLst (tCons ta tNil)) σ H (Som (zL R) fun l => ∃ x, Pr x ∧ l = [x]) := fun H1 e d Q q =>
  h H1 e d _ fun v H2 e2 ⟨x, hx, p⟩ => ⟨by show 1 ≤ sizeLine; decide, fun a hp => q _ _ (e2.trans (re.same (same_new hp))) ⟨[x], ⟨x, hx, rfl⟩, a, [v], rfl, hid_new (d.re e2) hp, .cons (Stb.up (up_new hp) p) .nil⟩⟩
end
section
variable {P : Program} {w : World} {K : PySem.W.Frag} {mg : Str → Option Value} {base : Heap} {C : Addr}
abbrev s__law_program : Stmt := topS 39
abbrev N__law_program : List Str := ["_law_bag_here", "_law_bound", "_law_many", "_law_names_here", "_law_places", "_law_edges", "_law_begins", "_law_k", "_law_ends", "_law_edge"]
abbrev P__law_program : List Str := ["_law_bag_here", "_law_bound", "_law_many", "_law_names_here"]
theorem sc__law_program : FnScope N__law_program P__law_program (C8.fnScope s__law_program) := C8.fnScope_by (by decide +kernel)
structure ProgI where
  bound : Int
  many : Nat
  names : List Str
  b1 : 1 ≤ bound
  b9 : bound ≤ 9
  m9 : many ≤ 20
  few : names.length ≤ 10
abbrev sp_law_program : Sp := SpB (ι := ProgI) (fun x => ACons (At zI x.bound) (ACons (At zI (x.many : Int)) (ACons (At (zL zN) x.names) ANil))) (fun x => Som zPt (OkT x.bound x.many))
theorem ok_law_program {f : Addr} {fd : FuncData} (F : C8.Def K mg "_law_program" s__law_program f fd) (b : L2.Binds K fd P__law_program []) (T : Txt K mg C) (c__law_take : C8.Cal P w K mg base 1 "_law_take" sp_law_take []) (c__law_some : C8.Cal P w K mg base 2 "_law_some" (sp_law_some zI) []) : C8.Cal P w K mg base 3 "_law_program" sp_law_program [] := by
  refine C8.cal0 F b .nil sc__law_program (spB_len fun x G vs h => alS h fun _ h => alS h fun _ h => alS h fun _ h => al0 h) (fun cdv A0 outer s H vs Q E hr h => ?_)
  obtain ⟨⟨bound, many, names, b1, b9, m9, few⟩, F, b, c, rest, rfl, hbF, hF, hB, ⟨v, r, rfl, p, v2, r2, rfl, p2, v3, r3, rfl, p3, rfl⟩, kk⟩ := h
  obtain rfl : v = .int bound := p
  obtain rfl : v2 = .int (many : Int) := p2
  have hu := hu_of hr
  refine ⟨_, (pss_cons (ps_par rfl sc__law_program.nd (show N__law_program[4]? = _ from rfl) (show N__law_program[5]? = _ from rfl) (by decide) rfl rfl (pa_cons (pe_op op_add pe_int (C8.pe_c c__law_take hr (by decide) rfl (pa_cons (pv 0) (pa_cons (pv 1) pa_nil)))) (pa_cons (pe_lst pa_nil) pa_nil)) (by rfl)) (pss_cons (ps_set (i := 6) sc__law_program.nd rfl (.inl rfl) (pe_op op_cat (pe_lst (pa_cons (C8.pe_c c__law_take hr (by decide) rfl (pa_cons (pv 0) (pa_cons (pv 4) pa_nil))) pa_nil)) (C8.pe_c c__law_some hr (by decide) rfl (pa_cons (pv 0) (pa_cons (pe_listRg rfl (by rfl) T.m_list (prg_1 (by rfl) T.m_range (pv 4))) (pa_cons pe_int pa_nil)))))) (pss_cons (ps_for PassesOwn.never rfl (pi_range1 (by rfl) T.m_range (pa_cons (pe_op op_mul (C8.pe_c c__law_take hr (by decide) rfl (pa_cons (pv 0) (pa_cons (pe_op op_add (pv 2) pe_int) pa_nil))) (pe_callTy call_int1 (by rfl) T.m_int (by decide +kernel) (pa_cons (pe_cmpR (op_neD hr.units) (pv 3) (pe_lst pa_nil) (nomark _)) pa_nil))) pa_nil)) (pg_name (i := 7) sc__law_program.nd rfl (.inl rfl)) (pss_cons (ps_set (i := 8) sc__law_program.nd rfl (.inl rfl) (pe_ix ix_list (pe_lst (pa_cons (pe_op op_cat (pv 6) (pe_lc (own := [("_law_edge", 9)]) rfl sc__law_program.nd (pi_list (pv 5)) (blkOk_by (own := [("_law_edge", 9)]) (N := N__law_program) (sc := C8.fnScope s__law_program) (by decide +kernel)) (fun _ _ _ _ _ => (pg_name (i := 9) sc__law_program.nd rfl (.inl rfl))) (fun _ _ _ _ _ => pts_nil) (fun _ _ _ _ _ => (pe_ix (ix_tupK blkK) (pv 9) pe_int (fun _ _ => rfl))))) (pa_cons (pe_listRg rfl (by rfl) T.m_list (prg_1 (by rfl) T.m_range (pv 4))) pa_nil))) (pe_callTy call_int1 (by rfl) T.m_int (by decide +kernel) (pa_cons (pe_cmpR op_eq (C8.pe_c c__law_take hr (by decide) rfl (pa_cons (pv 0) (pa_cons pe_int pa_nil))) pe_int (nomark _)) pa_nil)) (fun _ _ => rfl))) (pss_one (ps_expr (pe_bm PySem.F.plainAttrs_list PySem.F.slot_list_append PySem.F.type_list_append mt_append (pv 5) (pa_cons (pe_tup (pa_cons (pe_ix ix_list (pv 8) (C8.pe_c c__law_take hr (by decide) rfl (pa_cons (pv 0) (pa_cons (pe_callB call_len_seq (by rfl) T.m_len (by decide +kernel) (pa_cons (pv 8) pa_nil)) pa_nil))) (fun _ _ => rfl)) (pa_cons (pe_ix ix_list (pv 3) (C8.pe_c c__law_take hr (by decide) rfl (pa_cons (pv 0) (pa_cons (pe_callB call_len_seq (by rfl) T.m_len (by decide +kernel) (pa_cons (pv 3) pa_nil)) pa_nil))) (fun _ _ => rfl)) (pa_cons (C8.pe_c c__law_take hr (by decide) rfl (pa_cons (pv 0) (pa_cons (pv 4) pa_nil))) pa_nil)))) pa_nil)))))) (pss_one (ps_ret (pe_tup (pa_cons (pv 4) (pa_cons (pe_callB (cr_sortedSet rfl) (by rfl) T.m_sorted (by decide +kernel) (pa_cons (pe_callTy (cr_setI rfl) (by rfl) T.m_set (by decide +kernel) (pa_cons (pv 6) pa_nil)) pa_nil)) (pa_cons (pe_callB (cr_sortedMS rfl) (by rfl) T.m_sorted (by decide +kernel) (pa_cons (pe_callTy (cr_setM rfl hr.units) (by rfl) T.m_set (by decide +kernel) (pa_cons (pv 5) pa_nil)) pa_nil)) pa_nil))))))))), ?_⟩
  have n : Now ⟨F, some b⟩ [] H (KV (At (zL zN) names) v3) H := Now.start (dmB hF hbF) p3
  have db : ∀ a, (⟨F, some b⟩ : Fr).b = some a → a ∈ F := fun a e => by
    injection e with e
    rw [← e]
    exact hbF
  refine seq_ (s_parPL (Φ := Som zI fun p => 1 ≤ p ∧ p ≤ bound) n (ev_op ev_int (ev_callB (f := ⟨F, some b⟩) (x := (⟨bound, by omega, by omega⟩ : Many)) rfl hB rfl (ea_cons (ev_var (Φ := At zI bound) (v := .int bound) rfl rfl) ea_nil)) (Ru2.ex2 fun k hk => Ru2.imp ru_add fun G v z => ⟨_, ?_, z⟩)) fun v4 d H1 hd e1 n1 => ?_)
  · have h1 : InR bound k := hk
    have := h1.1
    have := h1.2
    omega
  have dF : d ∉ F := (n.dm.re e1).new hd
  have bd : b ≠ d := fun z => dF (z ▸ hbF)
  obtain ⟨pl, hpl, e4⟩ := id n1.kn.2
  obtain rfl : v4 = .int pl := e4
  have n2 := n1.know (K' := KV (At (zL zN) names) v3) n1.kn.1
  have hB2 := (n2.out.2 b rfl).2 c hB
  have plN : ((pl.toNat : Nat) : Int) = pl := by omega
  refine nx_ (seq_ ?_)
  refine s_set n2 (Φ := Som (zL zI) fun l => l ≠ [] ∧ l.length ≤ 20 ∧ ∀ x ∈ l, InR pl x) (ev_op (ev_lst1S (R := zI) (ev_callB (x := (⟨pl, by omega, by omega⟩ : Many)) rfl hB2 rfl (ea_cons (ev_var (Φ := At zI pl) (v := .int pl) rfl rfl) ea_nil))) (ev_callB (x := (⟨(upto pl.toNat, 6), by rw [upto_length]; omega, by show (0 : Int) < 6; decide, by show (6 : Int) < 1073741824; decide⟩ : SomeI Int)) rfl hB2 rfl (ea_cons (ev_listRg (by omega) (EvP.is (y := ((pl.toNat : Nat) : Int)) (ev_var (Φ := At zI pl) (v := .int pl) rfl rfl) plN.symm)) (ea_cons ev_int ea_nil))) (Ru2.ex1 fun l hl => Ru2.ex2 fun m hm => ?_)) fun v6 H2 e2 n3 => ?_
  · obtain ⟨x, hx, rfl⟩ := hl
    have hx : InR pl x := hx
    have ml : m.length ≤ pl.toNat := by
      have := hm.length_le
      rw [upto_length] at this
      exact this
    refine Ru2.imp (ru_cat (by rw [List.length_singleton]; omega)) fun G v z => ⟨_, ⟨by simp, ?_, fun y hy => ?_⟩, z⟩
    · rw [List.length_append, List.length_singleton]
      omega
    · rcases List.mem_append.mp hy with hy | hy
      · rw [List.mem_singleton.mp hy]
        exact hx
      · have := mem_upto.mp (hm.mem hy)
        exact ⟨this.1, by have := this.2; omega⟩
  obtain ⟨bl, ⟨bl0, bll, blr⟩, hv6⟩ := id n3.kn.2
  have n4 := n3.know (K' := KAnd (KV (At (zL zN) names) v3) (KV (At (zL zI) bl) v6)) ⟨n3.kn.1, hv6⟩
  have hB3 := (n4.out.2 b rfl).2 c hB
  have e20 : H2 d = some (.lst []) := e2.keep (fun z => bd (Option.some.inj z)) upd_same
  refine nx_ (seq_ ?_)
  refine s_forR (Pr := fun k => 0 ≤ k ∧ k ≤ (many : Int) ∧ (names = [] → k = 0)) (N := 20) n4 (ea_cons (ev_op (ev_callB (f := (⟨F, some b⟩ : Fr).add d) (x := (⟨(many : Int) + 1, by omega, by omega⟩ : Many)) rfl hB3 rfl (ea_cons (ev_op (ev_var (Φ := At zI (many : Int)) (v := .int (many : Int)) rfl rfl) ev_int ru_add) ea_nil)) (ev_cb (ea_cons (ev_op (ev_var (Φ := At (zL zN) names) (v := v3) rfl n4.kn.1) (ev_lst (R := zN) ee_nil (Nat.zero_le _)) ru_neD) ea_nil) ra_intB) (Ru2.ex1 fun k hk => ?_)) ea_nil) (by decide) (fun i h => ⟨h.1, by have := h.2.1; omega⟩) fun m H3 hm hm20 e3 n5 => ?_
  · have hk : InR ((many : Int) + 1) k := hk
    have h1 := hk.1
    have h2 := hk.2
    refine Ru2.imp (ru_mul (.inl ⟨by omega, by omega⟩)) fun G v z => ⟨_, ?_, z⟩
    by_cases en : names = []
    · rw [en]
      simp
    · rw [decide_eq_false en]
      simp
      exact ⟨h1, by omega, fun z => absurd z en⟩
  refine ⟨fun i σ' H' => ∃ a7 a8 xs es, σ' = [some (.ref b), some (.int bound), some (.int (many : Int)), some v3, some (.int pl), some (.ref d), some v6, a7, a8, none] ∧ H' d = some (.lst xs) ∧ Paired (zE (hid (d :: F) H')) xs es ∧ es.length ≤ i ∧ (∀ e ∈ es, InR pl e.1 ∧ InR pl e.2.2) ∧ Now ⟨d :: F, some b⟩ [d] H (KAnd (KV (At (zL zN) names) v3) (KV (At (zL zI) bl) v6)) H', ⟨none, none, [], [], rfl, e3.keep (fun z => bd (Option.some.inj z)) e20, .nil, Nat.zero_le _, fun e m => (nomatch m), n5⟩, ?_, ?_, ?_⟩
  · rintro i σ' H' ⟨a7, a8, xs, es, rfl, _, _, _, _, n6⟩
    exact n6.dm
  · rintro i σ' H4 H5 im ⟨a7, a8, xs, es, rfl, hd4, pxs, el, er, n6⟩ sm
    refine g_name ?_
    have nn : names ≠ [] := fun z => by
      have := hm.2.2 z
      omega
    have n7 := n6.go (re.same sm)
    have hd5 : H5 d = some (.lst xs) := sm _ _ hd4
    have pxs5 : Paired (zE (hid (d :: F) H5)) xs es := Paired.mapP pxs fun _ _ z => Stb.up (Same.hid sm) z
    have vis : zL zE (hid F H5) (.ref d) es := ⟨d, xs, rfl, by rw [hid_out dF]; exact hd5, Paired.mapP pxs5 fun _ _ z => Stb.up (hid_sub fun a m => List.mem_cons_of_mem _ m) z⟩
    have n8 := n7.seeB (f := ⟨F, some b⟩) (Φ := At (zL zE) es) db vis
    have hB5 : BagAt H5 b c := (n7.out.2 b rfl).2 c hB
    refine seq_ ?_
    refine s_set n8 (Φ := Som (zL zI) fun l => l ≠ [] ∧ l.length ≤ 100 ∧ ∀ x ∈ l, InR pl x) (ev_op (Φ1 := At (zL (zL zI)) [bl ++ es.map (fun e => e.2.2), upto pl.toNat]) (Φ2 := Som zI fun k => k = 0 ∨ k = 1) (ev_lst (R := zL zI) (ee_cons (ev_op (ev_var (Φ := At (zL zI) bl) (v := v6) rfl n8.kn.1.2) (EvP.is (y := es.map fun e => e.2.2) (ev_lcD (S := zI) n8.kn (ei_list (R := zE) (ev_var (v := .ref d) rfl n8.kn.2)) (by omega) (fun _ => true) (fun e => e.2.2) fun x f' H' u hx hb d e' k' hr' => bnd_name ⟨rfl, et_yes, fun _ => ev_op (ev_var (Φ := At zE x) rfl hr') ev_int ru_ix32⟩) (by rw [filter_yes])) (ru_cat (by rw [List.length_map]; omega))) (ee_cons (ev_listRg (by omega) (EvP.is (y := ((pl.toNat : Nat) : Int)) (ev_var (Φ := At zI pl) (v := .int pl) rfl rfl) plN.symm)) ee_nil)) (by show 2 ≤ 100000; decide)) (ev_cb (ea_cons (Φ := Som zB fun _ => True) (ev_op (ev_callB (f := ⟨F, some b⟩) (x := (⟨4, by decide, by decide⟩ : Many)) rfl hB5 rfl (ea_cons ev_int ea_nil)) ev_int (Ru2.ex1 fun k _ => Ru2.imp ru_eqI fun G v z => ⟨_, trivial, z⟩)) ea_nil) (RuA.ex fun y _ => RuA.imp ra_intB fun G v z => ⟨_, by cases y <;> simp, z⟩)) (Ru2.ex2 fun k hk => ?_)) fun v8 H6 e6 n9 => ?_
    · have mapne : bl ++ es.map (fun e => e.2.2) ≠ [] := fun z => bl0 (List.append_eq_nil_iff.mp z).1
      rcases hk with rfl | rfl
      · refine Ru2.imp (ru_ixL (x := bl ++ es.map (fun e => e.2.2)) (by decide) rfl) fun G v z => ⟨_, ⟨mapne, ?_, fun x hx => ?_⟩, z⟩
        · rw [List.length_append, List.length_map]
          omega
        · rcases List.mem_append.mp hx with hx | hx
          · exact blr x hx
          · obtain ⟨e, he, rfl⟩ := List.mem_map.mp hx
            exact (er e he).2
      · refine Ru2.imp (ru_ixL (x := upto pl.toNat) (by decide) rfl) fun G v z => ⟨_, ⟨fun z => ?_, ?_, fun x hx => ?_⟩, z⟩
        · have := congrArg List.length z
          rw [upto_length] at this
          have : pl.toNat = 0 := this
          omega
        · rw [upto_length]
          omega
        · have := mem_upto.mp hx
          exact ⟨this.1, by have := this.2; omega⟩
    obtain ⟨ends, ⟨en0, enl, enr⟩, hv8⟩ := id n9.kn.2
    have n10 := n9.know (K' := KAnd (KV (At (zL zN) names) v3) (KV (At (zL zI) ends) v8)) ⟨n9.kn.1.1.1, hv8⟩
    have n11 := n7.go e6
    have hd6 : H6 d = some (.lst xs) := e6.keep (fun z => bd (Option.some.inj z)) hd5
    have hB6 := (n10.out.2 b rfl).2 c hB
    have pxs6 : Paired (zE (hid (d :: F) H6)) xs es := Paired.mapP pxs5 fun _ _ z => Stb.up (e6.known (f := (⟨F, some b⟩ : Fr).add d) n7.dm.bag) z
    have ep : 0 < ends.length := List.length_pos_iff.mpr en0
    have np : 0 < names.length := List.length_pos_iff.mpr nn
    refine nx_ ?_
    refine ⟨.ref d, rfl, .inl ⟨rfl, xs, SqL.of hd6⟩, ?_⟩
    refine (EvP.imp (Φ' := Som zE fun e => InR pl e.1 ∧ InR pl e.2.2) (ev_tup3P (Φ1 := Som zI (InR pl)) (Φ2 := Som zN fun _ => True) (Φ3 := Som zI (InR pl)) (ev_op (ev_var (Φ := At (zL zI) ends) (v := v8) rfl n10.kn.2) (ev_callB (f := ⟨F, some b⟩) (x := (⟨(ends.length : Int), by omega, by omega⟩ : Many)) rfl hB6 rfl (ea_cons (ev_cb (ea_cons (ev_var (Φ := At (zL zI) ends) (v := v8) rfl n10.kn.2) ea_nil) ra_lenL) ea_nil)) (Ru2.ex2 fun k hk => ?_)) (ev_op (ev_var (Φ := At (zL zN) names) (v := v3) rfl n10.kn.1) (ev_callB (f := ⟨F, some b⟩) (x := (⟨(names.length : Int), by omega, by omega⟩ : Many)) rfl hB6 rfl (ea_cons (ev_cb (ea_cons (ev_var (Φ := At (zL zN) names) (v := v3) rfl n10.kn.1) ea_nil) ra_lenL) ea_nil)) (Ru2.ex2 fun k hk => ?_)) (ev_callB (f := ⟨F, some b⟩) (x := (⟨pl, by omega, by omega⟩ : Many)) rfl hB6 rfl (ea_cons (ev_var (Φ := At zI pl) (v := .int pl) rfl rfl) ea_nil))) fun G v hv => ?_) H6 (re.refl _) n10.dm _ fun v H7 e7 hv => ?_
    · have hk : InR (ends.length : Int) k := hk
      have h1 := hk.1
      have h2 := hk.2
      have lt : k.toNat < ends.length := by omega
      exact Ru2.imp (ru_ixL (x := ends[k.toNat]) h1 (List.getElem?_eq_getElem lt)) fun G v z => ⟨_, enr _ (List.getElem_mem lt), z⟩
    · have hk : InR (names.length : Int) k := hk
      have h1 := hk.1
      have h2 := hk.2
      have lt : k.toNat < names.length := by omega
      exact Ru2.imp (ru_ixL (x := names[k.toNat]) h1 (List.getElem?_eq_getElem lt)) fun G v z => ⟨_, trivial, z⟩
    · obtain ⟨a, u, w, z, rfl, ha, ⟨x, hx, p1⟩, ⟨y, _, p2⟩, t, ht, p3⟩ := hv
      exact ⟨(x, y, t), ⟨hx, ht⟩, a, u, w, z, rfl, ha, p1, p2, p3⟩
    obtain ⟨e, he, hv⟩ := hv
    have hd7 : H7 d = some (.lst xs) := e7.keep (fun z => bd (Option.some.inj z)) hd6
    have pxs7 : Paired (zE (hid (d :: F) H7)) xs es := Paired.mapP pxs6 fun _ _ z => Stb.up (e7.known (f := (⟨F, some b⟩ : Fr).add d) n11.dm.bag) z
    have n12 := n11.go e7
    have xl := Paired.length pxs7
    refine ⟨d, xs, v, rfl, rfl, hd7, Nat.lt_of_le_of_lt (by omega : xs.length ≤ 100000) (by decide), ?_⟩
    refine ⟨_, _, _, es ++ [e], rfl, upd_same, ?_, ?_, fun e' h' => ?_, n12.upd List.mem_cons_self⟩
    · rw [hid_upd List.mem_cons_self]
      exact pair_app pxs7 (.cons (zE_hid hd7 hv) .nil)
    · rw [List.length_append, List.length_singleton]
      omega
    · rcases List.mem_append.mp h' with h' | h'
      · exact er e' h'
      · rw [List.mem_singleton.mp h']
        exact he
  · rintro σ' H4 ⟨a7, a8, xs, es, rfl, hd4, pxs, el, er, n6⟩
    have vis : zL zE (hid F H4) (.ref d) es := ⟨d, xs, rfl, by rw [hid_out dF]; exact hd4, Paired.mapP pxs fun _ _ z => Stb.up (hid_sub fun a m => List.mem_cons_of_mem _ m) z⟩
    have n7 := n6.seeB (f := ⟨F, some b⟩) (Φ := At (zL zE) es) db vis
    have nms := names_lst vis
    have hm1 := hm.2.1
    refine nx_ ?_
    refine s_ret n7 (ev_tup3 (R := zI) (S := zL zI) (T := zL zE) (x := pl) (y := canon bl) (z := canon es) (ev_var (Φ := At zI pl) (v := .int pl) rfl rfl) (ev_cb (ea_cons (ev_cb (ea_cons (ev_var (Φ := At (zL zI) bl) (v := v6) rfl n7.kn.1.2) ea_nil) (ra_setI (by omega))) ea_nil) ra_sortedIK) (ev_cb (ea_cons (ev_cb (ea_cons (ev_var (Φ := At (zL zE) es) (v := .ref d) rfl n7.kn.2) ea_nil) (ra_setM (by omega))) ea_nil) (ra_sortedK nms fun k => Iff.rfl))) fun v9 H5 e5 n8 => ?_
    have cl := canon_len es
    exact kk v9 H5 n8.out ⟨⟨pl, canon bl, canon es⟩, ⟨hpl.1, hpl.2, canon_ne bl0, fun x hx => blr x (mem_canon.mp hx), fun e he => er e (mem_canon.mp he), asc_canon _, asc_canon _, by show (canon es).length ≤ many; omega⟩, n8.kn.2⟩
end
end FF
namespace FF
open PySem PySem.Spec PyProof.Rows L2
section
variable {P : Program} {w : World} {K : PySem.W.Frag} {mg : Str → Option Value} {base : Heap} {C : Addr}
abbrev s__law_reached : Stmt := topS 41
abbrev N__law_reached : List Str := ["_law_parts", "_law_found", "_law_turn", "_law_m", "_law_name", "_law_n"]
abbrev P__law_reached : List Str := ["_law_parts"]
theorem sc__law_reached : FnScope N__law_reached P__law_reached (C8.fnScope s__law_reached) := C8.fnScope_by (by decide +kernel)
abbrev sp_law_reached : Sp := SpP (ι := PDo) (fun x => ACons (At zPt x.1) ANil) (fun x => At (zL zI) (reachL x.1))
theorem ok_law_reached {f : Addr} {fd : FuncData} (F : C8.Def K mg "_law_reached" s__law_reached f fd) (b : L2.Binds K fd P__law_reached []) (T : Txt K mg C) : C8.Cal P w K mg base 1 "_law_reached" sp_law_reached [] := by
  refine C8.cal0 F b .nil sc__law_reached (spP_len fun x G vs h => alS h fun _ h => al0 h) (fun cdv A outer s H vs Q E hr h => ?_)
  obtain ⟨⟨x, ok⟩, F, hF, ⟨v, r, rfl, p, rfl⟩, kk⟩ := h
  have hu := hu_of hr
  refine ⟨_, (pss_cons (ps_set (i := 1) sc__law_reached.nd rfl (.inr rfl) (pe_callTy call_list_of (by rfl) T.m_list (by decide +kernel) (pa_cons (pe_ix ix_tup (pv 0) pe_int (fun _ _ => rfl)) pa_nil))) (pss_cons (ps_for PassesOwn.never rfl (pi_range1 (by rfl) T.m_range (pa_cons (pe_ix ix_tup (pv 0) pe_int (fun _ _ => rfl)) pa_nil)) (pg_name (i := 2) sc__law_reached.nd rfl (.inl rfl)) (pss_one (ps_set (i := 1) sc__law_reached.nd rfl (.inr rfl) (pe_op op_cat (pv 1) (pe_lc (own := [("_law_m", 3), ("_law_name", 4), ("_law_n", 5)]) rfl sc__law_reached.nd (pi_list (pe_ix ix_tup (pv 0) pe_int (fun _ _ => rfl))) (blkOk_by (own := [("_law_m", 3), ("_law_name", 4), ("_law_n", 5)]) (N := N__law_reached) (sc := C8.fnScope s__law_reached) (by decide +kernel)) (fun _ _ _ _ _ => (pg_tupK (n := 3) blkK (by rfl) (pgs_cons (pg_name (i := 3) sc__law_reached.nd rfl (.inl rfl)) (pgs_cons (pg_name (i := 4) sc__law_reached.nd rfl (.inl rfl)) (pgs_cons (pg_name (i := 5) sc__law_reached.nd rfl (.inl rfl)) pgs_nil))))) (fun _ _ _ _ _ => (pts_one (PW.pt (pw_and (pt_cmpR (op_in_seqK blkK) (pv 3) (pv 1) (by rfl)) (pw_and1 (pt_cmpR (op_notIn_seqK blkK) (pv 5) (pv 1) (by rfl))))))) (fun _ _ _ _ _ => (pv 5))))))) (pss_one (ps_ret (pe_callB (cr_sortedSet rfl) (by rfl) T.m_sorted (by decide +kernel) (pa_cons (pe_callTy (cr_setI rfl) (by rfl) T.m_set (by decide +kernel) (pa_cons (pv 1) pa_nil)) pa_nil)))))), ?_⟩
  have n : Now ⟨F, none⟩ [] H (KV (At zPt x) v) H := Now.start (dmP hF) p
  have few := ok.few
  have p1 := ok.p1
  have p9 := ok.p9
  have plN : ((x.pl.toNat : Nat) : Int) = x.pl := by omega
  refine seq_ (s_set n (Φ := At (zL zI) x.bg) (ev_cb (ea_cons (ev_pt1 (ev_var (v := v) rfl n.kn)) ea_nil) ra_listOf) fun v1 H1 e1 n1 => ?_)
  refine nx_ (seq_ ?_)
  refine s_for n1 (ei_range (n := x.pl.toNat) (by omega) (ea_cons (EvP.is (ev_pt0 (ev_var (v := v) rfl n1.kn.1)) plN.symm) ea_nil)) fun Kn H2 sKn e2 n2 => ?_
  refine ⟨fun i σ' H' => ∃ u1 a2 l, σ' = [some v, some u1, a2, none, none, none] ∧ Rea x i l ∧ Now ⟨F, none⟩ [] H (KAnd (KAnd (KV (At zPt x) v) (KV (At (zL zI) l) u1)) Kn) H', ⟨v1, none, x.bg, rfl, .start ok.b0, n2⟩, ?_, ?_, ?_⟩
  · rintro i σ' H' ⟨u1, a2, l, rfl, _, n3⟩
    exact ⟨n3.dm, n3.kn.2⟩
  · rintro i y u σ' H3 H4 hy ⟨u1, a2, l, rfl, re, n3⟩ sm hu'
    have n4 := n3.go (FF.re.same sm)
    have rl := re.len
    refine g_name ?_
    refine s_set n4 (Φ := At (zL zI) (nextL x l)) (ev_op (ev_var (Φ := At (zL zI) l) (v := u1) rfl n4.kn.1.2) (ev_lcD (S := zI) n4.kn (ei_list (R := zE) (ev_pt2 (ev_var (v := v) rfl n4.kn.1.1))) (by omega) (fun e => decide (e.1 ∈ l) && !decide (e.2.2 ∈ l)) (fun e => e.2.2) fun e f' H' u2 he hb dm' e' k' hr' => bnd_tup3 hr' fun w1 w2 w3 h1 h2 h3 => ⟨rfl, et_and (et_B1 (ev_op (ev_var (Φ := At zI e.1) rfl h1) (ev_var (Φ := At (zL zI) l) (v := u1) rfl k'.1.2) ru_inI)) fun _ => et_B1 (ev_op (ev_var (Φ := At zI e.2.2) rfl h3) (ev_var (Φ := At (zL zI) l) (v := u1) rfl k'.1.2) ru_notInI), fun _ => ev_var (Φ := At zI e.2.2) rfl h3⟩) (ru_cat (by
      rw [List.length_map]
      have := List.length_filter_le (fun e : E3 => decide (e.1 ∈ l) && !decide (e.2.2 ∈ l)) x.ed
      omega))) fun v5 H5 e5 n5 => ?_
    exact ⟨v5, _, nextL x l, rfl, re.next, n5.know ⟨⟨n5.kn.1.1.1, n5.kn.2⟩, n5.kn.1.2⟩⟩
  · rintro σ' H3 ⟨u1, a2, l, rfl, re, n3⟩
    rw [upto_length] at re
    have rl := re.len
    refine nx_ ?_
    refine s_ret n3 (EvP.is (y := reachL x) (ev_cb (ea_cons (ev_cb (ea_cons (ev_var (Φ := At (zL zI) l) (v := u1) rfl n3.kn.1.2) ea_nil) (ra_setI (by omega))) ea_nil) ra_sortedIK) (re.done ok)) fun v6 H4 e4 n4 => ?_
    exact kk v6 H4 n4.pure n4.kn.2
abbrev s__law_fellows : Stmt := topS 43
abbrev N__law_fellows : List Str := ["_law_ways_here", "_law_place", "_law_name", "_law_k", "_law_other"]
abbrev P__law_fellows : List Str := ["_law_ways_here", "_law_place", "_law_name"]
theorem sc__law_fellows : FnScope N__law_fellows P__law_fellows (C8.fnScope s__law_fellows) := C8.fnScope_by (by decide +kernel)
theorem ok_law_fellows {f : Addr} {fd : FuncData} (F : C8.Def K mg "_law_fellows" s__law_fellows f fd) (b : L2.Binds K fd P__law_fellows []) (T : Txt K mg C) : C8.Cal P w K mg base 1 "_law_fellows" sp_fellows [] := by
  refine C8.cal0 F b .nil sc__law_fellows (spP_len fun x G vs h => alS h fun _ h => alS h fun _ h => alS h fun _ h => al0 h) (fun cdv A outer s H vs Q E hr h => ?_)
  obtain ⟨⟨⟨wl, n0, s0⟩, ow, hn⟩, F, hF, ⟨v, r, rfl, p, v2, r2, rfl, p2, v3, r3, rfl, p3, rfl⟩, k⟩ := h
  have hu := hu_of hr
  refine ⟨_, (pss_one (ps_ret (pe_lc (own := [("_law_k", 3), ("_law_other", 4)]) rfl sc__law_fellows.nd (pi_list (pe_dget hu (pv 0) (pv 1) (fun _ _ => rfl))) (blkOk_by (own := [("_law_k", 3), ("_law_other", 4)]) (N := N__law_fellows) (sc := C8.fnScope s__law_fellows) (by decide +kernel)) (fun _ _ _ _ _ => (pg_tupK (n := 2) blkK (by rfl) (pgs_cons (pg_name (i := 3) sc__law_fellows.nd rfl (.inl rfl)) (pgs_cons (pg_name (i := 4) sc__law_fellows.nd rfl (.inl rfl)) pgs_nil)))) (fun _ _ _ _ _ => (pts_one (pt_cmpR op_eq (pv 4) (pv 2) (nomark _)))) (fun _ _ _ _ _ => (pv 3))))), ?_⟩
  have n : Now ⟨F, none⟩ [] H (KAnd (KV (At zW wl) v) (KAnd (KV (At zI n0) v2) (KV (At zN s0) v3))) H := Now.start (dmP hF) ⟨p, p2, p3⟩
  obtain ⟨l, hl⟩ := valD_some (l := wl) (b := n0) hn
  refine s_ret n (EvP.is (y := fellowsL wl n0 s0) (ev_lcD (S := zI) n.kn (ei_list (ev_dget get_I (ev_var rfl n.kn.1) (ev_var rfl n.kn.2.1) hl)) ?_ (fun q => decide (q.2 = s0)) (fun q => q.1) fun q f' H2 u hq hb d e k' hr' => bnd_tup2 hr' fun t u3 u4 _ _ h1 h2 => ⟨rfl, et_B1 (ev_op (ev_var rfl (nm_str h2)) (ev_var rfl (nm_str k'.2.2)) ru_eqS), fun _ => ev_var rfl h1⟩) ?_) fun v H2 e2 n2 => ?_
  · have := ow _ (valD_mem hl)
    show l.length ≤ 100000
    have h1 : l.length ≤ 1000 := this
    omega
  · unfold fellowsL
    rw [hl]
    rfl
  · exact k v H2 n2.pure n2.kn.2
abbrev s__law_parts_of : Stmt := topS 46
abbrev N__law_parts_of : List Str := ["_law_program_here"]
abbrev P__law_parts_of : List Str := ["_law_program_here"]
theorem sc__law_parts_of : FnScope N__law_parts_of P__law_parts_of (C8.fnScope s__law_parts_of) := C8.fnScope_by (by decide +kernel)
abbrev sp_law_parts_of (C : Addr) : Sp := SpP (ι := PD) (fun x => ACons (At (zPr C) x) ANil) (fun x => At zPt x)
theorem ok_law_parts_of {f : Addr} {fd : FuncData} (F : C8.Def K mg "_law_parts_of" s__law_parts_of f fd) (b : L2.Binds K fd P__law_parts_of []) (T : Txt K mg C) (c_places : ProC P w K mg base 1 C "places" (sp_places C)) (c_begins : C8.Met P w K mg base 1 C "begins" (sp_begins C) []) (c_edges : C8.Met P w K mg base 1 C "edges" (sp_edges C) []) : C8.Cal P w K mg base 3 "_law_parts_of" (sp_law_parts_of C) [] := by
  refine C8.cal0 F b .nil sc__law_parts_of (spP_len fun x G vs h => alS h fun _ h => al0 h) (fun cdv A outer s H vs Q E hr h => ?_)
  obtain ⟨x, F, hF, ⟨v, r, rfl, p, rfl⟩, k⟩ := h
  have hu := hu_of hr
  refine ⟨_, (pss_one (ps_ret (pe_tup (pa_cons (pe_pr c_places hr (by decide) (pv 0)) (pa_cons (C8.pe_mt0 c_begins hr (by decide) (pv 0)) (pa_cons (C8.pe_mt0 c_edges hr (by decide) (pv 0)) pa_nil)))))), ?_⟩
  have n : Now ⟨F, none⟩ [] H (KV (At (zPr C) x) v) H := Now.start (dmP hF) p
  refine s_ret n (ev_tup3 (R := zI) (S := zL zI) (T := zL zE) (x := x.pl) (y := x.bg) (z := x.ed) (ev_prop (x := x) (ev_var (Φ := At (zPr C) x) rfl n.kn) ins_at fun G v h => ⟨v, [], rfl, h, rfl⟩) (ev_meth (x := x) (ev_var (Φ := At (zPr C) x) rfl n.kn) (ins_of rfl) ea_nil fun G v vs h1 h2 => ⟨v, vs, rfl, h1, h2⟩) (ev_meth (x := x) (ev_var (Φ := At (zPr C) x) rfl n.kn) (ins_of rfl) ea_nil fun G v vs h1 h2 => ⟨v, vs, rfl, h1, h2⟩)) fun v H1 e n1 => ?_
  exact k v H1 n1.pure n1.kn.2
abbrev s__law_same_size : Stmt := topS 49
abbrev N__law_same_size : List Str := ["_law_one", "_law_other", "_law_sizes", "_law_some_here"]
abbrev P__law_same_size : List Str := ["_law_one", "_law_other"]
theorem sc__law_same_size : FnScope N__law_same_size P__law_same_size (C8.fnScope s__law_same_size) := C8.fnScope_by (by decide +kernel)
abbrev sp_law_same_size (C : Addr) : Sp := SpP (ι := PD × PD) (fun x => ACons (At (zPr C) x.1) (ACons (At (zPr C) x.2) ANil)) (fun x => At zB (decide (sizeP x.1 = sizeP x.2)))
theorem ok_law_same_size {f : Addr} {fd : FuncData} (F : C8.Def K mg "_law_same_size" s__law_same_size f fd) (b : L2.Binds K fd P__law_same_size []) (T : Txt K mg C) (c_places : ProC P w K mg base 1 C "places" (sp_places C)) (c_begins : C8.Met P w K mg base 1 C "begins" (sp_begins C) []) (c_edges : C8.Met P w K mg base 1 C "edges" (sp_edges C) []) : C8.Cal P w K mg base 3 "_law_same_size" (sp_law_same_size C) [] := by
  refine C8.cal0 F b .nil sc__law_same_size (spP_len fun x G vs h => alS h fun _ h => alS h fun _ h => al0 h) (fun cdv A outer s H vs Q E hr h => ?_)
  obtain ⟨⟨x, y⟩, F, hF, ⟨v, r, rfl, p, v2, r2, rfl, p2, rfl⟩, k⟩ := h
  have hu := hu_of hr
  refine ⟨_, (pss_cons (ps_setLc (i := 2) (own := [("_law_some_here", 3)]) rfl sc__law_same_size.nd rfl rfl (sw_true rfl rfl rfl (by decide +kernel)) (pi_tup (pe_tup (pa_cons (pv 0) (pa_cons (pv 1) pa_nil)))) (blkOk_by (own := [("_law_some_here", 3)]) (N := N__law_same_size) (sc := C8.fnScope s__law_same_size) (by decide +kernel)) (fun _ _ _ _ _ => (pg_name (i := 3) sc__law_same_size.nd rfl (.inl rfl))) (fun _ _ _ _ _ => pts_nil) (fun _ _ _ _ _ => (pe_tup (pa_cons (pe_pr c_places hr (by decide) (pv 3)) (pa_cons (pe_callB (call_len_seqK blkK) (by rfl) T.m_len (by decide +kernel) (pa_cons (C8.pe_mt0 c_begins hr (by decide) (pv 3)) pa_nil)) (pa_cons (pe_callB (call_len_seqK blkK) (by rfl) T.m_len (by decide +kernel) (pa_cons (C8.pe_mt0 c_edges hr (by decide) (pv 3)) pa_nil)) pa_nil)))))) (pss_one (ps_ret (pe_cmpR (op_eqD hr.units) (pe_ix ix_list (pv 2) pe_int (fun _ _ => rfl)) (pe_ix ix_list (pv 2) pe_int (fun _ _ => rfl)) (nomark _))))), ?_⟩
  have n : Now ⟨F, none⟩ [] H (KAnd (KV (At (zPr C) x) v) (KV (At (zPr C) y) v2)) H := Now.start (dmP hF) ⟨p, p2⟩
  refine seq_ (s_set n (Φ := At (zL (zT3 zI zI zI)) [sizeP x, sizeP y]) (EvP.is (ev_lcD (S := zT3 zI zI zI) n.kn (ei_tup2 (R := zPr C) (x := x) (y := y) (ev_tup2 (ev_var (Φ := At (zPr C) x) rfl n.kn.1) (ev_var (Φ := At (zPr C) y) rfl n.kn.2))) (by show 2 ≤ 100000; decide) (fun _ => true) sizeP fun q f' H' u hq hb dm' e' k' hr' => bnd_name ⟨rfl, et_yes, fun _ => ev_tup3 (R := zI) (S := zI) (T := zI) (x := q.pl) (y := (q.bg.length : Int)) (z := (q.ed.length : Int)) (ev_prop (x := q) (ev_var (Φ := At (zPr C) q) rfl hr') ins_at fun G v h => ⟨v, [], rfl, h, rfl⟩) (ev_cb (ea_cons (ev_meth (x := q) (ev_var (Φ := At (zPr C) q) rfl hr') (ins_of rfl) ea_nil fun G v vs h1 h2 => ⟨v, vs, rfl, h1, h2⟩) ea_nil) ra_lenL) (ev_cb (ea_cons (ev_meth (x := q) (ev_var (Φ := At (zPr C) q) rfl hr') (ins_of rfl) ea_nil fun G v vs h1 h2 => ⟨v, vs, rfl, h1, h2⟩) ea_nil) ra_lenL)⟩) (by rw [filter_yes]; rfl)) fun v3 H1 e1 n1 => ?_)
  refine nx_ ?_
  refine s_ret n1 (ev_op (ev_op (ev_var (Φ := At (zL (zT3 zI zI zI)) [sizeP x, sizeP y]) (v := v3) rfl n1.kn.2) ev_int (ru_ixL (x := sizeP x) (by decide) rfl)) (ev_op (ev_var (Φ := At (zL (zT3 zI zI zI)) [sizeP x, sizeP y]) (v := v3) rfl n1.kn.2) ev_int (ru_ixL (x := sizeP y) (by decide) rfl)) ru_eqD) fun v4 H2 e2 n2 => ?_
  exact k v4 H2 n2.pure n2.kn.2
end
end FF
namespace FF
open PySem PySem.Spec PyProof.Rows L2
theorem merge_new : ∀ (more acc : List (Key × V)), ((acc ++ more).map (·.1)).Nodup → mergeK acc more = acc ++ more
  | [], acc, _ => (List.append_nil acc).symm
  | p :: r, acc, nd => by
    have h1 : valV acc p.1 = none := valV_none fun q hq e => by
      rw [List.map_append] at nd
      exact (List.nodup_append.mp nd).2.2 q.1 (List.mem_map.mpr ⟨q, hq, rfl⟩) p.1 (by rw [List.map_cons]; exact List.mem_cons_self) e
    show mergeK (putK acc p.1 p.2) r = _
    rw [putK_new _ h1, merge_new r (acc ++ [(p.1, p.2)]) (by rw [List.append_assoc]; exact nd), List.append_assoc]
    rfl
/-- dict(xs), the keys whole numbers -/
def rDictI (K : PySem.W.Frag) : List V → Hp → VK → Prop := fun xs H Q => ∃ (a : Addr) (ps : List Addr) (kvs : List (Key × V)), xs = [.ref a] ∧ SqL K H a (ps.map V.ref) ∧ Paired (fun p kv => SqT K H p [kV kv.1, kv.2]) ps kvs ∧
    ∀ p, H p = none → Q (.ref p) (upd H p (.dK (mergeK [] kvs)))
section
variable {γ : Type} {S : Rep γ} {G : Hp}
theorem pairs_I : ∀ {xs : List V} {l : List (Int × γ)}, Paired (zT2 zI S G) xs l → ∃ (ps : List Addr) (kvs : List (Key × V)), xs = ps.map V.ref ∧ Paired (fun p (kv : Key × V) => G p = some (.tup [kV kv.1, kv.2])) ps kvs ∧ Paired (fun (kv : Key × V) (p : Int × γ) => kv.1 = kI p.1 ∧ S G kv.2 p.2) kvs l
  | _, _, .nil => ⟨[], [], rfl, .nil, .nil⟩
  | _, _, .cons (b := x) h t => by
    obtain ⟨ps, kvs, rfl, h1, h2⟩ := pairs_I t
    obtain ⟨a, u, w, rfl, ha, hu, hw⟩ := h
    obtain rfl : u = .int x.1 := hu
    exact ⟨a :: ps, (kI x.1, w) :: kvs, rfl, .cons ha h1, .cons ⟨rfl, hw⟩ h2⟩
theorem pairs_P : ∀ {xs : List V} {l : List ((Int × Int) × γ)}, Paired (zT2 zP2 S G) xs l → ∃ rows : List PRow, xs = rows.map (fun r => V.ref r.1) ∧ (∀ r ∈ rows, G r.1 = some (.tup [.ref r.2.2.1, r.2.2.2])) ∧ (∀ r ∈ rows, G r.2.2.1 = some (.tup (r.2.1.map kV))) ∧
    Paired (fun (kv : List Key × V) (p : (Int × Int) × γ) => kv.1 = kP p.1 ∧ S G kv.2 p.2) (rows.map fun r => (r.2.1, r.2.2.2)) l
  | _, _, .nil => ⟨[], rfl, fun r h => (nomatch h), fun r h => (nomatch h), .nil⟩
  | _, _, .cons (b := x) h t => by
    obtain ⟨rows, rfl, h1, h2, h3⟩ := pairs_P t
    obtain ⟨a, u, w, rfl, ha, ⟨k, i, j, rfl, hk, hi, hj⟩, hw⟩ := h
    obtain rfl : i = .int x.1.1 := hi
    obtain rfl : j = .int x.1.2 := hj
    refine ⟨(a, kP x.1, k, w) :: rows, rfl, fun r m => ?_, fun r m => ?_, .cons ⟨rfl, hw⟩ h3⟩
    · rcases List.mem_cons.mp m with rfl | m
      · exact ha
      · exact h1 r m
    · rcases List.mem_cons.mp m with rfl | m
      · exact hk
      · exact h2 r m
end
section
variable {f : Fr} {σ : L2.St} {H : Hp} {te : TE} {γ : Type} {S : Rep γ} [Stb S] {Kf : PySem.W.Frag}
theorem keys_enc {κ β γ : Type} {enc : β → κ} {S : V → γ → Prop} {kvs : List (κ × V)} {l : List (β × γ)} (h : Paired (fun (kv : κ × V) (p : β × γ) => kv.1 = enc p.1 ∧ S kv.2 p.2) kvs l) : kvs.map (·.1) = (l.map (·.1)).map enc := keys_map h
theorem nodup_enc {κ β : Type} {enc : β → κ} (inj : ∀ a b, enc a = enc b → a = b) {l : List β} (nd : l.Nodup) : (l.map enc).Nodup := List.pairwise_map.mpr (List.Pairwise.imp (fun h e => h (inj _ _ e)) nd)
theorem en_dictI {l : List (Int × γ)} (h : EvP f te σ H (At (zL (zT2 zI S)) l)) (nd : (l.map (·.1)).Nodup) : EvN f (tCB (rDictI Kf) (tCons te tNil)) σ H (At (zUI S) l) := en_cb (ea_cons h ea_nil) fun H1 vs e d ⟨v, r, e1, p, e2⟩ Q q => by
  obtain rfl : r = [] := e2
  obtain ⟨a, xs, rfl, ha, hp⟩ := p
  obtain ⟨ps, kvs, rfl, hk, hs⟩ := pairs_I hp
  have em : mergeK [] kvs = kvs := merge_new kvs [] (by
    rw [List.nil_append, keys_enc hs]
    exact nodup_enc put_I.inj nd)
  refine ⟨a, ps, kvs, e1, SqL.of (hid_same _ _ ha), Paired.mapP hk fun _ _ z => SqT.of (hid_same _ _ z), fun n hn => ?_⟩
  rw [em]
  exact q n _ hn (re.same (same_new hn)) ⟨n, kvs, rfl, hid_new d hn, Paired.mapP hs fun _ _ z => ⟨z.1, Stb.up (up_new hn) z.2⟩⟩
theorem en_dictP {l : List ((Int × Int) × γ)} (h : EvP f te σ H (At (zL (zT2 zP2 S)) l)) (nd : (l.map (·.1)).Nodup) : EvN f (tCB (rDictT Kf) (tCons te tNil)) σ H (At (zUP S) l) := en_cb (ea_cons h ea_nil) fun H1 vs e d ⟨v, r, e1, p, e2⟩ Q q => by
  obtain rfl : r = [] := e2
  obtain ⟨a, xs, rfl, ha, hp⟩ := p
  obtain ⟨rows, rfl, h1, h2, h3⟩ := pairs_P hp
  refine ⟨a, rows, e1, SqL.of (hid_same _ _ ha), fun r m => SqT.of (hid_same _ _ (h1 r m)), fun r m => hid_same _ _ (h2 r m), ?_, fun n hn => q n _ hn (re.same (same_new hn)) ⟨n, _, rfl, hid_new d hn, Paired.mapP h3 fun _ _ z => ⟨z.1, Stb.up (up_new hn) z.2⟩⟩⟩
  have : rows.map (·.2.1) = (rows.map fun r => (r.2.1, r.2.2.2)).map (·.1) := by rw [List.map_map]; rfl
  rw [this, keys_enc h3]
  exact nodup_enc put_P.inj nd
end
section
variable {f : Fr} {L : List Addr} {K K' : Hp → Prop} {H H0 H1 : Hp} {qs : List Addr}
theorem same_hide {F : List Addr} (h : ∀ q ∈ qs, H q = none) (s : Same (hid F H) (hid F H1)) : Same (hid F H) (hid (qs ++ F) H1) := fun a o z => by
  have m := (hid_some z).1
  have z1 := hid_some (s a o z)
  have z2 := (hid_some z).2
  rw [hid_out fun y => (List.mem_append.mp y).elim (fun y => by rw [h a y] at z2; cases z2) m]
  exact z1.2
theorem Now.owns [StH K] (n : Now f L H0 K H) (h : ∀ q ∈ qs, H q = none) (e : re f.b H H1) (h1 : ∀ q ∈ qs, Loc H1 q) : Now ⟨qs ++ f.F, f.b⟩ (qs ++ L) H0 K H1 where
  rel := by
    refine n.rel.trans ?_
    have nb : ∀ a ∈ qs, f.b ≠ some a := fun a m z => n.dm.new (h a m) (n.dm.bag _ z)
    have e1 : re f.b (hid (qs ++ L) H) (hid (qs ++ L) H1) := e.hid fun a m => (List.mem_append.mp m).elim (nb a) fun m => (n.lf a m).2
    have e2 : hid (qs ++ L) H = hid L H := by
      funext a
      by_cases m : a ∈ L
      · rw [hid_in m, hid_in (List.mem_append_right _ m)]
      · by_cases z : a ∈ qs
        · rw [hid_in (List.mem_append_left _ z), hid_out m, h a z]
        · rw [hid_out m, hid_out (fun y => (List.mem_append.mp y).elim z m)]
    rw [e2] at e1
    exact e1
  dm := ⟨fun a m => (List.mem_append.mp m).elim (h1 a) ((n.dm.re e).there a), fun a e => List.mem_append_right _ (n.dm.bag a e)⟩
  lf := fun a m => (List.mem_append.mp m).elim (fun m => ⟨List.mem_append_left _ m, fun z => n.dm.new (h a m) (n.dm.bag _ z)⟩) fun m => ⟨List.mem_append_right _ (n.lf a m).1, (n.lf a m).2⟩
  kn := StH.up (same_hide h (known_up e (n.dm.re e))) n.kn
/-- the local things are seen again -/
theorem Now.seeL {F : List Addr} {b : Option Addr} (n : Now ⟨qs ++ F, b⟩ L H0 K H) [StH K] (db : ∀ a, b = some a → a ∈ F) (k : K' (hid F H)) : Now ⟨F, b⟩ [] H0 (KAnd K K') H :=
  ⟨by rw [hid_nil]; exact n.out, ⟨fun x m => n.dm.there x (List.mem_append_right _ m), db⟩, fun x m => (nomatch m), StH.up (hid_sub fun x m => List.mem_append_right _ m) n.kn, k⟩
end
/-- a place -/
def zA : Rep Addr := fun _ v a => v = .ref a
instance : Stb zA := ⟨fun _ h => h⟩
section
variable {F : List Addr} {σ : L2.St} {H : Hp} {wi : TI} {i : Nat} {vs : List Nat} {ks : List Int}
theorem tYes_of {σ : L2.St} {H : Hp} {A B : Hp → Prop} (h : A H) : tYes σ H fun b H3 => if b = true then A H3 else B H3 := by
  show (if true = true then A H else B H)
  rw [if_pos rfl]
  exact h
/-- what has been made of the first i -/
structure NewLs (F : List Addr) (H0 H : Hp) (D : Addr) (ks : List Int) (i : Nat) (ts : List Addr) (ad : List (Int × Addr)) : Prop where
  keys : ad.map (·.1) = ks.take i
  nd : (ad.map (·.2)).Nodup
  new : ∀ p ∈ ad, H0 p.2 = none ∧ p.2 ≠ D ∧ H p.2 = some (.lst [])
  out : H D = some (.lst (ts.map V.ref))
  tup : Paired (fun t (p : Int × Addr) => H t = some (.tup [.int p.1, .ref p.2])) ts ad
  sm : Same H0 H
/-- [(k, []) for k in ks] -/
theorem tLc_new (hs : EvI ⟨F, none⟩ wi σ H zI ks) (few : ks.length ≤ 100000) (d : Dm ⟨F, none⟩ H) (hw : ∀ v, wipe ((wipe σ vs).set i (some v)) vs = wipe σ vs) (hi : ∀ v, ((wipe σ vs).set i (some v))[i]? = some (some v)) {Q : VK}
    (k : ∀ D H1 ts ad, H D = none → NewLs F H H1 D ks ks.length ts ad → Q (.ref D) H1) : tLc wi (gName i) tYes (tTup (tCons (tVar i) (tCons (tLst tNil) tNil))) vs σ H Q := by
  refine hs H (re.refl _) d _ fun Jt Kn H2 e2 sk wk kn D hD => ?_
  have d2 := d.re e2
  have D0 : H D = none := e2.free hD
  refine ⟨fun j m H' => m = ks.length - j ∧ j ≤ ks.length ∧ ∃ ts ad, NewLs F H H' D ks j ts ad ∧ Dm ⟨D :: F, none⟩ H' ∧ Kn (hid (D :: F) H'), ⟨ks.length, by simp, Nat.zero_le _, [], [], ⟨rfl, List.nodup_nil, fun p h => (nomatch h), upd_same, .nil, ?_⟩, ?_, ?_⟩, ?_⟩
  · exact fun a o z => (same_new hD) a o (e2.pure a o z)
  · exact (d2.re (re.same (same_new hD))).add (Loc.of upd_same fun _ z => by cases z)
  · rw [hid_cons_new hD]; exact kn
  · rintro j m H3 ⟨rfl, hj, ts, ad, N, d3, kn3⟩
    by_cases hlt : j < ks.length
    · refine .inr ⟨wk.go _ _ _ kn3 hlt, fun H' => ∃ ts ad, NewLs F H H' D ks (j + 1) ts ad ∧ Dm ⟨D :: F, none⟩ H' ∧ Kn (hid (D :: F) H'), fun H' z => ⟨ks.length - (j + 1), by omega, rfl, hlt, z⟩, fun x H4 y => ?_⟩
      obtain ⟨z, hz, sm, hr⟩ := wk.yld _ _ _ _ _ d3.there kn3 hlt y
      obtain rfl : x = .int z := hr
      refine g_name ⟨hw _, ?_⟩
      refine tYes_of ?_
      refine ⟨.int z, hi _, Nat.zero_le _, fun q hq => ⟨by show 2 ≤ sizeLine; decide, fun t ht => ?_⟩⟩
      have D4 : H4 D = some (.lst (ts.map V.ref)) := sm _ _ N.out
      have qD : q ≠ D := fun e => by rw [e, D4] at hq; cases hq
      have tq : t ≠ q := fun e => by rw [e, upd_same] at ht; cases ht
      have tD : t ≠ D := fun e => by
        rw [e, upd_ne (Ne.symm qD), D4] at ht
        cases ht
      have H4t : H4 t = none := by rw [upd_ne tq] at ht; exact ht
      have s5 : Same H4 (upd (upd H4 q (.lst [])) t (.tup [.int z, .ref q])) := fun a o e => (same_new ht) a o ((same_new hq) a o e)
      have tk : ks.take (j + 1) = ks.take j ++ [z] := by
        rw [List.take_add_one, hz]; rfl
      have lt : ts.length = j := by
        have h1 := Paired.length N.tup
        have h2 := congrArg List.length N.keys
        rw [List.length_map, List.length_take] at h2
        omega
      refine ⟨ts.map V.ref, s5 _ _ D4, ?_, ts ++ [t], ad ++ [(z, q)], ⟨?_, ?_, fun p hp => ?_, ?_, ?_, ?_⟩, ?_, ?_⟩
      · rw [List.length_map]
        exact Nat.lt_of_le_of_lt (by omega : ts.length ≤ 100000) (by decide)
      · rw [List.map_append, N.keys, tk]
        rfl
      · rw [List.map_append]
        refine List.nodup_append.mpr ⟨N.nd, List.pairwise_singleton _ _, fun a ha b hb e => ?_⟩
        obtain ⟨p, hp, rfl⟩ := List.mem_map.mp ha
        have hb : b = q := List.mem_singleton.mp hb
        have := sm _ _ (N.new p hp).2.2
        rw [e, hb, hq] at this
        cases this
      · rcases List.mem_append.mp hp with hp | hp
        · obtain ⟨n1, n2, n3⟩ := N.new p hp
          refine ⟨n1, n2, ?_⟩
          rw [upd_ne n2]
          exact s5 _ _ (sm _ _ n3)
        · rw [List.mem_singleton.mp hp]
          refine ⟨?_, qD, ?_⟩
          · cases e : H q with
            | none => rfl
            | some o =>
              have := sm _ _ (N.sm _ _ e)
              rw [hq] at this
              cases this
          · show upd _ D _ q = _
            rw [upd_ne qD, upd_ne (Ne.symm tq), upd_same]
      · rw [upd_same, List.map_append]
        rfl
      · have ne : ∀ {a : Addr} {ys : List V}, H4 a = some (.tup ys) → a ≠ D := fun {a ys} e z => by
          rw [z, D4] at e
          cases e
        refine pair_app (Paired.mapP N.tup fun a p e => ?_) (.cons ?_ .nil)
        · have e4 := sm _ _ e
          rw [upd_ne (ne e4)]
          exact s5 _ _ e4
        · rw [upd_ne tD, upd_same]
      · refine fun a o e => ?_
        have : a ≠ D := fun z => by rw [z, D0] at e; cases e
        rw [upd_ne this]
        exact s5 _ _ (sm _ _ (N.sm _ _ e))
      · exact dm_upd ((d3.re (re.same sm)).re (re.same s5))
      · rw [hid_upd List.mem_cons_self]
        exact StH.up (Same.hid s5) (StH.up (Same.hid sm) kn3)
    · have e4 : j = ks.length := by omega
      subst e4
      exact .inl ⟨wk.stop _ _ _ kn3 (Nat.le_refl _), k D H3 ts ad D0 N⟩
end
end FF
namespace FF
open PySem PySem.Spec PyProof.Rows L2
noncomputable def waysC (P : PD) : WayD := (reachL P).map fun n => (n, canon (wayP P n))
theorem valD_waysC {P : PD} {n : Int} (h : n ∈ reachL P) : valD (waysC P) n = some (canon (wayP P n)) := by
  unfold waysC
  exact valD_map (ky := fun n => n) (fn := fun n => canon (wayP P n)) (fun x _ y _ e => e) h
theorem keys_waysC (P : PD) : (waysC P).map (·.1) = reachL P := by
  unfold waysC
  rw [List.map_map]
  exact List.map_id _
theorem okW_waysC {P : PD} (h : OkP P) : OkW (waysC P) := fun p hp => by
  unfold waysC at hp
  obtain ⟨n, _, rfl⟩ := List.mem_map.mp hp
  have h1 := way_len (P := P) n
  have h2 := h.few
  have h3 := canon_len (wayP P n)
  show (canon (wayP P n)).length ≤ 1000
  omega
theorem mem_fellowsC {P : PD} {n l : Int} {s : Str} (h : n ∈ reachL P) : l ∈ fellowsL (waysC P) n s ↔ (l, s) ∈ wayP P n := by
  unfold fellowsL
  rw [valD_waysC h]
  show l ∈ ((canon (wayP P n)).filter _).map _ ↔ _
  rw [List.mem_map]
  constructor
  · rintro ⟨⟨a, b⟩, h1, h2⟩
    obtain ⟨h3, h4⟩ := List.mem_filter.mp h1
    have h4 : b = s := of_decide_eq_true h4
    have h2 : a = l := h2
    subst h4; subst h2
    exact mem_canon.mp h3
  · exact fun h1 => ⟨(l, s), List.mem_filter.mpr ⟨mem_canon.mpr h1, decide_eq_true rfl⟩, rfl⟩
/-- the ways into n among the first i edges -/
noncomputable def wayI (P : PD) (i : Nat) (n : Int) : List (Int × Str) := ((P.ed.take i).filter fun e => decide (e.2.2 = n) && decide (e.1 ∈ reachL P)).map fun e => (e.1, e.2.1)
theorem wayI_all {P : PD} (n : Int) : wayI P P.ed.length n = wayP P n := by
  unfold wayI wayP into
  rw [List.take_length, List.filter_map, List.filter_filter]
  congr 1
  refine List.filter_congr fun e _ => ?_
  show _ = (decide (e.1 ∈ reachL P) && decide (e.2.2 = n))
  rw [Bool.and_comm]
theorem wayI_step {P : PD} {i : Nat} {e : E3} (he : P.ed[i]? = some e) (n : Int) : wayI P (i + 1) n = wayI P i n ++ if e.2.2 = n ∧ e.1 ∈ reachL P then [(e.1, e.2.1)] else [] := by
  have tk : P.ed.take (i + 1) = P.ed.take i ++ [e] := by
    rw [List.take_add_one, he]; rfl
  unfold wayI
  rw [tk, List.filter_append, List.map_append]
  congr 1
  by_cases c : e.2.2 = n ∧ e.1 ∈ reachL P
  · rw [if_pos c, List.filter_cons_of_pos (by rw [decide_eq_true c.1, decide_eq_true c.2]; rfl)]
    rfl
  · rw [if_neg c, List.filter_cons_of_neg (by rw [Bool.and_eq_true, decide_eq_true_eq, decide_eq_true_eq]; exact c)]
    rfl
theorem wayI_len {P : PD} (i : Nat) (n : Int) : (wayI P i n).length ≤ P.ed.length := by
  unfold wayI
  rw [List.length_map]
  refine Nat.le_trans (List.length_filter_le _ _) ?_
  rw [List.length_take]
  exact Nat.min_le_right _ _
theorem way_nodup {P : PD} (ok : OkP P) (n : Int) : (wayP P n).Nodup := by
  unfold wayP into
  refine List.Pairwise.filter _ (map_nodup (List.Pairwise.filter _ (asc_nodup ok.ae)) fun e he e' he' q => ?_)
  have h1 : e.2.2 = n := of_decide_eq_true (List.mem_filter.mp he).2
  have h2 : e'.2.2 = n := of_decide_eq_true (List.mem_filter.mp he').2
  injection q with q1 q2
  exact Prod.ext q1 (Prod.ext q2 (h1.trans h2.symm))
theorem valD_nodup {β γ : Type} [DecidableEq β] {l : List (β × γ)} (nd : (l.map (·.1)).Nodup) {p : β × γ} (h : p ∈ l) : valD l p.1 = some p.2 := valD_of_mem nd h
/-- the lists on the way -/
def ListsI (F : List Addr) (P : PD) (ad : List (Int × Addr)) (i : Nat) (H : Hp) : Prop := ∀ q ∈ ad, ∃ xs, H q.2 = some (.lst xs) ∧ Paired (zPN (hid F H)) xs (wayI P i q.1)
theorem tBM_of {Kf : PySem.W.Frag} {T : String} {r : V → List V → Hp → VK → Prop} {to : TE} {tr : TA} {D : Ends} {σ : L2.St} {H : Hp} (h : to σ H fun x H1 => tyV Kf T x H1 ∧ tr σ H1 fun xs H2 => r x xs H2 fun _ H3 => D.nx σ H3) : tDrop (tBM Kf T r to tr) D σ H := h
theorem pair_lists {γ : Type} {R : V → γ → Prop} {G : Hp} {f : Int → γ} : ∀ {kvs : List (Key × V)} {ad : List (Int × Addr)}, Paired (fun (kv : Key × V) (q : Int × Addr) => kv.1 = kI q.1 ∧ zA G kv.2 q.2) kvs ad → (∀ q ∈ ad, R (.ref q.2) (f q.1)) → Paired (fun (kv : Key × V) (p : Int × γ) => kv.1 = kI p.1 ∧ R kv.2 p.2) kvs (ad.map fun q => (q.1, f q.1))
  | _, _, .nil, _ => .nil
  | _, _, .cons (b := q) h t, l => .cons ⟨h.1, by
    have h2 : _ = V.ref q.2 := h.2
    rw [h2]
    exact l q List.mem_cons_self⟩ (pair_lists t fun q hq => l q (List.mem_cons_of_mem _ hq))
theorem s_cb1 {r : List V → Hp → VK → Prop} {te : TE} {i : Nat} {D : Ends} {σ : L2.St} {H : Hp} (h : te σ H fun v H1 => r [v] H1 fun x H2 => D.nx (σ.set i (some x)) H2) : tAsg (tCB r (tCons te tNil)) (gName i) D σ H := h
section
variable {P : Program} {w : World} {K : PySem.W.Frag} {mg : Str → Option Value} {base : Heap} {C : Addr}
abbrev s__law_ways : Stmt := topS 42
abbrev N__law_ways : List Str := ["_law_parts", "_law_reached_here", "_law_found", "_law_place", "_law_m", "_law_name", "_law_n"]
abbrev P__law_ways : List Str := ["_law_parts"]
theorem sc__law_ways : FnScope N__law_ways P__law_ways (C8.fnScope s__law_ways) := C8.fnScope_by (by decide +kernel)
abbrev sp_law_ways : Sp := SpN (ι := PDo) (fun x => ACons (At zPt x.1) ANil) (fun x => At (zUI (zL zPN)) (waysC x.1))
theorem ok_law_ways {f : Addr} {fd : FuncData} (F : C8.Def K mg "_law_ways" s__law_ways f fd) (b : L2.Binds K fd P__law_ways []) (T : Txt K mg C) (c__law_reached : C8.Cal P w K mg base 1 "_law_reached" sp_law_reached []) : C8.Cal P w K mg base 2 "_law_ways" sp_law_ways [] := by
  refine C8.cal0 F b .nil sc__law_ways (spN_len fun x G vs h => alS h fun _ h => al0 h) (fun cdv A outer s H vs Q E hr h => ?_)
  obtain ⟨⟨x, ok⟩, F, hF, ⟨v, r, rfl, p, rfl⟩, kk⟩ := h
  have hu := hu_of hr
  refine ⟨_, (pss_cons (ps_set (i := 1) sc__law_ways.nd rfl (.inl rfl) (C8.pe_c c__law_reached hr (by decide) rfl (pa_cons (pv 0) pa_nil))) (pss_cons (ps_set (i := 2) sc__law_ways.nd rfl (.inr rfl) (pe_callTy (call_dictP rfl) (by rfl) T.m_dict (by decide +kernel) (pa_cons (pe_lc (own := [("_law_place", 3)]) rfl sc__law_ways.nd (pi_list (pv 1)) (blkOk_by (own := [("_law_place", 3)]) (N := N__law_ways) (sc := C8.fnScope s__law_ways) (by decide +kernel)) (fun _ _ _ _ _ => (pg_name (i := 3) sc__law_ways.nd rfl (.inl rfl))) (fun _ _ _ _ _ => pts_nil) (fun _ _ _ _ _ => (pe_tup (pa_cons (pv 3) (pa_cons (pe_lst pa_nil) pa_nil))))) pa_nil))) (pss_cons (ps_for PassesOwn.never rfl (pi_list (pe_ix ix_tup (pv 0) pe_int (fun _ _ => rfl))) (pg_tup rfl (pgs_cons (pg_name (i := 4) sc__law_ways.nd rfl (.inl rfl)) (pgs_cons (pg_name (i := 5) sc__law_ways.nd rfl (.inl rfl)) (pgs_cons (pg_name (i := 6) sc__law_ways.nd rfl (.inl rfl)) pgs_nil)))) (pss_one (ps_if (pt_cmp (pc_din hu (pv 4) (pv 2))) (pss_one (ps_expr (pe_bm PySem.F.plainAttrs_list PySem.F.slot_list_append PySem.F.type_list_append mt_append (pe_dget hu (pv 2) (pv 6) (fun _ _ => rfl)) (pa_cons (pe_tup (pa_cons (pv 4) (pa_cons (pv 5) pa_nil))) pa_nil)))) pss_nil))) (pss_one (ps_ret (pe_callTy (call_dictP rfl) (by rfl) T.m_dict (by decide +kernel) (pa_cons (pe_lc (own := [("_law_place", 3)]) rfl sc__law_ways.nd (pi_list (pv 1)) (blkOk_by (own := [("_law_place", 3)]) (N := N__law_ways) (sc := C8.fnScope s__law_ways) (by decide +kernel)) (fun _ _ _ _ _ => (pg_name (i := 3) sc__law_ways.nd rfl (.inl rfl))) (fun _ _ _ _ _ => pts_nil) (fun _ _ _ _ _ => (pe_tup (pa_cons (pv 3) (pa_cons (pe_callB (cr_sortedMK blkK hr.units) (by rfl) T.m_sorted (by decide +kernel) (pa_cons (pe_dget hu (pv 2) (pv 3) (fun _ _ => rfl)) pa_nil)) pa_nil))))) pa_nil))))))), ?_⟩
  have n : Now ⟨F, none⟩ [] H (KV (At zPt x) v) H := Now.start (dmP hF) p
  have few := ok.few
  have rl := reach_len ok
  have rnd := reach_nodup x
  refine seq_ (s_set n (Φ := At (zL zI) (reachL x)) (ev_call (x := (⟨x, ok⟩ : PDo)) (ea_cons (ev_var (Φ := At zPt x) (v := v) rfl n.kn) ea_nil)) fun v1 H1 e1 n1 => ?_)
  refine nx_ (seq_ ?_)
  -- the dict of new lists
  refine s_cb1 ?_
  refine tLc_new (F := F) (σ := [some v, some v1, none, none, none, none, none]) (i := 3) (vs := [3]) (wi := iList K (tVar 1)) (ei_list (R := zI) (ev_var (Φ := At (zL zI) (reachL x)) (v := v1) rfl n1.kn.2)) (by omega) n1.dm (fun _ => rfl) (fun _ => rfl) fun D H2 ts ad hD N => ?_
  have keys : ad.map (·.1) = reachL x := by rw [N.keys, List.take_length]
  refine ⟨D, ts, ad.map fun q => (kI q.1, V.ref q.2), rfl, SqL.of N.out, ?_, fun p hp => ?_⟩
  · have := N.tup
    clear N keys
    induction this with
    | nil => exact .nil
    | cons h t ih => exact .cons (SqT.of h) ih
  have em : mergeK [] (ad.map fun q => (kI q.1, V.ref q.2)) = ad.map fun q => (kI q.1, V.ref q.2) := merge_new _ [] (by
    rw [List.nil_append, List.map_map]
    have : (Prod.fst ∘ fun q : Int × Addr => (kI q.1, V.ref q.2)) = kI ∘ Prod.fst := rfl
    rw [this, ← List.map_map, keys]
    exact nodup_enc put_I.inj rnd)
  rw [em]
  have s12 : Same H1 (upd H2 p (.dK (ad.map fun q => (kI q.1, V.ref q.2)))) := fun a o e => (same_new hp) a o (N.sm a o e)
  have qp : ∀ q ∈ ad, q.2 ≠ p := fun q hq z => by
    have := (N.new q hq).2.2
    rw [z, hp] at this
    cases this
  have np : H1 p = none := by
    cases e : H1 p with
    | none => rfl
    | some o =>
      have := N.sm _ _ e
      rw [hp] at this
      cases this
  have pF : p ∉ F := n1.dm.new np
  have q0 : ∀ a ∈ ad.map (·.2), H1 a = none := fun a ha => by
    obtain ⟨q, hq, rfl⟩ := List.mem_map.mp ha
    exact (N.new q hq).1
  have ql : ∀ q ∈ ad, upd H2 p (.dK (ad.map fun q => (kI q.1, V.ref q.2))) q.2 = some (.lst []) := fun q hq => by
    rw [upd_ne (qp q hq)]
    exact (N.new q hq).2.2
  have n2 := n1.owns (qs := ad.map (·.2)) q0 (re.same s12) fun a ha => by
    obtain ⟨q, hq, rfl⟩ := List.mem_map.mp ha
    exact Loc.of (ql q hq) fun _ z => by cases z
  have pq : p ∉ ad.map (·.2) ++ F := fun m => (List.mem_append.mp m).elim (fun m => by
    obtain ⟨q, hq, e⟩ := List.mem_map.mp m
    exact qp q hq e) pF
  have dic : ∀ {H' : Hp} {F' : List Addr}, p ∉ F' → H' p = some (.dK (ad.map fun q => (kI q.1, V.ref q.2))) → zDI zA (hid F' H') (.ref p) ad := fun {H' F'} m e => by
    refine ⟨p, _, rfl, .inl (by rw [hid_out m]; exact e), ?_⟩
    clear em N q0 ql n2 pq qp keys s12 e
    induction ad with
    | nil => exact .nil
    | cons q ad ih => exact .cons ⟨rfl, rfl⟩ ih
  have n3 := n2.know (K' := KAnd (KAnd (KV (At zPt x) v) (KV (At (zL zI) (reachL x)) v1)) (KV (At (zDI zA) ad) (.ref p))) ⟨n2.kn, dic pq upd_same⟩
  have ndk : (ad.map (·.1)).Nodup := by rw [keys]; exact rnd
  have has : ∀ k : Int, (valD ad k).isSome = decide (k ∈ reachL x) := fun k => Bool.eq_iff_iff.mpr (by rw [valD_isSome, keys, decide_eq_true_eq])
  refine nx_ (seq_ ?_)
  refine s_for (σ := [some v, some v1, some (.ref p), none, none, none, none]) n3 (ei_list (R := zE) (ev_pt2 (ev_var (v := v) rfl n3.kn.1.1))) fun Kn H3 sKn e3 n4 => ?_
  refine ⟨fun i σ' H' => ∃ a4 a5 a6, σ' = [some v, some v1, some (.ref p), none, a4, a5, a6] ∧ ListsI (ad.map (·.2) ++ F) x ad i H' ∧ Now ⟨ad.map (·.2) ++ F, none⟩ (ad.map (·.2) ++ []) H (KAnd (KAnd (KAnd (KV (At zPt x) v) (KV (At (zL zI) (reachL x)) v1)) (KV (At (zDI zA) ad) (.ref p))) Kn) H', ⟨none, none, none, rfl, fun q hq => ⟨[], e3.pure _ _ (ql q hq), .nil⟩, n4⟩, ?_, ?_, ?_⟩
  · rintro i σ' H' ⟨a4, a5, a6, rfl, _, n5⟩
    exact ⟨n5.dm, n5.kn.2⟩
  · rintro i ⟨k, s, t⟩ u σ' H4 H5 hx ⟨a4, a5, a6, rfl, ls, n5⟩ sm hu'
    have n6 := n5.go (re.same sm)
    have he : (k, s, t) ∈ x.ed := List.mem_of_getElem? hx
    have ls5 : ListsI (ad.map (·.2) ++ F) x ad i H5 := fun q hq => by
      obtain ⟨xs, h1, h2⟩ := ls q hq
      exact ⟨xs, sm _ _ h1, Paired.mapP h2 fun _ _ z => Stb.up (Same.hid sm) z⟩
    refine bnd_tup3 (F := ad.map (·.2) ++ F) hu' (fun u1 u2 u3 h1 h2 h3 => ?_) _ fun σ2 z => z
    obtain rfl : u1 = .int k := h1
    obtain rfl : u3 = .int t := h3
    obtain ⟨e2', hs⟩ := id h2
    obtain rfl : u2 = .str s := e2'
    refine s_if n6 (et_B1 (ev_din get_I (ev_var (Φ := At zI k) (v := .int k) rfl rfl) (ev_var (Φ := At (zDI zA) ad) (v := .ref p) rfl n6.kn.1.2))) (fun pt H6 e6 n7 => ?_) fun pf H6 e6 n7 => ?_
    · rw [has] at pt
      have kr : k ∈ reachL x := of_decide_eq_true pt.symm
      have tr : t ∈ reachL x := reach_step kr he
      obtain ⟨q, hq⟩ := valD_some (l := ad) (b := t) (by rw [keys]; exact tr)
      have hqm := valD_mem hq
      refine tBM_of ?_
      refine (ev_dget get_I (ev_var (Φ := At (zDI zA) ad) (v := .ref p) rfl n7.kn.1.2) (ev_var (Φ := At zI t) (v := .int t) rfl rfl) hq) H6 (re.refl _) n7.dm _ fun v7 H7 e7 hv => ?_
      obtain rfl : v7 = .ref q := hv
      have s57 : Same H5 H7 := (e6.trans e7).pure
      have n8 := n7.go e7
      obtain ⟨xs, q1, q2⟩ := ls5 _ hqm
      have q1 : H5 q = some (.lst xs) := q1
      refine ⟨.inl ⟨rfl, xs, SqL.of (s57 _ _ q1)⟩, ?_⟩
      refine (ea_cons (ev_tup2 (R := zI) (S := zN) (x := k) (y := s) (ev_var (Φ := At zI k) (v := .int k) rfl rfl) (ev_var (Φ := At zN s) (v := .str s) rfl ⟨rfl, hs⟩)) ea_nil) H7 (re.refl _) n8.dm _ fun vs H8 e8 pv => ?_
      obtain ⟨y, r8, rfl, hy, rfl⟩ := pv
      have n9 := n8.go e8
      have s58 : Same H5 H8 := fun a o z => e8.pure a o (s57 a o z)
      have xl := Paired.length q2
      have wl := wayI_len (P := x) i t
      refine ⟨q, xs, y, rfl, rfl, s58 _ _ q1, Nat.lt_of_le_of_lt (by
        have : xs.length = (wayI x i t).length := xl
        omega : xs.length ≤ 100000) (by decide), ?_⟩
      have qm : q ∈ ad.map (·.2) ++ F := List.mem_append_left _ (List.mem_map.mpr ⟨_, hqm, rfl⟩)
      have qm2 : q ∈ ad.map (·.2) ++ [] := List.mem_append_left _ (List.mem_map.mpr ⟨_, hqm, rfl⟩)
      refine ⟨_, _, _, rfl, fun q' hq' => ?_, n9.upd qm2⟩
      rw [wayI_step hx]
      by_cases e : q'.2 = q
      · have e2 : q' = (t, q) := nodup_map_inj N.nd q' hq' (t, q) hqm e
        subst e2
        refine ⟨xs ++ [y], upd_same, ?_⟩
        rw [if_pos ⟨rfl, kr⟩, hid_upd qm]
        exact pair_app (Paired.mapP q2 fun _ _ z => Stb.up (Same.hid s58) z) (.cons hy .nil)
      · obtain ⟨xs', r1, r2⟩ := ls5 q' hq'
        refine ⟨xs', by rw [upd_ne e]; exact s58 _ _ r1, ?_⟩
        have ne : ¬ ((k, s, t).2.2 = q'.1 ∧ (k, s, t).1 ∈ reachL x) := fun z => e (by
          have h1 := valD_nodup ndk hq'
          have h2 : t = q'.1 := z.1
          rw [← h2, hq] at h1
          exact (Option.some.inj h1).symm)
        rw [if_neg ne, List.append_nil, hid_upd qm]
        exact Paired.mapP r2 fun _ _ z => Stb.up (Same.hid s58) z
    · rw [has] at pf
      have kr : k ∉ reachL x := of_decide_eq_false pf.symm
      refine ⟨_, _, _, rfl, fun q hq => ?_, n7⟩
      obtain ⟨xs, r1, r2⟩ := ls5 q hq
      refine ⟨xs, e6.pure _ _ r1, ?_⟩
      rw [wayI_step hx, if_neg (fun z => kr z.2), List.append_nil]
      exact Paired.mapP r2 fun _ _ z => Stb.up (Same.hid e6.pure) z
  · rintro σ' H4 ⟨a4, a5, a6, rfl, ls, n5⟩
    have vis : zDI (zL zPN) (hid F H4) (.ref p) (ad.map fun q : Int × Addr => (q.1, wayP x q.1)) := by
      obtain ⟨p', kvs, ep, hr, hk⟩ := n5.kn.1.2
      cases ep
      have hr : L2.Rd (hid F H4) p (.dK kvs) := hr.imp (fun h => by rw [hid_out pF]; exact (hid_some h).2) fun ⟨od, h⟩ => ⟨od, by rw [hid_out pF]; exact (hid_some h).2⟩
      refine ⟨p, kvs, rfl, hr, pair_lists (f := wayP x) hk fun q hq => ?_⟩
      obtain ⟨xs, r1, r2⟩ := ls q hq
      rw [wayI_all] at r2
      have qF : q.2 ∉ F := fun m => n1.dm.new (N.new q hq).1 m
      exact ⟨q.2, xs, rfl, by rw [hid_out qF]; exact r1, Paired.mapP r2 fun _ _ z => Stb.up (hid_sub fun a m => List.mem_append_right _ m) z⟩
    have n6 := n5.seeL (F := F) (K' := KV (At (zDI (zL zPN)) (ad.map fun q : Int × Addr => (q.1, wayP x q.1))) (.ref p)) (fun a z => nomatch z) vis
    have vw : ∀ y ∈ reachL x, valD (ad.map fun q : Int × Addr => (q.1, wayP x q.1)) y = some (wayP x y) := fun y hy => by
      obtain ⟨q, hq⟩ := valD_some (l := ad) (b := y) (by rw [keys]; exact hy)
      exact valD_of_mem (by rw [List.map_map]; exact ndk) (List.mem_map.mpr ⟨_, valD_mem hq, rfl⟩)
    refine nx_ ?_
    refine s_retN (Φ := At (zUI (zL zPN)) (waysC x)) n6 (en_dictI (l := waysC x) (EvP.is (y := waysC x) (ev_lcD (S := zT2 zI (zL zPN)) n6.kn (ei_list (R := zI) (ev_var (Φ := At (zL zI) (reachL x)) (v := v1) rfl n6.kn.1.1.1.2)) (by omega) (fun _ => true) (fun y => (y, canon (wayP x y))) fun y f' H' u hy hb dm' e' k' hr' => bnd_name ⟨rfl, et_yes, fun _ => ev_tup2 (R := zI) (S := zL zPN) (ev_var (Φ := At zI y) rfl hr') (ev_cb (ea_cons (ev_dget get_I (ev_var (Φ := At (zDI (zL zPN)) (ad.map fun q : Int × Addr => (q.1, wayP x q.1))) (v := .ref p) rfl k'.2) (ev_var (Φ := At zI y) rfl hr') (vw y hy)) ea_nil) (ra_sortedL (way_nodup ok y)))⟩) (by rw [filter_yes]; rfl)) (by rw [keys_waysC]; exact rnd)) fun d H5 hd e5 n7 => ?_
    exact kk d H5 n7.pure (n6.out.free hd) n7.kn.2
end
end FF
namespace FF
open PySem PySem.Spec PyProof.Rows L2
/-- a way that no fellow goes -/
def wayOff (its : WayD) (n : Int) (left : List ((Int × Int) × Unit)) (q : Int × Str) : Bool := decide (((fellowsL its n q.2).filter fun l => (valD left (q.1, l)).isSome) = [])
def fallB (mine its : WayD) (pair : Int × Int) (rank : Int) (left : List ((Int × Int) × Unit)) (ba bb : List Int) : Bool :=
  if rank = 0 then decide (pair.1 ∈ ba) && !decide (pair.2 ∈ bb) else ((valD mine pair.1).getD []).any (wayOff its pair.2 left)
theorem any_take {α : Type} {p : α → Bool} {l : List α} {i : Nat} {x : α} (h : l[i]? = some x) : (l.take (i + 1)).any p = ((l.take i).any p || p x) := by
  rw [List.take_add_one, h, List.any_append]
  simp
theorem off_iff {its : WayD} {n : Int} {left : List ((Int × Int) × Unit)} {q : Int × Str} : wayOff its n left q = true ↔ ∀ l ∈ fellowsL its n q.2, (q.1, l) ∉ left.map (·.1) := by
  unfold wayOff
  rw [decide_eq_true_eq, List.filter_eq_nil_iff]
  refine forall_congr' fun l => forall_congr' fun hl => ?_
  rw [valD_isSome]
theorem fall_is {A B : PD} {left : List ((Int × Int) × Unit)} {rank : Int} {m n : Int} (hm : m ∈ reachL A) (hn : n ∈ reachL B) (h0 : rank ≠ 0) : fallB (waysC A) (waysC B) (m, n) rank left A.bg B.bg = true ↔ FallP A B (fun p => p ∈ left.map (·.1)) m n := by
  unfold fallB FallP
  rw [if_neg h0, valD_waysC hm]
  show (canon (wayP A m)).any _ = true ↔ _
  rw [List.any_eq_true]
  constructor
  · rintro ⟨⟨k, s⟩, h1, h2⟩
    exact ⟨k, s, mem_canon.mp h1, fun l hl => off_iff.mp h2 l ((mem_fellowsC hn).mpr hl)⟩
  · rintro ⟨k, s, h1, h2⟩
    exact ⟨(k, s), mem_canon.mpr h1, off_iff.mpr fun l hl => h2 l ((mem_fellowsC hn).mp hl)⟩
theorem fall_zero {mine its : WayD} {m n : Int} {left : List ((Int × Int) × Unit)} {ba bb : List Int} : fallB mine its (m, n) 0 left ba bb = true ↔ m ∈ ba ∧ n ∉ bb := by
  unfold fallB
  rw [if_pos rfl, Bool.and_eq_true, decide_eq_true_eq, Bool.not_eq_true', decide_eq_false_iff_not]
section
variable {P : Program} {w : World} {K : PySem.W.Frag} {mg : Str → Option Value} {base : Heap} {C : Addr}
abbrev s__law_falls : Stmt := topS 45
abbrev N__law_falls : List Str := ["_law_mine", "_law_its", "_law_pair", "_law_rank", "_law_left", "_law_marks", "_law_m", "_law_n", "_law_k", "_law_name", "_law_l"]
abbrev P__law_falls : List Str := ["_law_mine", "_law_its", "_law_pair", "_law_rank", "_law_left", "_law_marks"]
theorem sc__law_falls : FnScope N__law_falls P__law_falls (C8.fnScope s__law_falls) := C8.fnScope_by (by decide +kernel)
structure FallI where
  mine : WayD
  its : WayD
  pair : Int × Int
  rank : Int
  left : List ((Int × Int) × Unit)
  ba : List Int
  bb : List Int
  o1 : OkW mine
  o2 : OkW its
  k1 : pair.1 ∈ mine.map (·.1)
  k2 : pair.2 ∈ its.map (·.1)
abbrev sp_law_falls : Sp := SpP (ι := FallI) (fun x => ACons (At zW x.mine) (ACons (At zW x.its) (ACons (At zP2 x.pair) (ACons (At zI x.rank) (ACons (At (zDP zAny) x.left) (ACons (At (zT2 (zL zI) (zL zI)) (x.ba, x.bb)) ANil)))))) (fun x => At zB (fallB x.mine x.its x.pair x.rank x.left x.ba x.bb))
theorem ok_law_falls {f : Addr} {fd : FuncData} (F : C8.Def K mg "_law_falls" s__law_falls f fd) (b : L2.Binds K fd P__law_falls []) (T : Txt K mg C) (c__law_fellows : C8.Cal P w K mg base 1 "_law_fellows" sp_fellows []) : C8.Cal P w K mg base 2 "_law_falls" sp_law_falls [] := by
  refine C8.cal0 F b .nil sc__law_falls (spP_len fun x G vs h => alS h fun _ h => alS h fun _ h => alS h fun _ h => alS h fun _ h => alS h fun _ h => alS h fun _ h => al0 h) (fun cdv A outer s H vs Q E hr h => ?_)
  obtain ⟨⟨mine, its, ⟨m, n0⟩, rank, left, ba, bb, o1, o2, k1, k2⟩, F, hF, ⟨v, r, rfl, p, v2, r2, rfl, p2, v3, r3, rfl, p3, v4, r4, rfl, p4, v5, r5, rfl, p5, v6, r6, rfl, p6, rfl⟩, kk⟩ := h
  obtain rfl : v4 = .int rank := p4
  have hu := hu_of hr
  refine ⟨_, (pss_cons (ps_asg (pv 2) (pg_tup rfl (pgs_cons (pg_name (i := 6) sc__law_falls.nd rfl (.inl rfl)) (pgs_cons (pg_name (i := 7) sc__law_falls.nd rfl (.inl rfl)) pgs_nil)))) (pss_cons (ps_if (pt_cmpR op_eq (pv 3) pe_int (nomark _)) (pss_one (ps_ret (pe_and (pe_cmpR op_in_seq (pv 6) (pe_ix ix_tup (pv 5) pe_int (fun _ _ => rfl)) (by rfl)) (pe_one (pe_cmpR op_notIn_seq (pv 7) (pe_ix ix_tup (pv 5) pe_int (fun _ _ => rfl)) (by rfl)))))) pss_nil) (pss_cons (ps_for PassesOwn.never rfl (pi_list (pe_dget hu (pv 0) (pv 6) (fun _ _ => rfl))) (pg_tup rfl (pgs_cons (pg_name (i := 8) sc__law_falls.nd rfl (.inr rfl)) (pgs_cons (pg_name (i := 9) sc__law_falls.nd rfl (.inl rfl)) pgs_nil))) (pss_one (ps_if (pt_cmpR (op_eqD hr.units) (pe_lc (own := [("_law_l", 10)]) rfl sc__law_falls.nd (pi_list (C8.pe_c c__law_fellows hr (by decide) rfl (pa_cons (pv 1) (pa_cons (pv 7) (pa_cons (pv 9) pa_nil))))) (blkOk_by (own := [("_law_l", 10)]) (N := N__law_falls) (sc := C8.fnScope s__law_falls) (by decide +kernel)) (fun _ _ _ _ _ => (pg_name (i := 10) sc__law_falls.nd rfl (.inl rfl))) (fun _ _ _ _ _ => (pts_one (pt_cmp (pc_din hu (pe_tup (pa_cons (pv 8) (pa_cons (pv 10) pa_nil))) (pv 4))))) (fun _ _ _ _ _ => (pv 10))) (pe_lst pa_nil) (nomark _)) (pss_one (ps_ret pe_bl)) pss_nil))) (pss_one (ps_ret pe_bl))))), ?_⟩
  have n : Now ⟨F, none⟩ [] H (KAnd (KAnd (KV (At zW mine) v) (KV (At zW its) v2)) (KAnd (KV (At zP2 (m, n0)) v3) (KAnd (KV (At (zDP zAny) left) v5) (KV (At (zT2 (zL zI) (zL zI)) (ba, bb)) v6)))) H := Now.start (dmP hF) ⟨⟨p, p2⟩, p3, p5, p6⟩
  obtain ⟨l, hl⟩ := valD_some (l := mine) (b := m) k1
  obtain ⟨l2, hl2⟩ := valD_some (l := its) (b := n0) k2
  have ll : l.length ≤ 1000 := o1 _ (valD_mem hl)
  have ll2 : l2.length ≤ 1000 := o2 _ (valD_mem hl2)
  refine seq_ (s_asg2 (R := zI) (S := zI) (x := (m, n0)) n (ev_var (v := v3) rfl n.kn.2.1) fun u w1 H1 e1 n1 => ?_)
  obtain rfl : u = .int m := n1.kn.1.2
  obtain rfl : w1 = .int n0 := n1.kn.2
  have n1 := n1.know n1.kn.1.1
  refine nx_ ?_
  refine s_if1 n1 (et_B1 (ev_op (ev_var (Φ := At zI rank) (v := .int rank) rfl rfl) ev_int ru_eqI)) (fun pt H2 e2 n2 => ?_) fun pf H2 e2 n2 => ?_
  · have r0 : rank = 0 := of_decide_eq_true pt.symm
    refine s_ret n2 (ev_andV (a := decide (m ∈ ba)) (b := !decide (n0 ∈ bb)) (ev_op (ev_var (Φ := At zI m) (v := .int m) rfl rfl) (ev_op (ev_var (Φ := At (zT2 (zL zI) (zL zI)) (ba, bb)) (v := v6) rfl n2.kn.2.2.2) ev_int ru_ix20) ru_inI) fun _ => ev_op (ev_var (Φ := At zI n0) (v := .int n0) rfl rfl) (ev_op (ev_var (Φ := At (zT2 (zL zI) (zL zI)) (ba, bb)) (v := v6) rfl n2.kn.2.2.2) ev_int ru_ix21) ru_notInI) fun v7 H3 e3 n3 => ?_
    refine kk v7 H3 n3.pure ?_
    show zB _ v7 (fallB mine its (m, n0) rank left ba bb)
    unfold fallB
    rw [if_pos r0]
    exact n3.kn.2
  · have r0 : rank ≠ 0 := of_decide_eq_false pf.symm
    have e0 : fallB mine its (m, n0) rank left ba bb = l.any (wayOff its n0 left) := by
      unfold fallB
      rw [if_neg r0, hl]
      rfl
    refine seq_ (s_for n2 (ei_list (R := zPN) (ev_dget get_I (ev_var (v := v) rfl n2.kn.1.1) (ev_var (Φ := At zI m) (v := .int m) rfl rfl) hl)) fun Kn H3 sKn e3 n3 => ?_)
    refine ⟨fun i σ' H' => ∃ a8 a9, σ' = [some v, some v2, some v3, some (.int rank), some v5, some v6, some (.int m), some (.int n0), a8, a9, none] ∧ Now ⟨F, none⟩ [] H (KAnd (KAnd (KAnd (KV (At zW mine) v) (KV (At zW its) v2)) (KAnd (KV (At zP2 (m, n0)) v3) (KAnd (KV (At (zDP zAny) left) v5) (KV (At (zT2 (zL zI) (zL zI)) (ba, bb)) v6)))) Kn) H' ∧ (l.take i).any (wayOff its n0 left) = false, ⟨none, none, rfl, n3, rfl⟩, ?_, ?_, ?_⟩
    · rintro i σ' H' ⟨a8, a9, rfl, n4, _⟩
      exact ⟨n4.dm, n4.kn.2⟩
    · rintro i ⟨k, s⟩ u σ' H4 H5 hx ⟨a8, a9, rfl, n4, no⟩ sm hu'
      have n5 := n4.go (re.same sm)
      refine bnd_tup2 (F := F) hu' (fun t u1 u2 _ _ h1 h2 => ?_) _ fun σ2 z => z
      obtain rfl : u1 = .int k := h1
      obtain ⟨eu2, hs⟩ := id h2
      obtain rfl : u2 = .str s := eu2
      have fl : (fellowsL its n0 s).length ≤ 100000 := by
        unfold fellowsL
        rw [hl2, List.length_map]
        have := List.length_filter_le (fun p : Int × Str => decide (p.2 = s)) l2
        show (l2.filter _).length ≤ 100000
        omega
      refine s_if n5 (et_B1 (EvP.is (y := wayOff its n0 left (k, s)) (ev_op (ev_lcD (S := zI) n5.kn (ei_list (R := zI) (ev_call (x := (⟨(its, n0, s), o2, k2⟩ : FellI)) (ea_cons (ev_var (Φ := At zW its) (v := v2) rfl n5.kn.1.1.2) (ea_cons (ev_var (Φ := At zI n0) (v := .int n0) rfl rfl) (ea_cons (ev_var (Φ := At zN s) (v := .str s) rfl ⟨rfl, hs⟩) ea_nil))))) fl (fun j => (valD left (k, j)).isSome) (fun j => j) fun j f' H6 w6 hj hb dm' e' k' hr' => bnd_name ⟨rfl, et_B1 (ev_din get_P (ev_tup2 (R := zI) (S := zI) (x := k) (y := j) (ev_var (Φ := At zI k) (v := .int k) rfl rfl) (ev_var (Φ := At zI j) rfl hr')) (ev_var (Φ := At (zDP zAny) left) (v := v5) rfl k'.1.2.2.1)), fun _ => ev_var (Φ := At zI j) rfl hr'⟩) (ev_lst (R := zI) ee_nil (Nat.zero_le _)) ru_eqD) (by rw [map_same]; rfl))) (fun pt H6 e6 n6 => ?_) fun pf H6 e6 n6 => ?_
      · refine s_ret n6 ev_bl fun v7 H7 e7 n7 => ?_
        refine kk v7 H7 n7.pure ?_
        show zB _ v7 (fallB mine its (m, n0) rank left ba bb)
        have : fallB mine its (m, n0) rank left ba bb = true := by
          rw [e0, List.any_eq_true]
          exact ⟨(k, s), List.mem_of_getElem? hx, pt.symm⟩
        rw [this]
        exact n7.kn.2
      · refine ⟨_, _, rfl, n6, ?_⟩
        rw [any_take hx, no, ← pf]
        rfl
    · rintro σ' H4 ⟨a8, a9, rfl, n4, no⟩
      rw [List.take_length] at no
      refine nx_ ?_
      refine s_ret n4 ev_bl fun v7 H7 e7 n7 => ?_
      refine kk v7 H7 n7.pure ?_
      show zB _ v7 (fallB mine its (m, n0) rank left ba bb)
      rw [e0, no]
      exact n7.kn.2
end
end FF
namespace FF
open PySem PySem.Spec PyProof.Rows L2
instance : Lkb zPt := ⟨fun u h => Lkb.up (R := zT3 zI (zL zI) (zL zE)) u h⟩
section
variable {f : Fr} {L : List Addr} {K : Hp → Prop} {H H0 : Hp} {σ : L2.St} {D : Ends} {ta tb : TE} {Φ Φ' : Hp → V → Prop} {Kf : PySem.W.Frag}
theorem s_asg4 {i j k l : Nat} [StH K] [StP Φ] [StP Φ'] (n : Now f L H0 K H) (h : EvN f ta σ H Φ) (h2 : EvN f tb σ H Φ') (ne : ∀ G v, Φ G v → ∀ a, v = .ref a → G a ≠ none)
    (kk : ∀ d d2 p q H1, H d = none → H d2 = none → d ≠ d2 → H p = none → H q = none → p ≠ q → H1 p = some (.dT []) → H1 q = some (.dT []) → re f.b H H1 → Now ⟨q :: p :: f.F, f.b⟩ (q :: p :: L) H0 (KAnd (KAnd K (KV Φ (.ref d))) (KV Φ' (.ref d2))) H1 → D.nx ((((σ.set i (some (.ref d))).set j (some (.ref d2))).set k (some (.ref p))).set l (some (.ref q))) H1) :
    tAsg (tTup (tCons ta (tCons tb (tCons tDNewT (tCons tDNewT tNil))))) (gTup Kf 4 (gCons (gName i) (gCons (gName j) (gCons (gName k) (gCons (gName l) gNil))))) D σ H :=
  h H (re.refl _) n.dm _ fun d H2 hd e p1 => h2 H2 e (n.dm.re e) _ fun d2 H3 hd2 e2 p2 p hp q hq => by
    have n1 := (n.go e).know (K' := KAnd K (KV Φ (.ref d))) ⟨(n.go e).kn, p1⟩
    have n2 := (n1.go e2).know (K' := KAnd (KAnd K (KV Φ (.ref d))) (KV Φ' (.ref d2))) ⟨(n1.go e2).kn, p2⟩
    have n4 : Now ⟨q :: p :: f.F, f.b⟩ (q :: p :: L) H0 _ _ := Now.new (o := .dT []) (Now.new (o := .dT []) n2 hp) hq
    have apart : d ≠ d2 := fun z => by
      have h1 := ne _ _ p1 d rfl
      cases q : hid f.F H2 d with
      | none => exact h1 q
      | some o =>
        have := (hid_some q).2
        rw [z, hd2] at this
        cases this
    have pq : p ≠ q := fun z => by rw [← z, upd_same] at hq; cases hq
    have q3 : H3 q = none := by rw [upd_ne (Ne.symm pq)] at hq; exact hq
    refine ⟨by show 4 ≤ sizeLine; decide, fun t ht => ⟨t, _, rfl, SqT.of upd_same, rfl, _, _, rfl, _, _, rfl, _, _, rfl, _, _, rfl, rfl, ?_⟩⟩
    have hp4 : upd (upd H3 p (.dT [])) q (.dT []) p = some (.dT []) := by rw [upd_ne pq, upd_same]
    have hq4 : upd (upd H3 p (.dT [])) q (.dT []) q = some (.dT []) := upd_same
    have s5 := same_new (o := .tup [V.ref d, V.ref d2, V.ref p, V.ref q]) ht
    have e12 := e.trans e2
    exact kk d d2 p q _ hd (e.free hd2) apart (e12.free hp) (e12.free q3) pq (s5 _ _ hp4) (s5 _ _ hq4) (e12.trans (re.same fun a o z => s5 a o ((same_new hq) a o ((same_new hp) a o z)))) (n4.go (re.same s5))
/-- a local thing is one no more -/
theorem Now.drop1 {q : Addr} {F : List Addr} [StH K] (n : Now ⟨q :: F, none⟩ (q :: L) H0 K H) (hL : ∀ a ∈ L, a ∈ F) : Now ⟨F, none⟩ L H0 K H :=
  ⟨n.rel.trans (re.same (hid_sub fun a m => List.mem_cons_of_mem _ m)), ⟨fun x m => n.dm.there x (List.mem_cons_of_mem _ m), fun x z => nomatch z⟩, fun a m => ⟨hL a m, fun z => nomatch z⟩, StH.up (hid_sub fun a m => List.mem_cons_of_mem _ m) n.kn⟩
end
abbrev un {α : Type} (l : List α) : List (α × Unit) := l.map fun x => (x, ())
theorem un_keys {α : Type} (l : List α) : (un l).map (·.1) = l := by rw [List.map_map]; exact List.map_id _
theorem vis_keys {F : List Addr} {H : Hp} {q : Addr} {kx : List (List Key × V)} {rk : List (Int × Int)} (qF : q ∉ F) (h : H q = some (.dT kx)) (h2 : kx.map (·.1) = rk.map kP) : zUP zAny (hid F H) (.ref q) (un rk) := by
  refine ⟨q, kx, rfl, by rw [hid_out qF]; exact h, ?_⟩
  clear h
  induction rk generalizing kx with
  | nil =>
    obtain rfl : kx = [] := List.map_eq_nil_iff.mp h2
    exact .nil
  | cons x rk ih =>
    obtain ⟨y, ys, rfl, e1, e2⟩ := List.map_eq_cons_iff.mp h2
    exact .cons ⟨e1, trivial⟩ (ih e2)
theorem keys_un {G : Hp} {kx : List (List Key × V)} {rk : List (Int × Int)} (h : Paired (fun (kv : List Key × V) (p : (Int × Int) × Unit) => kv.1 = kP p.1 ∧ zAny G kv.2 p.2) kx (un rk)) : kx.map (·.1) = rk.map kP := by rw [keys_enc h, un_keys]
theorem hash_keys {P : Program} {w : World} {ls : List (List Key × V)} {rk : List (Int × Int)} (h : ls.map (·.1) = rk.map kP) (nd : rk.Nodup) (r : ∀ p ∈ rk, (0 ≤ p.1 ∧ p.1 < 10) ∧ 0 ≤ p.2 ∧ p.2 < 10) : (ls.map fun p => (tupleKind (mixKind P w)).hash p.1).Nodup := by
  have e1 : (ls.map fun p => (tupleKind (mixKind P w)).hash p.1) = rk.map fun p => (tupleKind (mixKind P w)).hash (kP p) := by
    have : (ls.map fun p => (tupleKind (mixKind P w)).hash p.1) = (ls.map (·.1)).map (tupleKind (mixKind P w)).hash := by rw [List.map_map]; rfl
    rw [this, h, List.map_map]
    rfl
  rw [e1]
  exact pair_hashes nd r
theorem len_keys {ls : List (List Key × V)} {rk : List (Int × Int)} (h : ls.map (·.1) = rk.map kP) : ls.length = rk.length := by
  have := congrArg List.length h
  rw [List.length_map, List.length_map] at this
  exact this
/-- the pairs of the first i places -/
noncomputable def pairsI (A B : PD) (i : Nat) : List (Int × Int) := ((reachL A).take i).flatMap fun m => (reachL B).map fun n => (m, n)
theorem pairsI_all (A B : PD) : pairsI A B (reachL A).length = pairsL A B := by
  unfold pairsI pairsL
  rw [List.take_length]
  have : (fun m : Int => (reachL B).map fun n : Int => (m, n)) = row (fun _ => true) (fun _ => reachL B) (fun _ _ => true) fun m n => (m, n) := by
    funext m
    exact (row_all (m := fun _ : Int => reachL B) (fn := fun m n : Int => (m, n)) (x := m)).symm
  rw [this]
theorem pairsI_step {A B : PD} {i : Nat} {m : Int} (h : (reachL A)[i]? = some m) : pairsI A B (i + 1) = pairsI A B i ++ (reachL B).map fun n => (m, n) := by
  unfold pairsI
  rw [List.take_add_one, h, List.flatMap_append]
  show _ ++ ([m].flatMap _) = _
  rw [List.flatMap_cons, List.flatMap_nil, List.append_nil]
theorem pairsI_sub (A B : PD) (i : Nat) : List.Sublist (pairsI A B i) (pairsL A B) := by
  rw [← pairsI_all A B]
  unfold pairsI
  rw [List.take_length]
  conv => rhs; rw [← List.take_append_drop i (reachL A), List.flatMap_append]
  exact List.sublist_append_left _ _
theorem pairs_rng {A B : PD} (a : OkP A) (b : OkP B) {p : Int × Int} (h : p ∈ pairsL A B) : (0 ≤ p.1 ∧ p.1 < 10) ∧ 0 ≤ p.2 ∧ p.2 < 10 := by
  obtain ⟨q1, q2⟩ := mem_pairs.mp h
  have r1 := reach_rng a q1
  have r2 := reach_rng b q2
  have t1 := a.p9
  have t2 := b.p9
  exact ⟨⟨r1.1, by have := r1.2; omega⟩, r2.1, by have := r2.2; omega⟩
/-- after i rounds: the pairs left, those gone -/
structure RkI (A B : PD) (i : Nat) (ll rr : List (Int × Int)) : Prop where
  nd : rr.Nodup
  sub : ∀ p ∈ rr, p ∈ pairsL A B
  no : ∀ p ∈ rr, ¬ Fol A B p.1 p.2
  left : ll = (pairsL A B).filter fun p => !decide (p ∈ rr)
  bg : 1 ≤ i → ∀ p ∈ ll, p.1 ∈ A.bg → p.2 ∈ B.bg
  few : i ≤ rr.length + 1
/-- those that go in a round -/
noncomputable def goneL (A B : PD) (i : Nat) (ll : List (Int × Int)) : List (Int × Int) := ll.filter fun p => fallB (waysC A) (waysC B) p (i : Int) (un ll) A.bg B.bg
theorem RkI.mem {A B : PD} {i : Nat} {ll rr : List (Int × Int)} (h : RkI A B i ll rr) {p : Int × Int} : p ∈ ll ↔ p ∈ pairsL A B ∧ p ∉ rr := by
  rw [h.left, List.mem_filter, Bool.not_eq_true', decide_eq_false_iff_not]
theorem RkI.lnd {A B : PD} {i : Nat} {ll rr : List (Int × Int)} (h : RkI A B i ll rr) : ll.Nodup := by
  rw [h.left]
  exact List.Pairwise.filter _ nodup_pairs
theorem RkI.llen {A B : PD} {i : Nat} {ll rr : List (Int × Int)} (h : RkI A B i ll rr) : ll.length ≤ (pairsL A B).length := by
  rw [h.left]
  exact List.length_filter_le _ _
theorem RkI.rlen {A B : PD} {i : Nat} {ll rr : List (Int × Int)} (h : RkI A B i ll rr) : rr.length ≤ (pairsL A B).length := nodup_len h.nd h.sub
theorem RkI.start (A B : PD) : RkI A B 0 (pairsL A B) [] where
  nd := List.nodup_nil
  sub := fun p h => nomatch h
  no := fun p h => nomatch h
  left := by
    rw [List.filter_eq_self.mpr]
    intro p _
    simp
  bg := fun h => by omega
  few := Nat.zero_le _
theorem RkI.gone {A B : PD} {i : Nat} {ll rr : List (Int × Int)} (h : RkI A B i ll rr) {p : Int × Int} (hp : p ∈ goneL A B i ll) : p ∈ ll ∧ ¬ Fol A B p.1 p.2 := by
  obtain ⟨h1, h2⟩ := List.mem_filter.mp hp
  refine ⟨h1, fun f => ?_⟩
  obtain ⟨q1, q2⟩ := mem_pairs.mp (h.mem.mp h1).1
  by_cases i0 : i = 0
  · subst i0
    have := fall_zero.mp h2
    exact this.2 ((fol_sim A B).bg f this.1)
  · have h3 := (fall_is q1 q2 (by omega)).mp h2
    rw [un_keys] at h3
    refine fall_no (left := fun p => p ∈ ll) (fun x x1 x2 x3 => ?_) h3 f
    exact h.no x (Classical.byContradiction fun z => x3 (h.mem.mpr ⟨mem_pairs.mpr ⟨x1, x2⟩, z⟩))
theorem RkI.next {A B : PD} {i : Nat} {ll rr : List (Int × Int)} (h : RkI A B i ll rr) (go : 0 < i → goneL A B i ll ≠ []) : RkI A B (i + 1) (ll.filter fun p => !decide (p ∈ rr ++ goneL A B i ll)) (rr ++ goneL A B i ll) where
  nd := List.nodup_append.mpr ⟨h.nd, List.Pairwise.filter _ h.lnd, fun a ha b hb e => (h.mem.mp (h.gone hb).1).2 (e ▸ ha)⟩
  sub := fun p hp => (List.mem_append.mp hp).elim (h.sub p) fun hp => (h.mem.mp (h.gone hp).1).1
  no := fun p hp => (List.mem_append.mp hp).elim (h.no p) fun hp => (h.gone hp).2
  left := by
    generalize goneL A B i ll = g
    rw [h.left, List.filter_filter]
    refine List.filter_congr fun p _ => ?_
    refine Bool.eq_iff_iff.mpr ?_
    simp only [Bool.and_eq_true, Bool.not_eq_true', decide_eq_false_iff_not, List.mem_append, not_or]
    exact ⟨fun z => z.1, fun z => ⟨z, z.1⟩⟩
  bg := fun _ p hp hb => by
    obtain ⟨h1, h2⟩ := List.mem_filter.mp hp
    rw [Bool.not_eq_true', decide_eq_false_iff_not, List.mem_append, not_or] at h2
    by_cases i0 : i = 0
    · subst i0
      refine Classical.byContradiction fun z => h2.2 (List.mem_filter.mpr ⟨h1, fall_zero.mpr ⟨hb, z⟩⟩)
    · exact h.bg (by omega) p h1 hb
  few := by
    have := h.few
    rw [List.length_append]
    by_cases i0 : i = 0
    · omega
    · have := List.length_pos_iff.mpr (go (by omega))
      omega
theorem RkI.done {A B : PD} {i : Nat} {ll rr : List (Int × Int)} (h : RkI A B i ll rr) (i0 : 0 < i) (e : goneL A B i ll = []) : canon (ll.filter fun p => !decide (p ∈ rr ++ goneL A B i ll)) = canon (followL A B) := by
  refine canon_congr fun p => ?_
  rw [e, List.append_nil, List.mem_filter, Bool.not_eq_true', decide_eq_false_iff_not, show p ∈ followL A B ↔ Fol A B p.1 p.2 from mem_follow]
  constructor
  · rintro ⟨h1, _⟩
    refine left_ok (left := fun p => p ∈ ll) (m := p.1) (n := p.2) (fun x hx => ?_) (fun x hx f => ?_) h1
    · have := mem_pairs.mp (h.mem.mp hx).1
      exact ⟨this.1, this.2, h.bg i0 x hx⟩
    · obtain ⟨q1, q2⟩ := mem_pairs.mp (h.mem.mp hx).1
      have : x ∈ goneL A B i ll := List.mem_filter.mpr ⟨hx, (fall_is q1 q2 (by omega)).mpr (by rw [un_keys]; exact f)⟩
      rw [e] at this
      cases this
  · intro f
    have nr : p ∉ rr := fun z => h.no p z f
    exact ⟨h.mem.mpr ⟨mem_pairs.mpr ⟨(fol_sim A B).a f, (fol_sim A B).b f⟩, nr⟩, nr⟩
section
variable {P : Program} {w : World} {K : PySem.W.Frag} {mg : Str → Option Value} {base : Heap} {C : Addr}
abbrev s__law_ranks : Stmt := topS 44
abbrev N__law_ranks : List Str := ["_law_parts", "_law_others", "_law_mine", "_law_its", "_law_ranks_here", "_law_left", "_law_m", "_law_n", "_law_rank", "_law_gone", "_law_pair"]
abbrev P__law_ranks : List Str := ["_law_parts", "_law_others"]
theorem sc__law_ranks : FnScope N__law_ranks P__law_ranks (C8.fnScope s__law_ranks) := C8.fnScope_by (by decide +kernel)
abbrev KR2 (A B : PD) (v v2 : V) (d d2 : Addr) : Hp → Prop := KAnd (KAnd (KAnd (KV (At zPt A) v) (KV (At zPt B) v2)) (KV (At zW (waysC A)) (.ref d))) (KV (At zW (waysC B)) (.ref d2))
abbrev sp_law_ranks : Sp := SpP (ι := PD2) (fun x => ACons (At zPt x.1.1) (ACons (At zPt x.1.2) ANil)) (fun x => At (zT2 (zL zP2) zAny) (canon (followL x.1.1 x.1.2), ()))
theorem ok_law_ranks {f : Addr} {fd : FuncData} (F : C8.Def K mg "_law_ranks" s__law_ranks f fd) (b : L2.Binds K fd P__law_ranks []) (T : Txt K mg C) (c__law_ways : C8.Cal P w K mg base 2 "_law_ways" sp_law_ways []) (c__law_falls : C8.Cal P w K mg base 2 "_law_falls" sp_law_falls []) : C8.Cal P w K mg base 3 "_law_ranks" sp_law_ranks [] := by
  refine C8.cal0 F b .nil sc__law_ranks (spP_len fun x G vs h => alS h fun _ h => alS h fun _ h => al0 h) (fun cdv A0 outer s H vs Q E hr h => ?_)
  obtain ⟨⟨⟨A, B⟩, oa, ob⟩, F, hF, ⟨v, r, rfl, p0, v2, r2, rfl, p2, rfl⟩, kk⟩ := h
  have oa : OkP A := oa
  have ob : OkP B := ob
  have hu := hu_of hr
  refine ⟨_, (pss_cons (ps_asg (pe_tup (pa_cons (C8.pe_c c__law_ways hr (by decide) rfl (pa_cons (pv 0) pa_nil)) (pa_cons (C8.pe_c c__law_ways hr (by decide) rfl (pa_cons (pv 1) pa_nil)) (pa_cons pe_dnewT (pa_cons pe_dnewT pa_nil))))) (pg_tup rfl (pgs_cons (pg_name (i := 2) sc__law_ranks.nd rfl (.inr rfl)) (pgs_cons (pg_name (i := 3) sc__law_ranks.nd rfl (.inr rfl)) (pgs_cons (pg_name (i := 4) sc__law_ranks.nd rfl (.inr rfl)) (pgs_cons (pg_name (i := 5) sc__law_ranks.nd rfl (.inr rfl)) pgs_nil)))))) (pss_cons (ps_lock (ps_for PassesOwn.never rfl (pi_keys (pv 2)) (pg_name (i := 6) sc__law_ranks.nd rfl (.inr rfl)) (pss_one (ps_expr (pe_bm PySem.F.plainAttrs_dict PySem.F.slot_dict_update PySem.F.type_dict_update (mt_updT hr.units) (pv 5) (pa_cons (pe_callTy (cr_dictT rfl hr.units) (by rfl) T.m_dict (by decide +kernel) (pa_cons (pe_lock (pe_lc (own := [("_law_n", 7)]) rfl sc__law_ranks.nd (pi_keys (pv 3)) (blkOk_by (own := [("_law_n", 7)]) (N := N__law_ranks) (sc := C8.fnScope s__law_ranks) (by decide +kernel)) (fun _ _ _ _ _ => (pg_name (i := 7) sc__law_ranks.nd rfl (.inl rfl))) (fun _ _ _ _ _ => pts_nil) (fun _ _ _ _ _ => (pe_tup (pa_cons (pe_tup (pa_cons (pv 6) (pa_cons (pv 7) pa_nil))) (pa_cons pe_bl pa_nil)))))) pa_nil)) pa_nil)))))) (pss_cons (ps_for PassesOwn.never rfl (pi_range1 (by rfl) T.m_range (pa_cons (pe_op op_add (pe_callB call_len_dT (by rfl) T.m_len (by decide +kernel) (pa_cons (pv 5) pa_nil)) pe_int) pa_nil)) (pg_name (i := 8) sc__law_ranks.nd rfl (.inr rfl)) (pss_cons (ps_lock (ps_setLc (i := 9) (own := [("_law_pair", 10)]) rfl sc__law_ranks.nd rfl rfl (sw_true rfl rfl rfl (by decide +kernel)) (pi_keys (pv 5)) (blkOk_by (own := [("_law_pair", 10)]) (N := N__law_ranks) (sc := C8.fnScope s__law_ranks) (by decide +kernel)) (fun _ _ _ _ _ => (pg_name (i := 10) sc__law_ranks.nd rfl (.inl rfl))) (fun _ _ _ _ _ => (pts_one (pt_val (C8.pe_c c__law_falls hr (by decide) rfl (pa_cons (pv 2) (pa_cons (pv 3) (pa_cons (pv 10) (pa_cons (pv 8) (pa_cons (pv 5) (pa_cons (pe_tup (pa_cons (pe_ix (ix_tupK blkK) (pv 0) pe_int (fun _ _ => rfl)) (pa_cons (pe_ix (ix_tupK blkK) (pv 1) pe_int (fun _ _ => rfl)) pa_nil))) pa_nil)))))))))) (fun _ _ _ _ _ => (pv 10)))) (pss_cons (ps_expr (pe_bm PySem.F.plainAttrs_dict PySem.F.slot_dict_update PySem.F.type_dict_update (mt_updT hr.units) (pv 4) (pa_cons (pe_callTy (cr_dictT rfl hr.units) (by rfl) T.m_dict (by decide +kernel) (pa_cons (pe_lc (own := [("_law_pair", 10)]) rfl sc__law_ranks.nd (pi_list (pv 9)) (blkOk_by (own := [("_law_pair", 10)]) (N := N__law_ranks) (sc := C8.fnScope s__law_ranks) (by decide +kernel)) (fun _ _ _ _ _ => (pg_name (i := 10) sc__law_ranks.nd rfl (.inl rfl))) (fun _ _ _ _ _ => pts_nil) (fun _ _ _ _ _ => (pe_tup (pa_cons (pv 10) (pa_cons (pv 8) pa_nil))))) pa_nil)) pa_nil))) (pss_cons (ps_set (i := 5) sc__law_ranks.nd rfl (.inr rfl) (pe_callTy (cr_dictT rfl hr.units) (by rfl) T.m_dict (by decide +kernel) (pa_cons (pe_lock (pe_lc (own := [("_law_pair", 10)]) rfl sc__law_ranks.nd (pi_keys (pv 5)) (blkOk_by (own := [("_law_pair", 10)]) (N := N__law_ranks) (sc := C8.fnScope s__law_ranks) (by decide +kernel)) (fun _ _ _ _ _ => (pg_name (i := 10) sc__law_ranks.nd rfl (.inl rfl))) (fun _ _ _ _ _ => (pts_one (pt_cmp (pc_dnotin hu (pv 10) (pv 4))))) (fun _ _ _ _ _ => (pe_tup (pa_cons (pv 10) (pa_cons pe_bl pa_nil)))))) pa_nil))) (pss_one (ps_if (PW.pt (pw_and (pt_cmpR op_gt (pv 8) pe_int (nomark _)) (pw_and1 (pt_cmpR (op_eqD hr.units) (pv 9) (pe_lst pa_nil) (nomark _))))) (pss_one (ps_ret (pe_tup (pa_cons (pe_callB (cr_sortedMD rfl) (by rfl) T.m_sorted (by decide +kernel) (pa_cons (pv 5) pa_nil)) (pa_cons (pv 4) pa_nil))))) pss_nil)))))) (pss_one (ps_ret (pe_tup (pa_cons (pe_callB (cr_sortedMD rfl) (by rfl) T.m_sorted (by decide +kernel) (pa_cons (pv 5) pa_nil)) (pa_cons (pv 4) pa_nil)))))))), ?_⟩
  have n : Now ⟨F, none⟩ [] H (KAnd (KV (At zPt A) v) (KV (At zPt B) v2)) H := Now.start (dmP hF) ⟨p0, p2⟩
  have neU : ∀ {l : WayD} (G : Hp) (v : V), At (zUI (zL zPN)) l G v → ∀ a, v = .ref a → G a ≠ none := fun G v ⟨a, kvs, e, h, _⟩ a' e' => by
    rw [e] at e'
    cases e'
    rw [h]
    exact fun z => nomatch z
  have ten1 := reach_ten oa
  have ten2 := reach_ten ob
  have plen := pairs_len oa ob
  refine seq_ (s_asg4 n (en_call (x := (⟨A, oa⟩ : PDo)) (ea_cons (ev_var (Φ := At zPt A) (v := v) rfl n.kn.1) ea_nil)) (en_call (x := (⟨B, ob⟩ : PDo)) (ea_cons (ev_var (Φ := At zPt B) (v := v2) rfl n.kn.2) ea_nil)) neU fun d d2 p q H1 hd0 hd20 ne hp0 hq0 pq hp1 hq1 e1 n1 => ?_)
  have pF : p ∉ F := n.dm.new hp0
  have qF : q ∉ F := n.dm.new hq0
  obtain ⟨_, kv1, ed1, h1, _⟩ := id n1.kn.1.2
  cases ed1
  obtain ⟨_, kv2, ed2, h2, _⟩ := id n1.kn.2
  cases ed2
  obtain ⟨dF, h1⟩ := hid_some h1
  obtain ⟨d2F, h2⟩ := hid_some h2
  have h1 : H1 d = some (.dK kv1) := h1
  have h2 : H1 d2 = some (.dK kv2) := h2
  have dF : d ∉ q :: p :: F := dF
  have d2F : d2 ∉ q :: p :: F := d2F
  have dq : d ≠ q := fun z => dF (z ▸ List.mem_cons_self)
  have d2q : d2 ≠ q := fun z => d2F (z ▸ List.mem_cons_self)
  have dp : d ≠ p := fun z => dF (z ▸ List.mem_cons_of_mem _ List.mem_cons_self)
  have d2p : d2 ≠ p := fun z => d2F (z ▸ List.mem_cons_of_mem _ List.mem_cons_self)
  have n1 : Now ⟨q :: p :: F, none⟩ (q :: p :: []) H (KR2 A B v v2 d d2) H1 := n1.know ⟨⟨n1.kn.1.1, zU_zD n1.kn.1.2⟩, zU_zD n1.kn.2⟩
  have du1 : DictO (.dK kv1) := trivial
  have du2 : DictO (.dK kv2) := trivial
  refine nx_ (seq_ ?_)
  refine s_lock n1 hd0 dF du1 h1 fun od1 n2 => ?_
  have f1 : upd H1 d (.frz od1 (.dK kv1)) d = some (.frz od1 (.dK kv1)) := upd_same
  have n3 := n2.know (K' := KAnd (KR2 A B v v2 d d2) (Lkd HO.dK kI (zL zPN) d (waysC A))) ⟨n2.kn, lkd_of dK_inj n2.kn.1.2 (by rw [hid_out dF]; exact f1)⟩
  refine s_for n3 (ei_keysI (ev_var (Φ := IsV (.ref d)) rfl rfl) n3.kn.2) fun Kn H2 sKn e2 n4 => ?_
  rw [keys_waysC]
  refine ⟨fun i σ' H' => ∃ a6 kl, σ' = [some v, some v2, some (.ref d), some (.ref d2), some (.ref p), some (.ref q), a6, none, none, none, none] ∧ H' q = some (.dT kl) ∧ kl.map (·.1) = (pairsI A B i).map kP ∧ H' p = some (.dT []) ∧ H' d = some (.frz od1 (.dK kv1)) ∧ H' d2 = some (.dK kv2) ∧ Now ⟨q :: p :: F, none⟩ (q :: p :: []) H (KAnd (KAnd (KR2 A B v v2 d d2) (Lkd HO.dK kI (zL zPN) d (waysC A))) Kn) H', ⟨none, [], rfl, e2.pure _ _ (by rw [upd_ne (Ne.symm dq)]; exact hq1), rfl, e2.pure _ _ (by rw [upd_ne (Ne.symm dp)]; exact hp1), e2.pure _ _ f1, e2.pure _ _ (by rw [upd_ne (Ne.symm ne)]; exact h2), n4⟩, ?_, ?_, ?_⟩
  · rintro i σ' H' ⟨a6, kl, rfl, _, _, _, _, _, n5⟩
    exact ⟨n5.dm, n5.kn.2⟩
  · rintro i m u σ' H4 H5 hx ⟨a6, kl, rfl, hq, hk, hp, hd, hd2, n5⟩ sm hu'
    obtain rfl : u = .int m := hu'
    have n6 := n5.go (re.same sm)
    have hm : m ∈ reachL A := List.mem_of_getElem? hx
    have hq5 := sm _ _ hq
    have hd25 := sm _ _ hd2
    refine g_name ?_
    refine tBM_of ?_
    refine ⟨.ref q, rfl, .inr (.inr (.inl ⟨rfl, .inr ⟨kl, hq5⟩⟩)), ?_⟩
    have ndr : (((reachL B).map fun n => (m, n)) : List (Int × Int)).Nodup := List.pairwise_map.mpr (List.Pairwise.imp (fun h e => h (by injection e)) (reach_nodup B))
    refine (en_dictP (l := un ((reachL B).map fun n => (m, n))) (ev_lock (Φ := At (zL (zT2 zP2 zAny)) (un ((reachL B).map fun n => (m, n)))) du2 hd25 d2F n6.dm fun od2 dm2 => EvP.is (ev_lcD (S := zT2 zP2 zAny) (K := Lkd HO.dK kI (zL zPN) d2 (waysC B)) (lkd_of dK_inj (Lkb.up (R := zW) (up_lock (F := q :: p :: F) du2 hd25) n6.kn.1.1.2) (by rw [hid_out d2F]; exact upd_same)) (ei_keysI (ev_var (Φ := IsV (.ref d2)) rfl rfl) (lkd_of dK_inj (Lkb.up (R := zW) (up_lock (F := q :: p :: F) du2 hd25) n6.kn.1.1.2) (by rw [hid_out d2F]; exact upd_same))) (by rw [keys_waysC]; omega) (fun _ => true) (fun n => ((m, n), ())) fun y f' H' u hy hb dm' e' k' hr' => bnd_name ⟨rfl, et_yes, fun _ => ev_tup2 (R := zP2) (S := zAny) (x := (m, y)) (y := ()) (ev_tup2 (R := zI) (S := zI) (x := m) (y := y) (ev_var (Φ := At zI m) (v := .int m) rfl rfl) (ev_var (Φ := At zI y) rfl hr')) (ev_any ev_bl)⟩) (by unfold un; rw [filter_yes, keys_waysC, List.map_map]; rfl)) (by rw [un_keys]; exact ndr)) H5 (re.refl _) n6.dm _ fun o H6 ho e6 ho' => ?_
    obtain ⟨_, ls, eo, h6, hls⟩ := ho'
    cases eo
    have h6 : H6 o = some (.dT ls) := (hid_some h6).2
    have kls := keys_un hls
    have qo : q ≠ o := fun z => by rw [← z, hq5] at ho; cases ho
    have allk : (kl ++ ls).map (·.1) = (pairsI A B (i + 1)).map kP := by rw [List.map_append, hk, kls, pairsI_step hx, List.map_append]
    have ndI : (pairsI A B (i + 1)).Nodup := (pairsI_sub A B (i + 1)).nodup nodup_pairs
    have lI := (pairsI_sub A B (i + 1)).length_le
    have la := len_keys allk
    rw [List.length_append] at la
    refine ⟨q, o, kl, ls, rfl, rfl, qo, e6.pure _ _ hq5, h6, ?_, Nat.le_trans (by omega : kl.length + ls.length ≤ 100000) (by decide), .inr (hash_keys kls ndr fun x hx => ?_), ?_⟩
    · rw [allk]
      exact nodup_enc put_P.inj ndI
    · obtain ⟨y, hy, rfl⟩ := List.mem_map.mp hx
      exact pairs_rng oa ob (mem_pairs.mpr ⟨hm, hy⟩)
    · exact ⟨_, kl ++ ls, rfl, upd_same, allk, by rw [upd_ne pq]; exact e6.pure _ _ (sm _ _ hp), by rw [upd_ne dq]; exact e6.pure _ _ (sm _ _ hd), by rw [upd_ne d2q]; exact e6.pure _ _ hd25, (n6.go e6).upd List.mem_cons_self⟩
  rintro σ' H3 ⟨a6, kl, rfl, hq, hk, hp, hd, hd2, n5⟩
  rw [pairsI_all] at hk
  have n6 := (n5.know (K' := KR2 A B v v2 d d2) n5.kn.1.1).unlock hd0 dF du1 hd
  refine ⟨hd, nx_ (seq_ ?_)⟩
  have n7 : Now ⟨p :: F, none⟩ [p] H (KR2 A B v v2 d d2) (upd H3 d (.dK kv1)) := n6.drop1 fun a m => (List.mem_singleton.mp m) ▸ List.mem_cons_self
  have qpF : q ∉ p :: F := fun m => (List.mem_cons.mp m).elim (fun z => pq z.symm) qF
  have hq7 : upd H3 d (.dK kv1) q = some (.dT kl) := by rw [upd_ne (Ne.symm dq)]; exact hq
  have hp7 : upd H3 d (.dK kv1) p = some (.dT []) := by rw [upd_ne (Ne.symm dp)]; exact hp
  refine s_forR (f := ⟨p :: F, none⟩) (Pr := fun k => k = ((pairsL A B).length : Int) + 2) (N := 102) n7 (ea_cons (ev_op (Φ1 := At zI ((pairsL A B).length : Int)) (EvP.is (ev_cb (ea_cons (ev_var (Φ := At (zUP zAny) (un (pairsL A B))) (v := .ref q) rfl (vis_keys qpF hq7 hk)) ea_nil) ra_lenDT) (by rw [List.length_map])) ev_int (Ru2.imp ru_add fun G v z => ⟨_, rfl, z⟩)) ea_nil) (by decide) (fun i h => by omega) fun M H4 hM hM2 e4 n8 => ?_
  refine ⟨fun i σ' H' => ∃ q a6 a8 a9 ll rr kl kr, σ' = [some v, some v2, some (.ref d), some (.ref d2), some (.ref p), some (.ref q), a6, none, a8, a9, none] ∧ H' q = some (.dT kl) ∧ kl.map (·.1) = ll.map kP ∧ H' p = some (.dT kr) ∧ kr.map (·.1) = rr.map kP ∧ RkI A B i ll rr ∧ H q = none ∧ q ∉ p :: F ∧ Now ⟨p :: F, none⟩ [p] H (KR2 A B v v2 d d2) H', ⟨q, a6, none, none, _, _, kl, [], rfl, e4.pure _ _ hq7, hk, e4.pure _ _ hp7, rfl, .start A B, hq0, qpF, n8⟩, ?_, ?_, ?_⟩
  · rintro i σ' H' ⟨q, a6, a8, a9, ll, rr, kl, kr, rfl, _, _, _, _, _, _, _, n9⟩
    exact n9.dm
  · rintro i σ' H5 H6 im ⟨q, a6, a8, a9, ll, rr, kl, kr, rfl, hq, hk, hp, hr6, rk, hq0, qpF, n9⟩ sm
    refine g_name ?_
    have n10 := n9.go (re.same sm)
    have hq6 := sm _ _ hq
    have hp6 := sm _ _ hp
    have qF : q ∉ F := fun m => qpF (List.mem_cons_of_mem _ m)
    have qp : q ≠ p := fun z => qpF (z ▸ List.mem_cons_self)
    have ll1 := rk.llen
    have rr1 := rk.rlen
    have du : DictO (.dT kl) := trivial
    -- those that go
    have n11 := n10.know (K' := KAnd (KR2 A B v v2 d d2) (KV (At (zDP zAny) (un ll)) (.ref q))) ⟨n10.kn, zU_zD (vis_keys qpF hq6 hk)⟩
    refine seq_ ?_
    refine s_lock n11 hq0 qpF du hq6 fun od n12 => ?_
    have n13 := n12.know (K' := KAnd (KAnd (KR2 A B v v2 d d2) (KV (At (zDP zAny) (un ll)) (.ref q))) (Lkd HO.dT kP zAny q (un ll))) ⟨n12.kn, lkd_of dT_inj n12.kn.2 (by rw [hid_out qpF]; exact upd_same)⟩
    refine s_set (σ := [some v, some v2, some (.ref d), some (.ref d2), some (.ref p), some (.ref q), a6, none, some (.int (i : Int)), a9, none]) n13 (Φ := At (zL zP2) (goneL A B i ll)) (EvP.is (ev_lcD (S := zP2) n13.kn (ei_keysP (ev_var (Φ := IsV (.ref q)) rfl rfl) n13.kn.2) (by rw [un_keys]; omega) (fun x => fallB (waysC A) (waysC B) x (i : Int) (un ll) A.bg B.bg) (fun x => x) fun x f' H'' u hx hb dm' e' k' hr' => bnd_name ⟨rfl, et_test1 (ev_call (x := (⟨waysC A, waysC B, x, (i : Int), un ll, A.bg, B.bg, okW_waysC oa, okW_waysC ob, ?_, ?_⟩ : FallI)) (ea_cons (ev_var (Φ := At zW (waysC A)) (v := .ref d) rfl k'.1.1.1.2) (ea_cons (ev_var (Φ := At zW (waysC B)) (v := .ref d2) rfl k'.1.1.2) (ea_cons (ev_var (Φ := At zP2 x) rfl hr') (ea_cons (ev_var (Φ := At zI (i : Int)) (v := .int (i : Int)) rfl rfl) (ea_cons (ev_var (Φ := At (zDP zAny) (un ll)) (v := .ref q) rfl k'.1.2) (ea_cons (ev_tup2 (R := zL zI) (S := zL zI) (x := A.bg) (y := B.bg) (ev_pt1 (ev_var (v := v) rfl k'.1.1.1.1.1)) (ev_pt1 (ev_var (v := v2) rfl k'.1.1.1.1.2))) ea_nil))))))), fun _ => ev_var (Φ := At zP2 x) rfl hr'⟩) (by rw [un_keys, map_same]; rfl)) fun v9 H7 e7 n14 => ?_
    · rw [un_keys] at hx
      rw [keys_waysC]
      exact (mem_pairs.mp (rk.mem.mp hx).1).1
    · rw [un_keys] at hx
      rw [keys_waysC]
      exact (mem_pairs.mp (rk.mem.mp hx).1).2
    have hq7 : H7 q = some (.frz od (.dT kl)) := e7.pure _ _ upd_same
    have hp7 : H7 p = some (.dT kr) := e7.pure _ _ (by rw [upd_ne (Ne.symm qp)]; exact hp6)
    have n15 := (n14.know (K' := KAnd (KAnd (KR2 A B v v2 d d2) (KV (At (zDP zAny) (un ll)) (.ref q))) (KV (At (zL zP2) (goneL A B i ll)) v9)) ⟨n14.kn.1.1, n14.kn.2⟩).unlock hq0 qpF du hq7
    have hp8 : upd H7 q (.dT kl) p = some (.dT kr) := by rw [upd_ne (Ne.symm qp)]; exact hp7
    have hq8 : upd H7 q (.dT kl) q = some (.dT kl) := upd_same
    have gnd : (goneL A B i ll).Nodup := List.Pairwise.filter _ rk.lnd
    have gl : (goneL A B i ll).length ≤ ll.length := List.length_filter_le _ _
    refine ⟨hq7, nx_ (seq_ ?_)⟩
    -- they get their rank
    refine tBM_of ?_
    refine ⟨.ref p, rfl, .inr (.inr (.inl ⟨rfl, .inr ⟨kr, hp8⟩⟩)), ?_⟩
    refine (en_dictP (l := un (goneL A B i ll)) (EvP.is (ev_lcD (S := zT2 zP2 zAny) n15.kn (ei_list (R := zP2) (ev_var (Φ := At (zL zP2) (goneL A B i ll)) (v := v9) rfl n15.kn.2)) (by omega) (fun _ => true) (fun x => (x, ())) fun x f' H'' u hx hb dm' e' k' hr' => bnd_name ⟨rfl, et_yes, fun _ => ev_tup2 (R := zP2) (S := zAny) (x := x) (y := ()) (ev_var (Φ := At zP2 x) rfl hr') (ev_any (ev_var (Φ := At zI (i : Int)) (v := .int (i : Int)) rfl rfl))⟩) (by rw [filter_yes])) (by rw [un_keys]; exact gnd)) (upd H7 q (.dT kl)) (re.refl _) n15.dm _ fun o H9 ho e9 ho' => ?_
    obtain ⟨_, ls, eo, h9, hls⟩ := ho'
    cases eo
    have h9 : H9 o = some (.dT ls) := (hid_some h9).2
    have kls := keys_un hls
    have po : p ≠ o := fun z => by rw [← z, hp8] at ho; cases ho
    have allk : (kr ++ ls).map (·.1) = (rr ++ goneL A B i ll).map kP := by rw [List.map_append, hr6, kls, List.map_append]
    have nda : (rr ++ goneL A B i ll).Nodup := List.nodup_append.mpr ⟨rk.nd, gnd, fun a ha b hb e => (rk.mem.mp (rk.gone hb).1).2 (e ▸ ha)⟩
    have la := len_keys allk
    rw [List.length_append, List.length_append] at la
    refine ⟨p, o, kr, ls, rfl, rfl, po, e9.pure _ _ hp8, h9, ?_, Nat.le_trans (by omega : kr.length + ls.length ≤ 100000) (by decide), .inr (hash_keys kls gnd fun x hx => pairs_rng oa ob (rk.mem.mp (rk.gone hx).1).1), ?_⟩
    · rw [allk]
      exact nodup_enc put_P.inj nda
    have n16 := (n15.go e9).upd (p := p) (o := .dT (kr ++ ls)) List.mem_cons_self
    have hq10 : upd H9 p (.dT (kr ++ ls)) q = some (.dT kl) := by rw [upd_ne qp]; exact e9.pure _ _ hq8
    have hp10 : upd H9 p (.dT (kr ++ ls)) p = some (.dT (kr ++ ls)) := upd_same
    refine nx_ (seq_ ?_)
    -- those that are left
    have n17 := n16.see (Φ := At (zDP zAny) (un (rr ++ goneL A B i ll))) (zU_zD (vis_keys pF hp10 allk))
    have lnd2 : (ll.filter fun x => !decide (x ∈ rr ++ goneL A B i ll)).Nodup := List.Pairwise.filter _ rk.lnd
    have hasR : ∀ x : Int × Int, (!(valD (un (rr ++ goneL A B i ll)) x).isSome) = !decide (x ∈ rr ++ goneL A B i ll) := fun x => by
      congr 1
      exact Bool.eq_iff_iff.mpr (by rw [valD_isSome, un_keys, decide_eq_true_eq])
    refine s_setN (Φ := At (zUP zAny) (un (ll.filter fun x => !decide (x ∈ rr ++ goneL A B i ll)))) n17 (en_dictP (l := un (ll.filter fun x => !decide (x ∈ rr ++ goneL A B i ll))) (ev_lock (f := ⟨F, none⟩) (Φ := At (zL (zT2 zP2 zAny)) (un (ll.filter fun x => !decide (x ∈ rr ++ goneL A B i ll)))) du hq10 qF n17.dm fun od2 dm2 => EvP.is (ev_lcD (S := zT2 zP2 zAny) (K := KAnd (Lkd HO.dT kP zAny q (un ll)) (KV (At (zDP zAny) (un (rr ++ goneL A B i ll))) (.ref p))) ⟨lkd_of dT_inj (Lkb.up (R := zDP zAny) (up_lock (F := F) du hq10) n17.kn.1.1.2) (by rw [hid_out qF]; exact upd_same), Lkb.up (R := zDP zAny) (up_lock (F := F) du hq10) n17.kn.2⟩ (ei_keysP (ev_var (Φ := IsV (.ref q)) rfl rfl) (lkd_of dT_inj (Lkb.up (R := zDP zAny) (up_lock (F := F) du hq10) n17.kn.1.1.2) (by rw [hid_out qF]; exact upd_same))) (by rw [un_keys]; omega) (fun x => !decide (x ∈ rr ++ goneL A B i ll)) (fun x => (x, ())) fun x f' H'' u hx hb dm' e' k' hr' => bnd_name ⟨rfl, et_is (et_B1 (ev_dnotin get_P (ev_var (Φ := At zP2 x) rfl hr') (ev_var (Φ := At (zDP zAny) (un (rr ++ goneL A B i ll))) (v := .ref p) rfl k'.2))) (hasR x), fun _ => ev_tup2 (R := zP2) (S := zAny) (x := x) (y := ()) (ev_var (Φ := At zP2 x) rfl hr') (ev_any ev_bl)⟩) (by rw [un_keys])) (by rw [un_keys]; exact lnd2)) fun q' H11 hq' e11 n18 => ?_
    have n19 := n16.go e11
    have hp11 : H11 p = some (.dT (kr ++ ls)) := e11.pure _ _ hp10
    have q'pF : q' ∉ p :: F := n16.dm.new hq'
    have q'0 : H q' = none := n17.out.free hq'
    obtain ⟨_, kl', eq', h11, hkl'⟩ := id n18.kn.2
    cases eq'
    have h11 : H11 q' = some (.dT kl') := (hid_some h11).2
    have kkl' := keys_un hkl'
    refine nx_ ?_
    refine s_if (σ := [some v, some v2, some (.ref d), some (.ref d2), some (.ref p), some (.ref q'), a6, none, some (.int (i : Int)), some v9, none]) n18 (et_and (et_B1 (ev_op (ev_var (Φ := At zI (i : Int)) (v := .int (i : Int)) rfl rfl) ev_int ru_gt)) fun _ => et_B1 (ev_op (ev_var (Φ := At (zL zP2) (goneL A B i ll)) (v := v9) rfl n18.kn.1.1.2) (ev_lst (R := zP2) ee_nil (Nat.zero_le _)) ru_eqD)) (fun pt H12 e12 n20 => ?_) fun pf H12 e12 n20 => ?_
    · have pt := pt.symm
      rw [Bool.and_eq_true, decide_eq_true_eq, decide_eq_true_eq] at pt
      refine s_ret n20 (EvP.is (ev_tup2 (R := zL zP2) (S := zAny) (x := canon (ll.filter fun x => !decide (x ∈ rr ++ goneL A B i ll))) (y := ()) (EvP.is (ev_cb (ea_cons (Φ := At (zDP zAny) (un (ll.filter fun x => !decide (x ∈ rr ++ goneL A B i ll)))) (EvP.imp (ev_var (Φ := At (zUP zAny) (un (ll.filter fun x => !decide (x ∈ rr ++ goneL A B i ll)))) (v := .ref q') rfl n20.kn.2) fun G v z => zU_zD z) ea_nil) (ra_sortedD (R := zP2) (l := un (ll.filter fun x => !decide (x ∈ rr ++ goneL A B i ll))) (by rw [un_keys]; exact lnd2) fun _ _ => trivial)) (by rw [un_keys])) (ev_any (ev_var (Φ := IsV (.ref p)) (v := .ref p) rfl rfl))) (by rw [rk.done (by omega) pt.2])) fun v12 H13 e13 n21 => ?_
      exact kk v12 H13 n21.pure n21.kn.2
    · have go : 0 < i → goneL A B i ll ≠ [] := fun i0 z => by
        rw [decide_eq_true (show (0 : Int) < (i : Int) by omega), decide_eq_true z] at pf
        cases pf
      exact ⟨q', a6, _, _, _, _, kl', kr ++ ls, rfl, e12.pure _ _ h11, kkl', e12.pure _ _ hp11, allk, rk.next go, q'0, q'pF, (n19.go e12).know (n19.go e12).kn.1.1⟩
  · rintro σ' H5 ⟨q, a6, a8, a9, ll, rr, kl, kr, rfl, hq, hk, hp, hr6, rk, hq0, qpF, n9⟩
    have h1 := rk.few
    have h2 := rk.rlen
    omega
end
end FF
namespace FF
open PySem PySem.Spec PyProof.Rows L2
def HasAlk (A B : PD) (asked : List Int) : Prop := ∀ a ∈ asked, ∃ b, Alk A B a b
noncomputable def alksL (A B : PD) (a : Int) : List Int := ((canon (followL A B)).filter fun q => decide (q.1 = a) && yes (Fol B A q.2 a)).map fun q => q.2
theorem alks_nil {A B : PD} {a : Int} : alksL A B a = [] ↔ ¬ ∃ b, Alk A B a b := by
  unfold alksL
  rw [List.map_eq_nil_iff, List.filter_eq_nil_iff]
  constructor
  · rintro h ⟨b, h1, h2⟩
    refine h (a, b) (mem_canon.mpr (mem_follow.mpr h1)) ?_
    rw [Bool.and_eq_true, decide_eq_true_eq, yes_iff]
    exact ⟨rfl, h2⟩
  · rintro h ⟨x, b⟩ hq hp
    rw [Bool.and_eq_true, decide_eq_true_eq, yes_iff] at hp
    obtain ⟨e, h2⟩ := hp
    have e : x = a := e
    subst e
    exact h ⟨b, mem_follow.mp (mem_canon.mp hq), h2⟩
section
variable {P : Program} {w : World} {K : PySem.W.Frag} {mg : Str → Option Value} {base : Heap} {C : Addr}
abbrev s__law_has_alike : Stmt := topS 47
abbrev N__law_has_alike : List Str := ["_law_parts", "_law_asked", "_law_others", "_law_mine", "_law_its", "_law_place", "_law_one", "_law_two"]
abbrev P__law_has_alike : List Str := ["_law_parts", "_law_asked", "_law_others"]
theorem sc__law_has_alike : FnScope N__law_has_alike P__law_has_alike (C8.fnScope s__law_has_alike) := C8.fnScope_by (by decide +kernel)
structure HasI where
  A : PD
  asked : List Int
  B : PD
  oa : OkP A
  ob : OkP B
  few : asked.length ≤ 100
abbrev sp_law_has_alike : Sp := SpP (ι := HasI) (fun x => ACons (At zPt x.A) (ACons (At (zL zI) x.asked) (ACons (At zPt x.B) ANil))) (fun x => At zB (yes (HasAlk x.A x.B x.asked)))
theorem ok_law_has_alike {f : Addr} {fd : FuncData} (F : C8.Def K mg "_law_has_alike" s__law_has_alike f fd) (b : L2.Binds K fd P__law_has_alike []) (T : Txt K mg C) (c__law_ranks : C8.Cal P w K mg base 3 "_law_ranks" sp_law_ranks []) : C8.Cal P w K mg base 4 "_law_has_alike" sp_law_has_alike [] := by
  refine C8.cal0 F b .nil sc__law_has_alike (spP_len fun x G vs h => alS h fun _ h => alS h fun _ h => alS h fun _ h => al0 h) (fun cdv A0 outer s H vs Q E hr h => ?_)
  obtain ⟨⟨A, asked, B, oa, ob, few⟩, F, hF, ⟨v, r, rfl, p, v2, r2, rfl, p2, v3, r3, rfl, p3, rfl⟩, kk⟩ := h
  have hu := hu_of hr
  refine ⟨_, (pss_cons (ps_asg (pe_tup (pa_cons (pe_ix ix_tup (C8.pe_c c__law_ranks hr (by decide) rfl (pa_cons (pv 0) (pa_cons (pv 2) pa_nil))) pe_int (fun _ _ => rfl)) (pa_cons (pe_ix ix_tup (C8.pe_c c__law_ranks hr (by decide) rfl (pa_cons (pv 2) (pa_cons (pv 0) pa_nil))) pe_int (fun _ _ => rfl)) pa_nil))) (pg_tup rfl (pgs_cons (pg_name (i := 3) sc__law_has_alike.nd rfl (.inl rfl)) (pgs_cons (pg_name (i := 4) sc__law_has_alike.nd rfl (.inr rfl)) pgs_nil)))) (pss_cons (ps_for PassesOwn.never rfl (pi_list (pv 1)) (pg_name (i := 5) sc__law_has_alike.nd rfl (.inr rfl)) (pss_one (ps_if (pt_cmpR (op_eqD hr.units) (pe_lc (own := [("_law_one", 6), ("_law_two", 7)]) rfl sc__law_has_alike.nd (pi_list (pv 3)) (blkOk_by (own := [("_law_one", 6), ("_law_two", 7)]) (N := N__law_has_alike) (sc := C8.fnScope s__law_has_alike) (by decide +kernel)) (fun _ _ _ _ _ => (pg_tupK (n := 2) blkK (by rfl) (pgs_cons (pg_name (i := 6) sc__law_has_alike.nd rfl (.inl rfl)) (pgs_cons (pg_name (i := 7) sc__law_has_alike.nd rfl (.inl rfl)) pgs_nil)))) (fun _ _ _ _ _ => (pts_one (PW.pt (pw_and (pt_cmpR op_eq (pv 6) (pv 5) (nomark _)) (pw_and1 (pt_cmpR (op_inDK blkK hr.unitsD) (pe_tup (pa_cons (pv 7) (pa_cons (pv 5) pa_nil))) (pv 4) (by rfl))))))) (fun _ _ _ _ _ => (pv 7))) (pe_lst pa_nil) (nomark _)) (pss_one (ps_ret pe_bl)) pss_nil))) (pss_one (ps_ret pe_bl)))), ?_⟩
  have n : Now ⟨F, none⟩ [] H (KAnd (KAnd (KV (At zPt A) v) (KV (At (zL zI) asked) v2)) (KV (At zPt B) v3)) H := Now.start (dmP hF) ⟨⟨p, p2⟩, p3⟩
  have fl := follow_len oa ob
  have cl := canon_len (followL A B)
  refine seq_ (s_asgP (Φ1 := At (zL zP2) (canon (followL A B))) (Φ2 := At (zL zP2) (canon (followL B A))) n (ev_op (ev_call (x := (⟨(A, B), oa, ob⟩ : PD2)) (ea_cons (ev_var (Φ := At zPt A) (v := v) rfl n.kn.1.1) (ea_cons (ev_var (Φ := At zPt B) (v := v3) rfl n.kn.2) ea_nil))) ev_int ru_ix20) (ev_op (ev_call (x := (⟨(B, A), ob, oa⟩ : PD2)) (ea_cons (ev_var (Φ := At zPt B) (v := v3) rfl n.kn.2) (ea_cons (ev_var (Φ := At zPt A) (v := v) rfl n.kn.1.1) ea_nil))) ev_int ru_ix20) fun v4 v5 H1 e1 n1 => ?_)
  refine nx_ (seq_ ?_)
  refine s_for n1 (ei_list (R := zI) (ev_var (Φ := At (zL zI) asked) (v := v2) rfl n1.kn.1.1.1.2)) fun Kn H2 sKn e2 n2 => ?_
  refine ⟨fun i σ' H' => ∃ a5, σ' = [some v, some v2, some v3, some v4, some v5, a5, none, none] ∧ HasAlk A B (asked.take i) ∧ Now ⟨F, none⟩ [] H (KAnd (KAnd (KAnd (KAnd (KAnd (KV (At zPt A) v) (KV (At (zL zI) asked) v2)) (KV (At zPt B) v3)) (KV (At (zL zP2) (canon (followL A B))) v4)) (KV (At (zL zP2) (canon (followL B A))) v5)) Kn) H', ⟨none, rfl, fun a h => (nomatch h), n2⟩, ?_, ?_, ?_⟩
  · rintro i σ' H' ⟨a5, rfl, _, n3⟩
    exact ⟨n3.dm, n3.kn.2⟩
  · rintro i a u σ' H3 H4 hx ⟨a5, rfl, ok, n3⟩ sm hu'
    obtain rfl : u = .int a := hu'
    have n4 := n3.go (re.same sm)
    refine g_name ?_
    refine s_if n4 (et_B1 (ev_op (EvP.is (y := alksL A B a) (ev_lcD (S := zI) n4.kn (ei_list (R := zP2) (ev_var (Φ := At (zL zP2) (canon (followL A B))) (v := v4) rfl n4.kn.1.1.2)) (by omega) (fun q => decide (q.1 = a) && yes (Fol B A q.2 a)) (fun q => q.2) fun q f' H' u hq hb dm' e' k' hr' => bnd_tup2 hr' fun t u1 u2 _ _ h1 h2 => ⟨rfl, et_and (et_B1 (ev_op (ev_var (Φ := At zI q.1) rfl h1) (ev_var (Φ := At zI a) (v := .int a) rfl rfl) ru_eqI)) fun _ => et_B1 (ev_op (ev_tup2 (R := zI) (S := zI) (x := q.2) (y := a) (ev_var (Φ := At zI q.2) rfl h2) (ev_var (Φ := At zI a) (v := .int a) rfl rfl)) (ev_var (Φ := At (zL zP2) (canon (followL B A))) (v := v5) rfl k'.1.2) (ru_inDb (R := zP2) (x := (q.2, a)) (l := canon (followL B A)) (yes_iff.trans (mem_canon.trans mem_follow).symm))), fun _ => ev_var (Φ := At zI q.2) rfl h2⟩) rfl) (ev_lst (R := zI) ee_nil (Nat.zero_le _)) ru_eqD)) (fun pt H5 e5 n5 => ?_) fun pf H5 e5 n5 => ?_
    · have no := alks_nil.mp (of_decide_eq_true pt.symm)
      refine s_ret n5 ev_bl fun v7 H7 e7 n7 => ?_
      refine kk v7 H7 n7.pure ?_
      show zB _ v7 (yes (HasAlk A B asked))
      have : yes (HasAlk A B asked) = false := by
        cases q : yes (HasAlk A B asked) with
        | false => rfl
        | true => exact absurd (yes_iff.mp q a (List.mem_of_getElem? hx)) no
      rw [this]
      exact n7.kn.2
    · have has : ∃ b, Alk A B a b := Classical.byContradiction fun z => of_decide_eq_false pf.symm (alks_nil.mpr z)
      refine ⟨_, rfl, fun x hx' => ?_, n5⟩
      rw [List.take_add_one, hx] at hx'
      rcases List.mem_append.mp hx' with h | h
      · exact ok x h
      · have : x = a := List.mem_singleton.mp h
        rw [this]
        exact has
  · rintro σ' H3 ⟨a5, rfl, ok, n3⟩
    rw [List.take_length] at ok
    refine nx_ ?_
    refine s_ret n3 ev_bl fun v7 H7 e7 n7 => ?_
    refine kk v7 H7 n7.pure ?_
    show zB _ v7 (yes (HasAlk A B asked))
    rw [yes_iff.mpr ok]
    exact n7.kn.2
abbrev s__law_made : Stmt := topS 40
abbrev N__law_made : List Str := ["_law_bag_here", "_law_parts", "_law_places", "_law_begins", "_law_edges"]
abbrev P__law_made : List Str := ["_law_bag_here", "_law_parts"]
theorem sc__law_made : FnScope N__law_made P__law_made (C8.fnScope s__law_made) := C8.fnScope_by (by decide +kernel)
abbrev sp_law_made (C : Addr) : Sp := SpB (ι := PDo) (fun x => ACons (At zPt x.1) ANil) (fun x => At (zPr C) x.1)
theorem ok_law_made {f : Addr} {fd : FuncData} (F : C8.Def K mg "_law_made" s__law_made f fd) (b : L2.Binds K fd P__law_made []) (T : Txt K mg C) (c__law_take : C8.Cal P w K mg base 1 "_law_take" sp_law_take []) (cmixI : C8.Cal P w K mg base 2 "_law_mixed" (sp_law_mixed zI) []) (cmixE : C8.Cal P w K mg base 2 "_law_mixed" (sp_law_mixed zE) []) (c_Program : C8.Mak P w K mg base 5 "Program" C (sp_init C) []) : C8.Cal P w K mg base 7 "_law_made" (sp_law_made C) [] := by
  refine C8.cal0 F b .nil sc__law_made (spB_len fun x G vs h => alS h fun _ h => al0 h) (fun cdv A0 outer s H vs Q E hr h => ?_)
  obtain ⟨⟨x, ok⟩, F, b, c, rest, rfl, hbF, hF, hB, ⟨v, r, rfl, p, rfl⟩, kk⟩ := h
  have hu := hu_of hr
  refine ⟨_, (pss_cons (ps_asg (pv 1) (pg_tup rfl (pgs_cons (pg_name (i := 2) sc__law_made.nd rfl (.inl rfl)) (pgs_cons (pg_name (i := 3) sc__law_made.nd rfl (.inl rfl)) (pgs_cons (pg_name (i := 4) sc__law_made.nd rfl (.inl rfl)) pgs_nil))))) (pss_cons (ps_set (i := 3) sc__law_made.nd rfl (.inl rfl) (C8.pe_c cmixI hr (by decide) rfl (pa_cons (pv 0) (pa_cons (pe_op op_cat (pv 3) (pe_slice sl_list (pv 3) po_none (po_some (C8.pe_c c__law_take hr (by decide) rfl (pa_cons (pv 0) (pa_cons pe_int pa_nil)))))) pa_nil)))) (pss_one (ps_ret (C8.pe_mk c_Program hr (by decide) rfl (pa_cons (pv 2) (pa_cons (pv 3) (pa_cons (C8.pe_c cmixE hr (by decide) rfl (pa_cons (pv 0) (pa_cons (pe_op op_cat (pv 4) (pe_slice sl_list (pv 4) po_none (po_some (C8.pe_c c__law_take hr (by decide) rfl (pa_cons (pv 0) (pa_cons pe_int pa_nil)))))) pa_nil))) pa_nil)))))))), ?_⟩
  have n : Now ⟨F, some b⟩ [] H (KV (At zPt x) v) H := Now.start (dmB hF hbF) p
  have few := ok.few
  have perm : ∀ {α : Type} {l m q : List α} {k : Int}, m = part l none (some k) → 0 ≤ k → q.Perm (l ++ m) → (∀ y, y ∈ q ↔ y ∈ l) ∧ q.length ≤ l.length + k.toNat := fun {α l m q k} hm h0 hq => by
    have e : part l none (some k) = l.take k.toNat := by
      have := part_take (l := l) (i := k.toNat)
      rw [show ((k.toNat : Nat) : Int) = k by omega] at this
      exact this
    rw [e] at hm
    refine ⟨fun y => hq.mem_iff.trans ?_, ?_⟩
    · rw [List.mem_append, hm]
      exact ⟨fun z => z.elim id List.mem_of_mem_take, .inl⟩
    · rw [hq.length_eq, List.length_append, hm, List.length_take]
      omega
  refine seq_ (s_asg3 (R := zI) (S := zL zI) (T := zL zE) (x := (x.pl, x.bg, x.ed)) n (ev_pt (ev_var (v := v) rfl n.kn)) fun u1 u2 u3 H1 e1 n1 => ?_)
  obtain rfl : u1 = .int x.pl := n1.kn.1.1.2
  have hB1 := (n1.out.2 b rfl).2 c hB
  refine nx_ (seq_ ?_)
  refine s_set n1 (Φ := Som (zL zI) fun l => (∀ y, y ∈ l ↔ y ∈ x.bg) ∧ l.length < 64) (EvP.imp (ev_callBx (f := ⟨F, some b⟩) (Arg := fun l => ACons (At (zL zI) l.1) ANil) (Res := fun l => Som (zL zI) fun m => m.Perm l.1) (X := fun l : { l : List Int // l.length ≤ 100 } => ∃ m k, m = part x.bg none (some k) ∧ InR 2 k ∧ l.1 = x.bg ++ m) rfl hB1 rfl (EvA.imp (ea_cons (Φ := Som (zL zI) fun l => ∃ m k, m = part x.bg none (some k) ∧ InR 2 k ∧ l = x.bg ++ m) (ev_op (ev_var (Φ := At (zL zI) x.bg) (v := u2) rfl n1.kn.1.2) (ev_sliceB (ev_var (Φ := At (zL zI) x.bg) (v := u2) rfl n1.kn.1.2) (ev_callB (f := ⟨F, some b⟩) (x := (⟨2, by decide, by decide⟩ : Many)) rfl hB1 rfl (ea_cons ev_int ea_nil))) (Ru2.ex2 fun m hm => ?_)) ea_nil) fun G vs hv => ?_)) fun G v hv => ?_) fun v3 H2 e2 n2 => ?_
  · obtain ⟨k, hk, hm⟩ := hm
    have hk : InR 2 k := hk
    have h0 := hk.1
    have h2 := hk.2
    have e := (perm hm h0 (List.Perm.refl _)).2
    rw [List.length_append] at e
    exact Ru2.imp (ru_cat (by omega)) fun G v z => ⟨_, ⟨m, k, hm, hk, rfl⟩, z⟩
  · obtain ⟨u, r, rfl, ⟨l, ⟨m, k, hm, hk, rfl⟩, hl⟩, hr⟩ := hv
    have e := (perm hm hk.1 (List.Perm.refl _)).2
    have h2 := hk.2
    exact ⟨⟨x.bg ++ m, by omega⟩, ⟨m, k, hm, hk, rfl⟩, u, r, rfl, hl, hr⟩
  · obtain ⟨⟨l, hl⟩, ⟨m, k, hm, hk, el⟩, q, hq, hv⟩ := hv
    have el : l = x.bg ++ m := el
    have hq : q.Perm l := hq
    rw [el] at hq
    have h2 := hk.2
    have e := perm hm hk.1 hq
    exact ⟨q, ⟨e.1, by omega⟩, hv⟩
  obtain ⟨bl, ⟨hbl, bll⟩, hv3⟩ := id n2.kn.2
  have n3 := n2.know (K' := KAnd (KV (At (zL zE) x.ed) u3) (KV (At (zL zI) bl) v3)) ⟨n2.kn.1.2, hv3⟩
  have hB2 := (n3.out.2 b rfl).2 c hB
  refine nx_ ?_
  refine s_ret n3 (ev_makeS (P := x) (pl := x.pl) (Pb := fun l => l = bl) (Pe := fun l => (∀ y, y ∈ l ↔ y ∈ x.ed) ∧ l.length < 64) (fun l el hb he => ?_) (fun l el hb he => ?_) (ea_cons (ev_var (Φ := At zI x.pl) (v := .int x.pl) rfl rfl) (ea_cons (EvP.imp (ev_var (Φ := At (zL zI) bl) (v := v3) rfl n3.kn.2) fun G v z => ⟨bl, rfl, z⟩) (ea_cons (EvP.imp (ev_callBx (f := ⟨F, some b⟩) (Arg := fun l => ACons (At (zL zE) l.1) ANil) (Res := fun l => Som (zL zE) fun m => m.Perm l.1) (X := fun l : { l : List E3 // l.length ≤ 100 } => ∃ m k, m = part x.ed none (some k) ∧ InR 3 k ∧ l.1 = x.ed ++ m) rfl hB2 rfl (EvA.imp (ea_cons (Φ := Som (zL zE) fun l => ∃ m k, m = part x.ed none (some k) ∧ InR 3 k ∧ l = x.ed ++ m) (ev_op (ev_var (Φ := At (zL zE) x.ed) (v := u3) rfl n3.kn.1) (ev_sliceB (ev_var (Φ := At (zL zE) x.ed) (v := u3) rfl n3.kn.1) (ev_callB (f := ⟨F, some b⟩) (x := (⟨3, by decide, by decide⟩ : Many)) rfl hB2 rfl (ea_cons ev_int ea_nil))) (Ru2.ex2 fun m hm => ?_)) ea_nil) fun G vs hv => ?_)) fun G v hv => ?_) ea_nil)))) fun v4 H3 e3 n4 => kk v4 H3 n4.out n4.kn.2
  · obtain rfl : l = bl := hb
    exact ⟨ok.p1, by have := ok.p9; omega, fun z => ok.b0 (List.eq_nil_iff_forall_not_mem.mpr fun y hy => by
      have := (hbl y).mpr hy
      rw [z] at this
      cases this), fun y hy => ok.b1 y ((hbl y).mp hy), fun e m => ok.e1 e ((he.1 e).mp m), bll, he.2⟩
  · obtain rfl : l = bl := hb
    have e1 : canon l = x.bg := by rw [canon_congr hbl, canon_asc ok.ab]
    have e2 : canon el = x.ed := by rw [canon_congr he.1, canon_asc ok.ae]
    unfold mkP
    rw [e1, e2]
  · obtain ⟨k, hk, hm⟩ := hm
    have hk : InR 3 k := hk
    have h0 := hk.1
    have h2 := hk.2
    have e := (perm hm h0 (List.Perm.refl _)).2
    rw [List.length_append] at e
    exact Ru2.imp (ru_cat (by omega)) fun G v z => ⟨_, ⟨m, k, hm, hk, rfl⟩, z⟩
  · obtain ⟨u, r, rfl, ⟨l, ⟨m, k, hm, hk, rfl⟩, hl⟩, hr⟩ := hv
    have e := (perm hm hk.1 (List.Perm.refl _)).2
    have h2 := hk.2
    exact ⟨⟨x.ed ++ m, by omega⟩, ⟨m, k, hm, hk, rfl⟩, u, r, rfl, hl, hr⟩
  · obtain ⟨⟨l, hl⟩, ⟨m, k, hm, hk, el⟩, q, hq, hv⟩ := hv
    have el : l = x.ed ++ m := el
    have hq : q.Perm l := hq
    rw [el] at hq
    have h2 := hk.2
    have e := perm hm hk.1 hq
    exact ⟨q, ⟨e.1, by omega⟩, hv⟩
end
end FF
namespace FF
open PySem PySem.Spec PyProof.Rows L2
theorem rng_len {pl : Int} {l : List Int} (a : Asc l) (h : ∀ x ∈ l, InR pl x) : (l.length : Int) ≤ pl ∨ l = [] := by
  have hl := nodup_len (m := upto pl.toNat) (asc_nodup a) fun x hx => (by
    have := h x hx
    exact mem_upto.mpr ⟨this.1, by have := this.2; omega⟩)
  rw [upto_length] at hl
  cases l with
  | nil => exact .inr rfl
  | cons x l =>
    have := h x List.mem_cons_self
    have h1 := this.1
    have h2 := this.2
    exact .inl (by omega)
theorem okT_ok {bound : Int} {many : Nat} {B : PD} (h : OkT bound many B) (hb : bound ≤ 10) (hm : many ≤ 20) : OkP B where
  p1 := h.p1
  p9 := by have := h.pb; omega
  b0 := h.b0
  b1 := h.b1
  e1 := h.e1
  ab := h.ab
  ae := h.ae
  few := by
    have h1 := h.few
    have h2 := h.pb
    rcases rng_len h.ab h.b1 with h3 | h3
    · omega
    · exact absurd h3 h.b0
def minE (pl : Int) (e : E3) : E3 := (min e.1 (pl - 2), e.2.1, min e.2.2 (pl - 2))
def Lesser (B A : PD) : Prop := B.pl < A.pl ∨ (B.pl = A.pl ∧ B.ed.length < A.ed.length)
section
variable {f : Fr} {σ : L2.St} {H : Hp} {te ta : TE} {Kf : PySem.W.Frag} {Φ : Hp → V → Prop} {α β γ : Type} {R : Rep α} {S : Rep β} {T : Rep γ}
/-- t[:2] of three -/
theorem ev_two [Stb R] [Stb S] {x : α × β × γ} (h : EvP f te σ H (At (zT3 R S T) x)) : EvP f (tSl (rSlT Kf) te tNoPart (tPart (tC (.int 2)))) σ H (At (zT2 R S) (x.1, x.2.1)) := fun H1 e d Q q =>
  h H1 e d _ fun u H2 e2 ⟨a, v1, v2, v3, e3, ha, p1, p2, _⟩ => by
    subst e3
    refine ⟨2, rfl, a, [v1, v2, v3], rfl, SqT.of (hid_same _ _ ha), (by show ¬ (HT.sIx 3 0 none = 0 ∧ HT.sIx 3 3 (some 2) = 3); decide), fun n hn => q _ _ (e2.trans (re.same (same_new hn))) ⟨n, v1, v2, rfl, ?_, Stb.up (up_new hn) p1, Stb.up (up_new hn) p2⟩⟩
    exact hid_new (d.re e2) hn
/-- a tuple of one -/
def ZT1 (Φ : Hp → V → Prop) : Hp → V → Prop := fun G v => ∃ a u, v = .ref a ∧ G a = some (.tup [u]) ∧ Φ G u
theorem ev_tup1 [StP Φ] (ha : EvP f ta σ H Φ) : EvP f (tTup (tCons ta tNil)) σ H (ZT1 Φ) := fun H1 e d Q q =>
  ea_cons ha ea_nil H1 e d _ fun vs H2 e2 ⟨u, r1, e3, p1, e6⟩ => by
    obtain rfl : r1 = [] := e6
    subst e3
    exact ⟨by show 1 ≤ sizeLine; decide, fun p hp => q _ _ (e2.trans (re.same (same_new hp))) ⟨p, u, rfl, hid_new (d.re e2) hp, StP.up (up_new hp) p1⟩⟩
theorem ru_catT [Stb R] [Stb S] [Stb T] {x : α × β} {z : γ} : Ru2 f (rCatT Kf) H (At (zT2 R S) x) (ZT1 (At T z)) (At (zT3 R S T) (x.1, x.2, z)) := fun H1 u w e d p p' Q q => by
  obtain ⟨a, v1, v2, rfl, ha, p1, p2⟩ := p
  obtain ⟨b, v3, rfl, hb, p3⟩ := p'
  refine ⟨a, b, [v1, v2], [v3], rfl, rfl, SqT.of (hid_same _ _ ha), SqT.of (hid_same _ _ hb), fun z => (nomatch z), by show 3 ≤ sizeLine; decide, fun z => (nomatch z), fun _ n hn => q _ _ (re.same (same_new hn)) ⟨n, v1, v2, v3, rfl, hid_new d hn, Stb.up (up_new hn) p1, Stb.up (up_new hn) p2, Stb.up (R := T) (up_new hn) p3⟩⟩
end
theorem cut_sub {α : Type} (l : List α) (k : Nat) : List.Sublist (l.take k ++ l.drop (k + 1)) l := by
  conv => rhs; rw [← List.take_append_drop k l]
  refine List.Sublist.append (.refl _) ?_
  rw [← List.drop_drop]
  exact List.drop_sublist 1 _
theorem cut_len {α : Type} {l : List α} {k : Nat} (h : k < l.length) : (l.take k ++ l.drop (k + 1)).length = l.length - 1 := by
  rw [List.length_append, List.length_take, List.length_drop]
  omega
section
variable {P : Program} {w : World} {K : PySem.W.Frag} {mg : Str → Option Value} {base : Heap} {C : Addr}
abbrev s__law_less : Stmt := topS 48
abbrev N__law_less : List Str := ["_law_bag_here", "_law_parts", "_law_names_here", "_law_places", "_law_begins", "_law_edges", "_law_way", "_law_at", "_law_one", "_law_m", "_law_name", "_law_n", "_law_place", "_law_less_here", "_law_to", "_law_there"]
abbrev P__law_less : List Str := ["_law_bag_here", "_law_parts", "_law_names_here"]
theorem sc__law_less : FnScope N__law_less P__law_less (C8.fnScope s__law_less) := C8.fnScope_by (by decide +kernel)
abbrev LessI := { x : PD × List Str // OkP x.1 ∧ x.2.length ≤ 10 }
abbrev sp_law_less : Sp := SpB (ι := LessI) (fun x => ACons (At zPt x.1.1) (ACons (At (zL zN) x.1.2) ANil)) (fun x => Som (zO zPt) fun o => ∀ B, o = some B → OkP B ∧ Lesser B x.1.1)
theorem ok_law_less {f : Addr} {fd : FuncData} (F : C8.Def K mg "_law_less" s__law_less f fd) (b : L2.Binds K fd P__law_less []) (T : Txt K mg C) (c__law_take : C8.Cal P w K mg base 1 "_law_take" sp_law_take []) (c__law_program : C8.Cal P w K mg base 3 "_law_program" sp_law_program []) : C8.Cal P w K mg base 4 "_law_less" sp_law_less [] := by
  refine C8.cal0 F b .nil sc__law_less (spB_len fun x G vs h => alS h fun _ h => alS h fun _ h => al0 h) (fun cdv A0 outer s H vs Q E hr h => ?_)
  obtain ⟨⟨⟨x, names⟩, ok, fewn⟩, F, b, c, rest, rfl, hbF, hF, hB, ⟨v, r, rfl, p, v2, r2, rfl, p2, rfl⟩, kk⟩ := h
  have ok : OkP x := ok
  have fewn : names.length ≤ 10 := fewn
  have hu := hu_of hr
  refine ⟨_, (pss_cons (ps_asg (pv 1) (pg_tup rfl (pgs_cons (pg_name (i := 3) sc__law_less.nd rfl (.inr rfl)) (pgs_cons (pg_name (i := 4) sc__law_less.nd rfl (.inl rfl)) (pgs_cons (pg_name (i := 5) sc__law_less.nd rfl (.inl rfl)) pgs_nil))))) (pss_cons (ps_par rfl sc__law_less.nd (show N__law_less[6]? = _ from rfl) (show N__law_less[7]? = _ from rfl) (by decide) rfl rfl (pa_cons (C8.pe_c c__law_take hr (by decide) rfl (pa_cons (pv 0) (pa_cons pe_int pa_nil))) (pa_cons (C8.pe_c c__law_take hr (by decide) rfl (pa_cons (pv 0) (pa_cons (pe_callB (call_max2 rfl) (by rfl) T.m_max (by decide +kernel) (pa_cons pe_int (pa_cons (pe_callB call_len_seq (by rfl) T.m_len (by decide +kernel) (pa_cons (pv 5) pa_nil)) pa_nil))) pa_nil))) pa_nil)) (by rfl)) (pss_cons (ps_if (PW.pt (pw_and (pt_cmpR op_eq (pv 6) pe_int (nomark _)) (pw_and1 (pt_cmpR op_gt (pv 3) pe_int (nomark _))))) (pss_one (ps_ret (C8.pe_c c__law_program hr (by decide) rfl (pa_cons (pv 0) (pa_cons (pe_op op_sub (pv 3) pe_int) (pa_cons pe_int (pa_cons (pv 2) pa_nil))))))) pss_nil) (pss_cons (ps_if (PW.pt (pw_and (pt_cmpR op_eq (pv 6) pe_int (nomark _)) (pw_and1 (pt_cmpR op_gt (pv 3) pe_int (nomark _))))) (pss_cons (ps_setLc (i := 8) (own := [("_law_m", 9), ("_law_name", 10), ("_law_n", 11)]) rfl sc__law_less.nd rfl rfl (sw_true rfl rfl rfl (by decide +kernel)) (pi_list (pv 5)) (blkOk_by (own := [("_law_m", 9), ("_law_name", 10), ("_law_n", 11)]) (N := N__law_less) (sc := C8.fnScope s__law_less) (by decide +kernel)) (fun _ _ _ _ _ => (pg_tupK (n := 3) blkK (by rfl) (pgs_cons (pg_name (i := 9) sc__law_less.nd rfl (.inl rfl)) (pgs_cons (pg_name (i := 10) sc__law_less.nd rfl (.inl rfl)) (pgs_cons (pg_name (i := 11) sc__law_less.nd rfl (.inl rfl)) pgs_nil))))) (fun _ _ _ _ _ => pts_nil) (fun _ _ _ _ _ => (pe_tup (pa_cons (pe_callB (call_min2 rfl) (by rfl) T.m_min (by decide +kernel) (pa_cons (pv 9) (pa_cons (pe_op op_sub (pv 3) pe_int) pa_nil))) (pa_cons (pv 10) (pa_cons (pe_callB (call_min2 rfl) (by rfl) T.m_min (by decide +kernel) (pa_cons (pv 11) (pa_cons (pe_op op_sub (pv 3) pe_int) pa_nil))) pa_nil)))))) (pss_one (ps_ret (pe_tup (pa_cons (pe_op op_sub (pv 3) pe_int) (pa_cons (pe_callB (cr_sortedSet rfl) (by rfl) T.m_sorted (by decide +kernel) (pa_cons (pe_callTy (cr_setI rfl) (by rfl) T.m_set (by decide +kernel) (pa_cons (pe_lc (own := [("_law_place", 12)]) rfl sc__law_less.nd (pi_list (pv 4)) (blkOk_by (own := [("_law_place", 12)]) (N := N__law_less) (sc := C8.fnScope s__law_less) (by decide +kernel)) (fun _ _ _ _ _ => (pg_name (i := 12) sc__law_less.nd rfl (.inl rfl))) (fun _ _ _ _ _ => pts_nil) (fun _ _ _ _ _ => (pe_callB (call_min2 rfl) (by rfl) T.m_min (by decide +kernel) (pa_cons (pv 12) (pa_cons (pe_op op_sub (pv 3) pe_int) pa_nil))))) pa_nil)) pa_nil)) (pa_cons (pe_callB (cr_sortedMS rfl) (by rfl) T.m_sorted (by decide +kernel) (pa_cons (pe_callTy (cr_setM rfl hr.units) (by rfl) T.m_set (by decide +kernel) (pa_cons (pv 8) pa_nil)) pa_nil)) pa_nil))))))) pss_nil) (pss_cons (ps_if (pt_cmpR (op_eqD hr.units) (pv 5) (pe_lst pa_nil) (nomark _)) (pss_one (ps_ret pe_non)) pss_nil) (pss_cons (ps_set (i := 13) sc__law_less.nd rfl (.inl rfl) (pe_op op_cat (pe_slice sl_list (pv 5) po_none (po_some (pv 7))) (pe_slice sl_list (pv 5) (po_some (pe_op op_add (pv 7) pe_int)) po_none))) (pss_cons (ps_if (PW.pt (pw_and (pt_cmpR op_eq (pv 6) pe_int (nomark _)) (pw_and1 (pt_cmpR (op_neD hr.units) (pv 13) (pe_lst pa_nil) (nomark _))))) (pss_cons (ps_par rfl sc__law_less.nd (show N__law_less[14]? = _ from rfl) (show N__law_less[15]? = _ from rfl) (by decide) rfl rfl (pa_cons (C8.pe_c c__law_take hr (by decide) rfl (pa_cons (pv 0) (pa_cons (pe_callB call_len_seq (by rfl) T.m_len (by decide +kernel) (pa_cons (pv 13) pa_nil)) pa_nil))) (pa_cons (C8.pe_c c__law_take hr (by decide) rfl (pa_cons (pv 0) (pa_cons (pv 3) pa_nil))) pa_nil)) (by rfl)) (pss_cons (ps_set (i := 13) sc__law_less.nd rfl (.inl rfl) (pe_op op_cat (pe_op op_cat (pe_slice sl_list (pv 13) po_none (po_some (pv 14))) (pe_slice sl_list (pv 13) (po_some (pe_op op_add (pv 14) pe_int)) po_none)) (pe_lst (pa_cons (pe_op op_catT (pe_slice sl_tup (pe_ix ix_list (pv 5) (pv 7) (fun _ _ => rfl)) po_none (po_some pe_int)) (pe_tup (pa_cons (pv 15) pa_nil))) pa_nil)))) (pss_one (ps_set (i := 13) sc__law_less.nd rfl (.inl rfl) (pe_callB (cr_sortedMS rfl) (by rfl) T.m_sorted (by decide +kernel) (pa_cons (pe_callTy (cr_setM rfl hr.units) (by rfl) T.m_set (by decide +kernel) (pa_cons (pv 13) pa_nil)) pa_nil)))))) pss_nil) (pss_one (ps_ret (pe_tup (pa_cons (pv 3) (pa_cons (pv 4) (pa_cons (pv 13) pa_nil))))))))))))), ?_⟩
  have n : Now ⟨F, some b⟩ [] H (KAnd (KV (At zPt x) v) (KV (At (zL zN) names) v2)) H := Now.start (dmB hF hbF) ⟨p, p2⟩
  have few := ok.few
  have p1 := ok.p1
  have p9 := ok.p9
  have fin : ∀ {v : V} {H2 : Hp} (o : Option PD), re (some b) H H2 → (∀ B, o = some B → OkP B ∧ Lesser B x) → zO zPt (hid F H2) v o → Q v H2 := fun o e h1 h2 => kk _ _ e ⟨o, h1, h2⟩
  refine seq_ (s_asg3 (R := zI) (S := zL zI) (T := zL zE) (x := (x.pl, x.bg, x.ed)) n (ev_pt (ev_var (v := v) rfl n.kn.1)) fun u3 u4 u5 H1 e1 n1 => ?_)
  obtain rfl : u3 = .int x.pl := n1.kn.1.1.2
  have n1 := n1.know (K' := KAnd (KV (At (zL zN) names) v2) (KAnd (KV (At (zL zI) x.bg) u4) (KV (At (zL zE) x.ed) u5))) ⟨n1.kn.1.1.1.2, n1.kn.1.2, n1.kn.2⟩
  have nms := names_lst n1.kn.2.2
  have hB1 := (n1.out.2 b rfl).2 c hB
  refine nx_ (seq_ ?_)
  refine s_par (Φ1 := Som zI (InR 4)) (Φ2 := Som zI (InR (max 1 (x.ed.length : Int)))) n1 (ea_cons (ev_callB (f := ⟨F, some b⟩) (x := (⟨4, by decide, by decide⟩ : Many)) rfl hB1 rfl (ea_cons ev_int ea_nil)) (ea_cons (ev_callB (f := ⟨F, some b⟩) (x := (⟨max 1 (x.ed.length : Int), by omega, by omega⟩ : Many)) rfl hB1 rfl (ea_cons (ev_cb (ea_cons ev_int (ea_cons (ev_cb (ea_cons (ev_var (Φ := At (zL zE) x.ed) (v := u5) rfl n1.kn.2.2) ea_nil) ra_lenL) ea_nil)) ra_max2) ea_nil)) ea_nil)) fun v6 v7 H2 e2 n2 => ?_
  obtain ⟨way, hway, e6⟩ := id n2.kn.1.2
  obtain rfl : v6 = .int way := e6
  obtain ⟨at_, hat, e7⟩ := id n2.kn.2
  obtain rfl : v7 = .int at_ := e7
  have hat : InR (max 1 (x.ed.length : Int)) at_ := hat
  have n2 := n2.know n2.kn.1.1
  have hB2 := (n2.out.2 b rfl).2 c hB
  -- another one, drawn
  refine nx_ ?_
  refine s_if1 n2 (et_and (et_B1 (ev_op (ev_var (Φ := At zI way) (v := .int way) rfl rfl) ev_int ru_eqI)) fun _ => et_B1 (ev_op (ev_var (Φ := At zI x.pl) (v := .int x.pl) rfl rfl) ev_int ru_gt)) (fun pt H3 e3 n3 => ?_) fun _ H3 e3 n3 => ?_
  · have pt := pt.symm
    rw [Bool.and_eq_true, decide_eq_true_eq, decide_eq_true_eq] at pt
    have hB3 := (n3.out.2 b rfl).2 c hB
    refine s_ret n3 (ev_callB (f := ⟨F, some b⟩) (x := (⟨x.pl - 1, 10, names, by omega, by omega, by decide, fewn⟩ : ProgI)) rfl hB3 rfl (ea_cons (ev_op (ev_var (Φ := At zI x.pl) (v := .int x.pl) rfl rfl) ev_int ru_sub) (ea_cons ev_int (ea_cons (ev_var (Φ := At (zL zN) names) (v := v2) rfl n3.kn.1) ea_nil)))) fun v8 H4 e4 n4 => ?_
    obtain ⟨B, hb, hv⟩ := n4.kn.2
    have hb : OkT (x.pl - 1) 10 B := hb
    refine fin (some B) n4.out (fun B' e => ?_) hv
    injection e with e
    subst e
    exact ⟨okT_ok hb (by omega) (by decide), .inl (by have := hb.pb; omega)⟩
  -- the last two places made one
  refine s_if1 n3 (et_and (et_B1 (ev_op (ev_var (Φ := At zI way) (v := .int way) rfl rfl) ev_int ru_eqI)) fun _ => et_B1 (ev_op (ev_var (Φ := At zI x.pl) (v := .int x.pl) rfl rfl) ev_int ru_gt)) (fun pt H4 e4 n4 => ?_) fun _ H4 e4 n4 => ?_
  · have pt := pt.symm
    rw [Bool.and_eq_true, decide_eq_true_eq, decide_eq_true_eq] at pt
    refine seq_ ?_
    refine s_set (σ := [some (.ref b), some v, some v2, some (.int x.pl), some u4, some u5, some (.int way), some (.int at_), none, none, none, none, none, none, none, none]) n4 (Φ := At (zL zE) (x.ed.map (minE x.pl))) (EvP.is (ev_lcD (S := zE) n4.kn (ei_list (R := zE) (ev_var (Φ := At (zL zE) x.ed) (v := u5) rfl n4.kn.2.2)) (by omega) (fun _ => true) (minE x.pl) fun e f' H' u he hb dm' e' k' hr' => bnd_tup3 hr' fun w1 w2 w3 h1 h2 h3 => ⟨rfl, et_yes, fun _ => ev_tup3 (R := zI) (S := zN) (T := zI) (x := min e.1 (x.pl - 2)) (y := e.2.1) (z := min e.2.2 (x.pl - 2)) (ev_cb (ea_cons (ev_var (Φ := At zI e.1) rfl h1) (ea_cons (ev_op (ev_var (Φ := At zI x.pl) (v := .int x.pl) rfl rfl) ev_int ru_sub) ea_nil)) ra_min2) (ev_var (Φ := At zN e.2.1) rfl h2) (ev_cb (ea_cons (ev_var (Φ := At zI e.2.2) rfl h3) (ea_cons (ev_op (ev_var (Φ := At zI x.pl) (v := .int x.pl) rfl rfl) ev_int ru_sub) ea_nil)) ra_min2)⟩) (by rw [filter_yes])) fun v8 H5 e5 n5 => ?_
    refine nx_ ?_
    refine s_ret n5 (ev_tup3 (R := zI) (S := zL zI) (T := zL zE) (x := x.pl - 1) (y := canon (x.bg.map fun y => min y (x.pl - 2))) (z := canon (x.ed.map (minE x.pl))) (ev_op (ev_var (Φ := At zI x.pl) (v := .int x.pl) rfl rfl) ev_int ru_sub) (ev_cb (ea_cons (ev_cb (ea_cons (EvP.is (y := x.bg.map fun y => min y (x.pl - 2)) (ev_lcD (S := zI) n5.kn (ei_list (R := zI) (ev_var (Φ := At (zL zI) x.bg) (v := u4) rfl n5.kn.1.2.1)) (by omega) (fun _ => true) (fun y => min y (x.pl - 2)) fun y f' H' u hy hb dm' e' k' hr' => bnd_name ⟨rfl, et_yes, fun _ => ev_cb (ea_cons (ev_var (Φ := At zI y) rfl hr') (ea_cons (ev_op (ev_var (Φ := At zI x.pl) (v := .int x.pl) rfl rfl) ev_int ru_sub) ea_nil)) ra_min2⟩) (by rw [filter_yes])) ea_nil) (ra_setI (by rw [List.length_map]; omega))) ea_nil) ra_sortedIK) (ev_cb (ea_cons (ev_cb (ea_cons (ev_var (Φ := At (zL zE) (x.ed.map (minE x.pl))) (v := v8) rfl n5.kn.2) ea_nil) (ra_setM (by rw [List.length_map]; omega))) ea_nil) (ra_sortedK (fun e he => ?_) fun k => Iff.rfl))) fun v9 H6 e6 n6 => ?_
    · obtain ⟨q, hq, rfl⟩ := List.mem_map.mp he
      exact nms q hq
    have c1 := canon_len (x.bg.map fun y => min y (x.pl - 2))
    have c2 := canon_len (x.ed.map (minE x.pl))
    rw [List.length_map] at c1 c2
    have rn : ∀ y, InR x.pl y → InR (x.pl - 1) (min y (x.pl - 2)) := fun y h => ⟨by have := h.1; omega, by omega⟩
    refine fin (some ⟨x.pl - 1, canon (x.bg.map fun y => min y (x.pl - 2)), canon (x.ed.map (minE x.pl))⟩) n6.out (fun B' e => ?_) n6.kn.2
    injection e with e
    subst e
    refine ⟨⟨by show 1 ≤ x.pl - 1; omega, by show x.pl - 1 ≤ 10; omega, canon_ne fun z => ok.b0 (List.map_eq_nil_iff.mp z), fun y hy => ?_, fun e he => ?_, asc_canon _, asc_canon _, ?_⟩, .inl (by show x.pl - 1 < x.pl; omega)⟩
    · obtain ⟨q, hq, rfl⟩ := List.mem_map.mp (mem_canon.mp hy)
      exact rn q (ok.b1 q hq)
    · obtain ⟨q, hq, rfl⟩ := List.mem_map.mp (mem_canon.mp he)
      exact ⟨rn _ (ok.e1 q hq).1, rn _ (ok.e1 q hq).2⟩
    · show (canon _).length + (canon _).length < 60
      omega
  -- none
  refine s_if1 n4 (et_B1 (ev_op (ev_var (Φ := At (zL zE) x.ed) (v := u5) rfl n4.kn.2.2) (ev_lst (R := zE) ee_nil (Nat.zero_le _)) ru_eqD)) (fun _ H5 e5 n5 => ?_) fun pf H5 e5 n5 => ?_
  · refine s_ret n5 ev_non fun v8 H6 e6 n6 => ?_
    exact fin none n6.out (fun B e => nomatch e) n6.kn.2
  have edn : x.ed ≠ [] := of_decide_eq_false pf.symm
  have edp := List.length_pos_iff.mpr edn
  have a0 := hat.1
  have a1 : at_ < (x.ed.length : Int) := by have := hat.2; omega
  have lt : at_.toNat < x.ed.length := by omega
  have aN : ((at_.toNat : Nat) : Int) = at_ := by omega
  have cl0 := cut_len lt
  have su0 := cut_sub x.ed at_.toNat
  -- an edge less
  have pt1 : part x.ed none (some at_) = x.ed.take at_.toNat := by
    rw [← aN]
    exact part_take
  have pt2 : part x.ed (some (at_ + 1)) none = x.ed.drop (at_.toNat + 1) := by
    rw [show at_ + 1 = ((at_.toNat + 1 : Nat) : Int) by omega]
    exact part_drop
  refine seq_ (s_set n5 (Φ := At (zL zE) (x.ed.take at_.toNat ++ x.ed.drop (at_.toNat + 1))) (ev_op (EvP.is (ev_slice (ev_var (Φ := At (zL zE) x.ed) (v := u5) rfl n5.kn.2.2) eo_none (eo_some (ev_var (Φ := At zI at_) (v := .int at_) rfl rfl))) pt1) (EvP.is (ev_slice (ev_var (Φ := At (zL zE) x.ed) (v := u5) rfl n5.kn.2.2) (eo_some (ev_op (ev_var (Φ := At zI at_) (v := .int at_) rfl rfl) ev_int ru_add)) eo_none) pt2) (ru_cat (by rw [← List.length_append, cl0]; omega))) fun v13 H6 e6 n6 => ?_)
  generalize x.ed.take at_.toNat ++ x.ed.drop (at_.toNat + 1) = less at *
  refine nx_ ?_
  have last : ∀ (l : List E3) (v13 : V) (σ' : L2.St) (H' : Hp), σ'[3]? = some (some (.int x.pl)) → σ'[4]? = some (some u4) → σ'[13]? = some (some v13) → l.length < x.ed.length → Asc l → (∀ e ∈ l, InR x.pl e.1 ∧ InR x.pl e.2.2) → Now ⟨F, some b⟩ [] H (KAnd (KAnd (KV (At (zL zN) names) v2) (KAnd (KV (At (zL zI) x.bg) u4) (KV (At (zL zE) x.ed) u5))) (KV (At (zL zE) l) v13)) H' → tTup (tCons (tVar 3) (tCons (tVar 4) (tCons (tVar 13) tNil))) σ' H' Q := fun l v13 σ' H' g1 g2 g3 ll la lr m => by
    refine (ev_tup3 (R := zI) (S := zL zI) (T := zL zE) (x := x.pl) (y := x.bg) (z := l) (ev_var (Φ := At zI x.pl) g1 rfl) (ev_var (Φ := At (zL zI) x.bg) g2 m.kn.1.2.1) (ev_var (Φ := At (zL zE) l) g3 m.kn.2)) H' (re.refl _) m.dm _ fun v8 H8 e8 hv => ?_
    refine fin (some ⟨x.pl, x.bg, l⟩) (m.out.trans e8) (fun B' e => ?_) hv
    injection e with e
    subst e
    exact ⟨⟨ok.p1, ok.p9, ok.b0, ok.b1, lr, ok.ab, la, by show l.length + x.bg.length < 60; omega⟩, .inr ⟨rfl, ll⟩⟩
  have su : ∀ e ∈ less, InR x.pl e.1 ∧ InR x.pl e.2.2 := fun e he => ok.e1 e (su0.subset he)
  have sa : Asc less := List.Pairwise.sublist su0 ok.ae
  refine s_if1 (σ := [some (.ref b), some v, some v2, some (.int x.pl), some u4, some u5, some (.int way), some (.int at_), none, none, none, none, none, some v13, none, none]) n6 (et_and (et_B1 (ev_op (ev_var (Φ := At zI way) (v := .int way) rfl rfl) ev_int ru_eqI)) fun _ => et_B1 (ev_op (ev_var (Φ := At (zL zE) less) (v := v13) rfl n6.kn.2) (ev_lst (R := zE) ee_nil (Nat.zero_le _)) ru_neD)) (fun pt H7 e7 n7 => ?_) fun _ H7 e7 n7 => ?_
  · have pt := pt.symm
    rw [Bool.and_eq_true, decide_eq_true_eq, Bool.not_eq_true', decide_eq_false_iff_not] at pt
    have lp := List.length_pos_iff.mpr pt.2
    have hB7 := (n7.out.2 b rfl).2 c hB
    refine seq_ ?_
    refine s_par (Φ1 := Som zI (InR (less.length : Int))) (Φ2 := Som zI (InR x.pl)) n7 (ea_cons (ev_callB (f := ⟨F, some b⟩) (x := (⟨(less.length : Int), by omega, by omega⟩ : Many)) rfl hB7 rfl (ea_cons (ev_cb (ea_cons (ev_var (Φ := At (zL zE) less) (v := v13) rfl n7.kn.2) ea_nil) ra_lenL) ea_nil)) (ea_cons (ev_callB (f := ⟨F, some b⟩) (x := (⟨x.pl, by omega, by omega⟩ : Many)) rfl hB7 rfl (ea_cons (ev_var (Φ := At zI x.pl) (v := .int x.pl) rfl rfl) ea_nil)) ea_nil)) fun v14 v15 H8 e8 n8 => ?_
    obtain ⟨to, hto, e14⟩ := id n8.kn.1.2
    obtain rfl : v14 = .int to := e14
    obtain ⟨th, hth, e15⟩ := id n8.kn.2
    obtain rfl : v15 = .int th := e15
    have n8 := n8.know n8.kn.1.1
    have t0 := hto.1
    have t1 := hto.2
    have lt2 : to.toNat < less.length := by omega
    have tN : ((to.toNat : Nat) : Int) = to := by omega
    have cl2 := cut_len lt2
    have su2 := cut_sub less to.toNat
    have pt3 : part less none (some to) = less.take to.toNat := by
      rw [← tN]
      exact part_take
    have pt4 : part less (some (to + 1)) none = less.drop (to.toNat + 1) := by
      rw [show to + 1 = ((to.toNat + 1 : Nat) : Int) by omega]
      exact part_drop
    have hx := List.getElem?_eq_getElem lt
    have em := List.getElem_mem lt
    generalize x.ed[at_.toNat] = e0 at hx em
    refine nx_ (seq_ ?_)
    refine s_set (σ := [some (.ref b), some v, some v2, some (.int x.pl), some u4, some u5, some (.int way), some (.int at_), none, none, none, none, none, some v13, some (.int to), some (.int th)]) n8 (Φ := At (zL zE) (less.take to.toNat ++ less.drop (to.toNat + 1) ++ [(e0.1, e0.2.1, th)])) (ev_op (ev_op (EvP.is (ev_slice (ev_var (Φ := At (zL zE) less) (v := v13) rfl n8.kn.2) eo_none (eo_some (ev_var (Φ := At zI to) (v := .int to) rfl rfl))) pt3) (EvP.is (ev_slice (ev_var (Φ := At (zL zE) less) (v := v13) rfl n8.kn.2) (eo_some (ev_op (ev_var (Φ := At zI to) (v := .int to) rfl rfl) ev_int ru_add)) eo_none) pt4) (ru_cat (by rw [← List.length_append, cl2]; omega))) (ev_lst (R := zE) (l := [(e0.1, e0.2.1, th)]) (ee_cons (ev_op (Φ1 := At (zT2 zI zN) (e0.1, e0.2.1)) (ev_two (T := zI) (x := e0) (ev_op (ev_var (Φ := At (zL zE) x.ed) (v := u5) rfl n8.kn.1.2.2) (ev_var (Φ := At zI at_) (v := .int at_) rfl rfl) (ru_ixL a0 hx))) (ev_tup1 (ev_var (Φ := At zI th) (v := .int th) rfl rfl)) ru_catT) ee_nil) (by show 1 ≤ 100000; decide)) (ru_cat (by rw [cl2]; show less.length - 1 + 1 ≤ 100000; omega))) fun v16 H9 e9 n9 => ?_
    generalize hm : less.take to.toNat ++ less.drop (to.toNat + 1) ++ [(e0.1, e0.2.1, th)] = m at *
    have ml : m.length ≤ less.length := by
      rw [← hm, List.length_append, cl2]
      show less.length - 1 + 1 ≤ less.length
      omega
    have mr : ∀ e ∈ m, InR x.pl e.1 ∧ InR x.pl e.2.2 := fun e he => by
      rw [← hm] at he
      rcases List.mem_append.mp he with he | he
      · exact su e (su2.subset he)
      · rw [List.mem_singleton.mp he]
        exact ⟨(ok.e1 e0 em).1, hth⟩
    have mn := names_lst n9.kn.2
    refine nx_ ?_
    refine s_set (σ := [some (.ref b), some v, some v2, some (.int x.pl), some u4, some u5, some (.int way), some (.int at_), none, none, none, none, none, some v16, some (.int to), some (.int th)]) n9 (Φ := At (zL zE) (canon m)) (ev_cb (ea_cons (ev_cb (ea_cons (ev_var (Φ := At (zL zE) m) (v := v16) rfl n9.kn.2) ea_nil) (ra_setM (by omega))) ea_nil) (ra_sortedK mn fun k => Iff.rfl)) fun v17 H10 e10 n10 => ?_
    have cm := canon_len m
    exact last (canon m) v17 _ _ rfl rfl rfl (by omega) (asc_canon _) (fun e he => mr e (mem_canon.mp he)) (n10.know ⟨n10.kn.1.1.1, n10.kn.2⟩)
  · exact last less v13 _ _ rfl rfl rfl (by omega) sa su n7
end
end FF
namespace FF
open PySem PySem.Spec PyProof.Rows L2
structure EqC (P : Program) (w : World) (K : PySem.W.Frag) (mg : Str → Option Value) (base : Heap) (k : Nat) (C : Addr) : Prop where
  ex : ∃ (f : Addr) (fd : FuncData) (ps : List Str), PySem.W.findIn K (.ref C) "__eq__" = some (some (.ref f)) ∧ PySem.W.isFn K (.ref f) = true ∧ FnOk P w K mg base C8.CX0 k f fd ps (spEq (Alike C)) ∧ L2.Binds K fd ps []
def DPL (C : Addr) : Eqv := fun x y H => DIns C (Alike C) x y H ∨ DList DFlat x y H
theorem alike_ext {C : Addr} : ∀ a b H H', Ext H H' → Alike C a b H → Alike C a b H' := fun a b H H' e ⟨x, h1, h2⟩ => ⟨x, Stb.up (R := zPr C) (fun a o z => e a o z) h1, Stb.up (R := zPr C) (fun a o z => e a o z) h2⟩
theorem op_nePL {X : Cx} {j : Nat} {C : Addr} (c : EqC X.prog X.w X.K X.mg X.base 2 C) (hr : Room j X.A) (hk : 3 ≤ j) : OpR X (compareOp .NotEq) (rNeG X.K (DPL C)) := by
  obtain ⟨f, fd, ps, h1, h2, F, b⟩ := c.ex
  exact op_neG (n := 2) (Mon.or (mon_ins alike_ext) (mon_list mon_flat)) (EqG.or (eqG_ins F h1 h2 b (C8.pass0 (E := C8.E0))) ((eqG_list mon_flat eqG_flat).mono (by decide))) (hr.mono hk)
theorem prs_flat {H : Hp} : ∀ l : List Int, Prs DFlat (l.map V.int) (l.map V.int) H
  | [] => Prs.nil
  | x :: l => Prs.cons ⟨rfl, rfl, by show (x == x) = true; exact beq_self_eq_true x⟩ (prs_flat l)
theorem ru_nePL {f : Fr} {H : Hp} {Kf : PySem.W.Frag} {C : Addr} {x : PD × List Int} : Ru2 f (rNeG Kf (DPL C)) H (At (zT2 (zPr C) (zL zI)) x) (At (zT2 (zPr C) (zL zI)) x) (At zB false) := fun H1 u w e d p p' Q q => by
  obtain ⟨a, v1, v2, rfl, ha, p1, p2⟩ := p
  obtain ⟨b, w1, w2, rfl, hb, q1, q2⟩ := p'
  refine ⟨⟨a, b, _, _, rfl, rfl, SqT.of (hid_same _ _ ha), SqT.of (hid_same _ _ hb), Prs.cons ?_ (Prs.cons ?_ Prs.nil)⟩, fun H' ex => q _ H' (re.same fun a o z => ex a o z) rfl⟩
  · have r1 : zPr C H1 v1 x.1 := Stb.up (R := zPr C) hid_same p1
    have r2 : zPr C H1 w1 x.1 := Stb.up (R := zPr C) hid_same q1
    obtain ⟨a1, dx, vp, vb, ve, rfl, hi, _⟩ := id r1
    obtain ⟨a2, dy, wp, wb, we, rfl, hj, _⟩ := id r2
    exact .inl ⟨a1, a2, dx, dy, _, _, rfl, rfl, hi, hj, x.1, r1, r2⟩
  · obtain ⟨a1, xs, rfl, h1, g1⟩ := p2
    obtain ⟨a2, ys, rfl, h2, g2⟩ := q2
    rw [ints_of g1] at h1
    rw [ints_of g2] at h2
    exact .inr ⟨a1, a2, _, _, rfl, rfl, hid_same _ _ h1, hid_same _ _ h2, prs_flat _⟩
theorem ru_padd {f : Fr} {H : Hp} {C : Addr} {A O : PD} (ok : OkAdd A O) : Ru2 f (rOwnAdd C (sp_padd C)) H (At (zPr C) A) (At (zPr C) O) (At (zPr C) (besideP A O)) := fun H1 u w e d p p' Q q => by
  obtain ⟨a, dx, vp, vb, ve, rfl, ha, r⟩ := id p
  obtain ⟨b, dy, wp, wb, we, rfl, hb, s⟩ := id p'
  refine ⟨a, b, dx, dy, _, _, rfl, rfl, hid_same _ _ ha, hid_same _ _ hb, ⟨⟨(A, O), ok⟩, f.F, d.there, ⟨_, _, rfl, p, _, _, rfl, p', rfl⟩, fun v H2 sm k => ⟨?_, q v H2 (re.same sm) k⟩⟩⟩
  obtain ⟨n, _, _, _, _, rfl, _⟩ := k
  exact ⟨n, rfl⟩
section
variable {f : Fr} {σ : L2.St} {H : Hp} {tt tu : TT} {P P' : Bool → Prop} {tr : TA} {g : TG} {te : TE} {vs : List Nat} {Φ : Hp → V → Prop}
theorem et_andS (h1 : EvT f tt σ H P) (h2 : EvT f tu σ H P') : EvT f (tAnd tt tu) σ H (fun c => c = true → P' true) := fun H1 e d Q q => h1 H1 e d _ fun c H2 e2 k => by
  cases c with
  | true =>
    show tu σ H2 Q
    exact h2 H2 (e.trans e2) (d.re e2) Q fun c' H3 e3 k' => q c' H3 (e2.trans e3) fun z => z ▸ k'
  | false => exact q false H2 e2 fun z => nomatch z
theorem ei_itr {n : Nat} : EvI f (fun _ H Q => Q (Itr 0 n) H) σ H zI (upto n) := fun H1 e d Q q => q _ KT H1 (re.refl _) inferInstance walk_range trivial
/-- a comprehension over range(n), n not known in full -/
theorem ev_lcR {Pr : Int → Prop} (h : EvA f tr σ H (ACons (Som zI Pr) ANil)) (hP : ∀ i, Pr i → 0 ≤ i ∧ i ≤ 100000) (k : ∀ n : Nat, Pr n → EvP f (tLc (fun _ H Q => Q (Itr 0 n) H) g tt te vs) σ H Φ) : EvP f (tLc (iRng1 tr) g tt te vs) σ H Φ := fun H1 e d Q q =>
  h H1 e d _ fun ws H2 e2 ⟨v, r, e3, ⟨i, hi, p⟩, e4⟩ => by
    obtain rfl : r = [] := e4
    obtain rfl : v = .int i := p
    have b := hP i hi
    exact ⟨i, e3, by omega, by omega, (k i.toNat (by rw [show ((i.toNat : Nat) : Int) = i by omega]; exact hi)) H2 (e.trans e2) (d.re e2) Q fun v H3 e3 z => q v H3 (e2.trans e3) z⟩
end
theorem pt_ne {G : Hp} {v : V} {y : PD} (h : zPt G v y) : v ≠ .non := by
  obtain ⟨a, _, _, _, rfl, _⟩ := h
  exact fun z => nomatch z
structure OkL (A : PD) : Prop where
  ok : OkP A
  p6 : A.pl ≤ 6
  few : A.ed.length + A.bg.length ≤ 40
theorem bg_len {A : PD} (p1 : 1 ≤ A.pl) (h : Asc A.bg) (r : ∀ x ∈ A.bg, InR A.pl x) : (A.bg.length : Int) ≤ A.pl := by
  rcases rng_len h r with z | z
  · exact z
  · rw [z]
    show (0 : Int) ≤ A.pl
    omega
theorem okL_of {A : PD} (h : OkT 5 8 A) : OkL A := by
  have ok := okT_ok h (by decide) (by decide)
  have b := bg_len h.p1 h.ab h.b1
  have := h.few
  have := h.pb
  exact ⟨ok, by omega, by omega⟩
theorem asc_app {l m : List Int} (h1 : Asc l) (h2 : Asc m) (h : ∀ x ∈ l, ∀ y ∈ m, x < y) : Asc (l ++ m) :=
  List.pairwise_append.mpr ⟨h1, h2, fun x hx y hy => decide_eq_true (h x hx y hy)⟩
theorem asc_shift {l : List Int} (h : Asc l) (k : Int) : Asc (l.map fun x => x + k) := by
  refine List.pairwise_map.mpr (List.Pairwise.imp (fun {a b} z => ?_) h)
  have z := of_decide_eq_true z
  exact decide_eq_true (by omega)
def dblP (A : PD) (more : List E3) : PD := ⟨2 * A.pl, A.bg ++ A.bg.map (fun x => x + A.pl), canon (A.ed ++ more)⟩
def twice1 (A : PD) : List E3 := A.ed.map fun e => (e.1 + A.pl, e.2.1, e.2.2)
def twice2 (A : PD) : List E3 := A.ed.map fun e => (e.1, e.2.1, e.2.2 + A.pl)
theorem okL_dbl {A : PD} (h : OkT 5 8 A) (p4 : A.pl < 4) {more : List E3} (hm : List.Sublist more (twice1 A ++ twice2 A)) : OkL (dblP A more) := by
  have b := bg_len h.p1 h.ab h.b1
  have f8 := h.few
  have p1 := h.p1
  have lm := hm.length_le
  unfold twice1 twice2 at lm hm
  rw [List.length_append, List.length_map, List.length_map] at lm
  have lc := canon_len (A.ed ++ more)
  rw [List.length_append] at lc
  have re : ∀ e ∈ canon (A.ed ++ more), InR (2 * A.pl) e.1 ∧ InR (2 * A.pl) e.2.2 := fun e he => by
    rcases List.mem_append.mp (mem_canon.mp he) with he | he
    · have := h.e1 e he
      exact ⟨⟨this.1.1, by have := this.1.2; omega⟩, this.2.1, by have := this.2.2; omega⟩
    · rcases List.mem_append.mp (hm.subset he) with he | he <;> obtain ⟨q, hq, rfl⟩ := List.mem_map.mp he
      · obtain ⟨⟨a1, a2⟩, b1, b2⟩ := h.e1 q hq
        exact ⟨⟨by show 0 ≤ q.1 + A.pl; omega, by show q.1 + A.pl < 2 * A.pl; omega⟩, b1, by show q.2.2 < 2 * A.pl; omega⟩
      · obtain ⟨⟨a1, a2⟩, b1, b2⟩ := h.e1 q hq
        exact ⟨⟨a1, by show q.1 < 2 * A.pl; omega⟩, by show 0 ≤ q.2.2 + A.pl; omega, by show q.2.2 + A.pl < 2 * A.pl; omega⟩
  have lb : (dblP A more).bg.length = A.bg.length + A.bg.length := by
    show (A.bg ++ A.bg.map fun x => x + A.pl).length = _
    rw [List.length_append, List.length_map]
  have le : (dblP A more).ed.length ≤ A.ed.length + more.length := lc
  refine ⟨⟨by show 1 ≤ 2 * A.pl; omega, by show 2 * A.pl ≤ 10; omega, fun z => h.b0 (List.append_eq_nil_iff.mp z).1, fun x hx => ?_, re, ?_, asc_canon _, by omega⟩, by show 2 * A.pl ≤ 6; omega, by omega⟩
  · rcases List.mem_append.mp hx with hx | hx
    · have := h.b1 x hx
      exact ⟨this.1, by show x < 2 * A.pl; have := this.2; omega⟩
    · obtain ⟨y, hy, rfl⟩ := List.mem_map.mp hx
      obtain ⟨a1, a2⟩ := h.b1 y hy
      exact ⟨by omega, by show y + A.pl < 2 * A.pl; omega⟩
  · refine asc_app h.ab (asc_shift h.ab _) fun x hx y hy => ?_
    obtain ⟨z, hz, rfl⟩ := List.mem_map.mp hy
    have h1 := h.b1 x hx
    have h2 := h.b1 z hz
    have := h1.2
    have := h2.1
    omega
theorem reach_le {B : PD} (ok : OkP B) : ((reachL B).length : Int) ≤ B.pl := by
  have hl := nodup_len (m := upto B.pl.toNat) (reach_nodup B) fun x hx => (by
    have := reach_rng ok hx
    exact mem_upto.mpr ⟨this.1, by have := this.2; omega⟩)
  rw [upto_length] at hl
  have := ok.p1
  omega
/-- nobody lesser has them all -/
theorem no_lesser {A B : PD} {asked : List Int} (h : Asked A asked) (ob : OkP B) (l : Lesser B (smallP A asked)) : ¬ HasAlk A B asked := fun ha => by
  have p := least_places h ha
  have e := least_edges h ha
  have r := reach_le ob
  have ee : (smallP A asked).ed.length = (smallE A asked).length := canon_len_eq (smallE_nodup A asked)
  have ep : (smallP A asked).pl = ((keptL A asked).length : Int) := rfl
  rcases l with l | ⟨_, l⟩
  · omega
  · omega
theorem has_told {A : PD} {asked : List Int} (h : Asked A asked) : HasAlk A (smallP A asked) asked := fun a ha => ⟨_, told_asked h ha⟩
theorem zip_map {α β : Type} {l : List α} {f : α → β} {q : α × β} (h : q ∈ l.zip (l.map f)) : q.1 ∈ l ∧ q.2 = f q.1 := by
  induction l with
  | nil => cases h
  | cons x l ih =>
    rw [List.map_cons, List.zip_cons_cons] at h
    rcases List.mem_cons.mp h with rfl | h
    · exact ⟨List.mem_cons_self, rfl⟩
    · exact ⟨List.mem_cons_of_mem _ (ih h).1, (ih h).2⟩
theorem zip_maps {α β γ : Type} {l : List α} {f : α → β} {g : α → γ} {q : β × γ} (h : q ∈ (l.map f).zip (l.map g)) : ∃ a ∈ l, q = (f a, g a) := by
  induction l with
  | nil => cases h
  | cons x l ih =>
    rw [List.map_cons, List.map_cons, List.zip_cons_cons] at h
    rcases List.mem_cons.mp h with rfl | h
    · exact ⟨x, List.mem_cons_self, rfl⟩
    · obtain ⟨a, ha, e⟩ := ih h
      exact ⟨a, List.mem_cons_of_mem _ ha, e⟩
theorem like_told {A : PD} {asked : List Int} (h : Asked A asked) : likeB A (smallP A asked) asked (smallAt A asked) := fun q hq => by
  obtain ⟨h1, h2⟩ := zip_map hq
  rw [h2]
  exact told_asked h h1
section
variable {A : PD} {asked o : List Int}
theorem need_told (h : Asked A asked) : ∀ i ∈ smallAt A asked, i ∈ reachL (smallP A asked) := (again_asked h).r
theorem mov_ok (ok : OkOrd A o) : OkP (movedP A o) := by
  have few := ok.ok.few
  refine okP_mk ⟨ok.ok.p1, by have := ok.ok.p9; omega, fun z => ok.ok.b0 (List.map_eq_nil_iff.mp z), fun y hy => ?_, fun e he => ?_, by rw [List.length_map]; omega, by rw [List.length_map]; omega⟩ ok.ok.p9 (by rw [List.length_map, List.length_map]; omega)
  · obtain ⟨z, hz, rfl⟩ := List.mem_map.mp hy
    exact (ord_at ok (ok.ok.b1 z hz)).2
  · obtain ⟨z, hz, rfl⟩ := List.mem_map.mp he
    exact ⟨(ord_at ok (ok.ok.e1 z hz).1).2, (ord_at ok (ok.ok.e1 z hz).2).2⟩
theorem mov_asked (ok : OkOrd A o) (h : Asked A asked) : Asked (movedP A o) (asked.map (ordF o)) where
  ok := mov_ok ok
  ne := fun z => h.ne (List.map_eq_nil_iff.mp z)
  r := fun i hi => by
    obtain ⟨a, ha, rfl⟩ := List.mem_map.mp hi
    exact mov_in ok (h.r a ha)
  few := by
    rw [List.length_map]
    exact h.few
theorem mov_size (ok : OkOrd A o) (nd : o.Nodup) (h : Asked A asked) : sizeP (smallP (movedP A o) (asked.map (ordF o))) = sizeP (smallP A asked) := by
  refine (small_size h (mov_asked ok h) (fun a ha => ⟨_, List.mem_map.mpr ⟨a, ha, rfl⟩, mov_alk ok nd (h.r a ha)⟩) fun b hb => ?_).symm
  obtain ⟨a, ha, rfl⟩ := List.mem_map.mp hb
  exact ⟨a, ha, mov_alk ok nd (h.r a ha)⟩
theorem like_mov (ok : OkOrd A o) (nd : o.Nodup) (h : Asked A asked) : likeB (smallP A asked) (smallP (movedP A o) (asked.map (ordF o))) (smallAt A asked) (smallAt (movedP A o) (asked.map (ordF o))) := fun q hq => by
  unfold smallAt at hq
  rw [List.map_map] at hq
  obtain ⟨a, ha, rfl⟩ := zip_maps hq
  exact (told_asked h ha).symm.trans ((mov_alk ok nd (h.r a ha)).trans (told_asked (mov_asked ok h) (List.mem_map.mpr ⟨a, ha, rfl⟩)))
theorem ord_of {n : Nat} (ok : OkP A) (hn : A.pl = (n : Int)) (hp : o.Perm (upto n)) : OkOrd A o ∧ o.Nodup := by
  refine ⟨⟨ok, by rw [hp.length_eq, upto_length]; exact hn.symm, fun x hx => ?_⟩, hp.nodup_iff.mpr (asc_nodup (asc_upto n))⟩
  have := mem_upto.mp (hp.mem_iff.mp hx)
  exact ⟨this.1, by rw [hn]; exact this.2⟩
theorem add_of {O : PD} (h : OkL A) (g : OkT 3 4 O) : OkAdd A O := by
  have og := okT_ok g (by decide) (by decide)
  have b := bg_len g.p1 g.ab g.b1
  have := g.pb
  have := h.p6
  have := h.few
  have := g.few
  exact ⟨h.ok, og, by omega, by omega⟩
theorem bes_asked {O : PD} (ok : OkAdd A O) (h : Asked A asked) : Asked (besideP A O) asked where
  ok := okP_mk (raw_add ok) ok.p9 (by
    rw [List.length_append, List.length_append, List.length_map, List.length_map]
    have := ok.few
    omega)
  ne := h.ne
  r := fun a ha => bes_in ok (h.r a ha)
  few := h.few
end
end FF
namespace FF
open PySem PySem.Spec PyProof.Rows L2
section
variable {P : Program} {w : World} {K : PySem.W.Frag} {mg : Str → Option Value} {base : Heap} {C : Addr}
abbrev s_law : Stmt := topS 50
abbrev N_law : List Str := ["_law_script", "_law_bag_here", "_law_turn", "_law_names_here", "_law_parts", "_law_asked", "_law_told", "_law_k", "_law_order", "_law_beside", "_law_twice", "_law_more", "_law_begins", "_law_reached_here", "_law_program_here", "_law_least", "_law_places", "_law_less_here", "_law_other", "_law_there", "_law_place", "_law_m", "_law_name", "_law_n"]
abbrev P_law : List Str := ["_law_script"]
theorem sc_law : FnScope N_law P_law (C8.fnScope s_law) := C8.fnScope_by (by decide +kernel)
abbrev sp_law (K : PySem.W.Frag) : Sp := fun vs H Q _ => ∃ ns : List Int, ACons (At (zQ K) ns) ANil H vs ∧ ∀ H', Q (.bl true) H'
theorem ok_law {f : Addr} {fd : FuncData} (F : C8.Def K mg "law" s_law f fd) (T : Txt K mg C)
    (c__law_bag : C8.Cal P w K mg base 1 "_law_bag" (sp_law_bag K) []) (c__law_take : C8.Cal P w K mg base 1 "_law_take" sp_law_take []) (c__law_mixed : C8.Cal P w K mg base 2 "_law_mixed" (sp_law_mixed zI) []) (c__law_some : C8.Cal P w K mg base 2 "_law_some" (sp_law_some zE) []) (c__law_names : C8.Cal P w K mg base 3 "_law_names" sp_law_names [])
    (c__law_program : C8.Cal P w K mg base 3 "_law_program" sp_law_program []) (c__law_made : C8.Cal P w K mg base 7 "_law_made" (sp_law_made C) []) (c__law_reached : C8.Cal P w K mg base 1 "_law_reached" sp_law_reached []) (c__law_parts_of : C8.Cal P w K mg base 3 "_law_parts_of" (sp_law_parts_of C) []) (c__law_has_alike : C8.Cal P w K mg base 4 "_law_has_alike" sp_law_has_alike [])
    (c__law_less : C8.Cal P w K mg base 4 "_law_less" sp_law_less []) (c__law_same_size : C8.Cal P w K mg base 3 "_law_same_size" (sp_law_same_size C) []) (c_small_program : C8.Cal P w K mg base 7 "small_program" (sp_small_program C) []) (c_are_like_places : C8.Cal P w K mg base 6 "are_like_places" (sp_are_like_places C) [])
    (c_moved : C8.Met P w K mg base 7 C "moved" (sp_moved C) []) (c_add : AddC P w K mg base 7 C (sp_padd C)) (c_eq : EqC P w K mg base 2 C) : FnOk P w K mg base C8.CX0 8 f fd P_law (sp_law K) := by
  refine C8.fn0 F.fn sc_law (fun vs H Q E ⟨ns, h, _⟩ => alS h fun _ h => al0 h) (fun cdv A0 outer s H vs Q E hr h => ?_)
  obtain ⟨ns, ⟨v, r, rfl, p, rfl⟩, kk⟩ := h
  have hu := hu_of hr
  refine ⟨_, (pss_cons (ps_set (i := 1) sc_law.nd rfl (.inr rfl) (C8.pe_c c__law_bag hr (by decide) rfl (pa_cons (pv 0) pa_nil))) (pss_cons (ps_for PassesOwn.never rfl (pi_range1 (by rfl) T.m_range (pa_cons pe_int pa_nil)) (pg_name (i := 2) sc_law.nd rfl (.inl rfl)) (pss_cons (ps_set (i := 3) sc_law.nd rfl (.inl rfl) (C8.pe_c c__law_names hr (by decide) rfl (pa_cons (pv 1) (pa_cons (pe_op op_add pe_int (C8.pe_c c__law_take hr (by decide) rfl (pa_cons (pv 1) (pa_cons pe_int pa_nil)))) pa_nil)))) (pss_cons (ps_set (i := 4) sc_law.nd rfl (.inr rfl) (C8.pe_c c__law_program hr (by decide) rfl (pa_cons (pv 1) (pa_cons pe_int (pa_cons pe_int (pa_cons (pv 3) pa_nil)))))) (pss_cons (ps_if (PW.pt (pw_and (pt_cmpR op_eq (C8.pe_c c__law_take hr (by decide) rfl (pa_cons (pv 1) (pa_cons pe_int pa_nil))) pe_int (nomark _)) (pw_and1 (pt_cmpR op_lt (pe_ix ix_tup (pv 4) pe_int (fun _ _ => rfl)) pe_int (nomark _))))) (pss_cons (ps_setLc (i := 10) (own := [("_law_m", 21), ("_law_name", 22), ("_law_n", 23)]) rfl sc_law.nd rfl rfl (sw_true rfl rfl rfl (by decide +kernel)) (pi_list (pe_ix ix_tup (pv 4) pe_int (fun _ _ => rfl))) (blkOk_by (own := [("_law_m", 21), ("_law_name", 22), ("_law_n", 23)]) (N := N_law) (sc := C8.fnScope s_law) (by decide +kernel)) (fun _ _ _ _ _ => (pg_tupK (n := 3) blkK (by rfl) (pgs_cons (pg_name (i := 21) sc_law.nd rfl (.inl rfl)) (pgs_cons (pg_name (i := 22) sc_law.nd rfl (.inl rfl)) (pgs_cons (pg_name (i := 23) sc_law.nd rfl (.inl rfl)) pgs_nil))))) (fun _ _ _ _ _ => pts_nil) (fun _ _ _ _ _ => (pe_tup (pa_cons (pe_op op_add (pv 21) (pe_ix (ix_tupK blkK) (pv 4) pe_int (fun _ _ => rfl))) (pa_cons (pv 22) (pa_cons (pv 23) pa_nil)))))) (pss_cons (ps_set (i := 10) sc_law.nd rfl (.inl rfl) (pe_op op_cat (pv 10) (pe_lc (own := [("_law_m", 21), ("_law_name", 22), ("_law_n", 23)]) rfl sc_law.nd (pi_list (pe_ix ix_tup (pv 4) pe_int (fun _ _ => rfl))) (blkOk_by (own := [("_law_m", 21), ("_law_name", 22), ("_law_n", 23)]) (N := N_law) (sc := C8.fnScope s_law) (by decide +kernel)) (fun _ _ _ _ _ => (pg_tupK (n := 3) blkK (by rfl) (pgs_cons (pg_name (i := 21) sc_law.nd rfl (.inl rfl)) (pgs_cons (pg_name (i := 22) sc_law.nd rfl (.inl rfl)) (pgs_cons (pg_name (i := 23) sc_law.nd rfl (.inl rfl)) pgs_nil))))) (fun _ _ _ _ _ => pts_nil) (fun _ _ _ _ _ => (pe_tup (pa_cons (pv 21) (pa_cons (pv 22) (pa_cons (pe_op op_add (pv 23) (pe_ix (ix_tupK blkK) (pv 4) pe_int (fun _ _ => rfl))) pa_nil)))))))) (pss_cons (ps_set (i := 11) sc_law.nd rfl (.inl rfl) (C8.pe_c c__law_some hr (by decide) rfl (pa_cons (pv 1) (pa_cons (pv 10) (pa_cons pe_int pa_nil))))) (pss_cons (ps_set (i := 12) sc_law.nd rfl (.inl rfl) (pe_op op_cat (pe_ix ix_tup (pv 4) pe_int (fun _ _ => rfl)) (pe_lc (own := [("_law_place", 20)]) rfl sc_law.nd (pi_list (pe_ix ix_tup (pv 4) pe_int (fun _ _ => rfl))) (blkOk_by (own := [("_law_place", 20)]) (N := N_law) (sc := C8.fnScope s_law) (by decide +kernel)) (fun _ _ _ _ _ => (pg_name (i := 20) sc_law.nd rfl (.inl rfl))) (fun _ _ _ _ _ => pts_nil) (fun _ _ _ _ _ => (pe_op op_add (pv 20) (pe_ix (ix_tupK blkK) (pv 4) pe_int (fun _ _ => rfl))))))) (pss_one (ps_set (i := 4) sc_law.nd rfl (.inr rfl) (pe_tup (pa_cons (pe_op op_mul pe_int (pe_ix ix_tup (pv 4) pe_int (fun _ _ => rfl))) (pa_cons (pv 12) (pa_cons (pe_callB (cr_sortedMS rfl) (by rfl) T.m_sorted (by decide +kernel) (pa_cons (pe_callTy (cr_setM rfl hr.units) (by rfl) T.m_set (by decide +kernel) (pa_cons (pe_op op_cat (pe_ix ix_tup (pv 4) pe_int (fun _ _ => rfl)) (pv 11)) pa_nil)) pa_nil)) pa_nil)))))))))) pss_nil) (pss_cons (ps_asg (pe_tup (pa_cons (C8.pe_c c__law_reached hr (by decide) rfl (pa_cons (pv 4) pa_nil)) (pa_cons (C8.pe_c c__law_made hr (by decide) rfl (pa_cons (pv 1) (pa_cons (pv 4) pa_nil))) pa_nil))) (pg_tup rfl (pgs_cons (pg_name (i := 13) sc_law.nd rfl (.inr rfl)) (pgs_cons (pg_name (i := 14) sc_law.nd rfl (.inl rfl)) pgs_nil)))) (pss_cons (ps_setLc (i := 5) (own := [("_law_k", 7)]) rfl sc_law.nd rfl rfl (sw_true rfl rfl rfl (by decide +kernel)) (pi_range1 (by rfl) T.m_range (pa_cons (pe_op op_add pe_int (C8.pe_c c__law_take hr (by decide) rfl (pa_cons (pv 1) (pa_cons pe_int pa_nil)))) pa_nil)) (blkOk_by (own := [("_law_k", 7)]) (N := N_law) (sc := C8.fnScope s_law) (by decide +kernel)) (fun _ _ _ _ _ => (pg_name (i := 7) sc_law.nd rfl (.inl rfl))) (fun _ _ _ _ _ => pts_nil) (fun _ _ _ _ _ => (pe_ix (ix_listK blkK) (pv 13) (C8.pe_c c__law_take hr (by decide) rfl (pa_cons (pv 1) (pa_cons (pe_callB (call_len_seqK blkK) (by rfl) T.m_len (by decide +kernel) (pa_cons (pv 13) pa_nil)) pa_nil))) (fun _ _ => rfl)))) (pss_cons (ps_asg (C8.pe_c c_small_program hr (by decide) rfl (pa_cons (pv 14) (pa_cons (pv 5) pa_nil))) (pg_tup rfl (pgs_cons (pg_name (i := 15) sc_law.nd rfl (.inl rfl)) (pgs_cons (pg_name (i := 16) sc_law.nd rfl (.inl rfl)) pgs_nil)))) (pss_cons (ps_set (i := 6) sc_law.nd rfl (.inl rfl) (C8.pe_c c__law_parts_of hr (by decide) rfl (pa_cons (pv 15) pa_nil))) (pss_cons (ps_if (PW.pt (pw_or (pt_not (pt_val (C8.pe_c c__law_has_alike hr (by decide) rfl (pa_cons (pv 4) (pa_cons (pv 5) (pa_cons (pv 6) pa_nil)))))) (pw_or1 (pt_cmpR op_isnot_bl (C8.pe_c c_are_like_places hr (by decide) rfl (pa_cons (pv 14) (pa_cons (pv 5) (pa_cons (pv 15) (pa_cons (pv 16) pa_nil))))) pe_bl (nomark _))))) (pss_one (ps_ret pe_bl)) pss_nil) (pss_cons (ps_for PassesOwn.never rfl (pi_range1 (by rfl) T.m_range (pa_cons pe_int pa_nil)) (pg_name (i := 7) sc_law.nd rfl (.inl rfl)) (pss_cons (ps_set (i := 17) sc_law.nd rfl (.inl rfl) (C8.pe_c c__law_less hr (by decide) rfl (pa_cons (pv 1) (pa_cons (pv 6) (pa_cons (pv 3) pa_nil))))) (pss_one (ps_if (PW.pt (pw_and (pt_cmpR op_notN (pv 17) pe_non (nomark _)) (pw_and1 (pt_val (C8.pe_c c__law_has_alike hr (by decide) rfl (pa_cons (pv 4) (pa_cons (pv 5) (pa_cons (pv 17) pa_nil)))))))) (pss_one (ps_ret pe_bl)) pss_nil)))) (pss_cons (ps_if (pt_cmpR (op_nePL c_eq hr (by decide)) (C8.pe_c c_small_program hr (by decide) rfl (pa_cons (pv 15) (pa_cons (pv 16) pa_nil))) (pe_tup (pa_cons (pv 15) (pa_cons (pv 16) pa_nil))) (nomark _)) (pss_one (ps_ret pe_bl)) pss_nil) (pss_cons (ps_set (i := 8) sc_law.nd rfl (.inr rfl) (C8.pe_c c__law_mixed hr (by decide) rfl (pa_cons (pv 1) (pa_cons (pe_listRg rfl (by rfl) T.m_list (prg_1 (by rfl) T.m_range (pe_ix ix_tup (pv 4) pe_int (fun _ _ => rfl)))) pa_nil)))) (pss_cons (ps_asg (C8.pe_c c_small_program hr (by decide) rfl (pa_cons (C8.pe_mt c_moved hr (by decide) (pv 14) (pa_cons (pv 8) pa_nil)) (pa_cons (pe_lc (own := [("_law_place", 20)]) rfl sc_law.nd (pi_list (pv 5)) (blkOk_by (own := [("_law_place", 20)]) (N := N_law) (sc := C8.fnScope s_law) (by decide +kernel)) (fun _ _ _ _ _ => (pg_name (i := 20) sc_law.nd rfl (.inl rfl))) (fun _ _ _ _ _ => pts_nil) (fun _ _ _ _ _ => (pe_ix (ix_listK blkK) (pv 8) (pv 20) (fun _ _ => rfl)))) pa_nil))) (pg_tup rfl (pgs_cons (pg_name (i := 18) sc_law.nd rfl (.inl rfl)) (pgs_cons (pg_name (i := 19) sc_law.nd rfl (.inl rfl)) pgs_nil)))) (pss_cons (ps_if (PW.pt (pw_or (pt_not (pt_val (C8.pe_c c__law_same_size hr (by decide) rfl (pa_cons (pv 18) (pa_cons (pv 15) pa_nil))))) (pw_or1 (pt_cmpR op_isnot_bl (C8.pe_c c_are_like_places hr (by decide) rfl (pa_cons (pv 15) (pa_cons (pv 16) (pa_cons (pv 18) (pa_cons (pv 19) pa_nil))))) pe_bl (nomark _))))) (pss_one (ps_ret pe_bl)) pss_nil) (pss_cons (ps_set (i := 9) sc_law.nd rfl (.inl rfl) (pe_op (op_padd c_add hr (by decide)) (pv 14) (C8.pe_c c__law_made hr (by decide) rfl (pa_cons (pv 1) (pa_cons (C8.pe_c c__law_program hr (by decide) rfl (pa_cons (pv 1) (pa_cons pe_int (pa_cons pe_int (pa_cons (pv 3) pa_nil))))) pa_nil))))) (pss_one (ps_if (pt_cmpR (op_nePL c_eq hr (by decide)) (C8.pe_c c_small_program hr (by decide) rfl (pa_cons (pv 9) (pa_cons (pv 5) pa_nil))) (pe_tup (pa_cons (pv 15) (pa_cons (pv 16) pa_nil))) (nomark _)) (pss_one (ps_ret pe_bl)) pss_nil))))))))))))))))) (pss_one (ps_ret pe_bl)))), ?_⟩
  have n : Now ⟨[], none⟩ [] H (KV (At (zQ K) ns) v) H := Now.start (dmP fun a m => nomatch m) (by rw [hid_nil]; exact p)
  refine seq_ (s_setN n (en_call (x := ns) (ea_cons (ev_var (Φ := At (zQ K) ns) (v := v) rfl n.kn) ea_nil)) fun b H1 hb0 e1 n1 => ?_)
  obtain ⟨b', c, eb, hB1⟩ := id n1.kn.2
  cases eb
  rw [hid_nil] at hB1
  have dm1 : Dm ⟨[b], some b⟩ H1 := by
    refine ⟨fun a m => ?_, fun a e => ?_⟩
    · rw [List.mem_singleton.mp m]
      obtain ⟨_, _, _, _, h1, _⟩ := hB1
      exact Loc.of h1 (fun _ z => by cases z)
    · injection e with e
      rw [← e]
      exact List.mem_singleton.mpr rfl
  have m1 : Now ⟨[b], some b⟩ [] H1 KT H1 := Now.start dm1 trivial
  refine nx_ (seq_ ?_)
  refine s_for (σ := [some v, some (.ref b), none, none, none, none, none, none, none, none, none, none, none, none, none, none, none, none, none, none, none, none, none, none]) m1 (ei_range (n := 3) (by decide) (ea_cons ev_int ea_nil)) fun Kn H2 sKn e2 m2 => ?_
  refine ⟨fun i σ' H' => ∃ a2 a3 a4 a5 a6 a7 a8 a9 a10 a11 a12 a13 a14 a15 a16 a17 a18 a19, σ' = [some v, some (.ref b), a2, a3, a4, a5, a6, a7, a8, a9, a10, a11, a12, a13, a14, a15, a16, a17, a18, a19, none, none, none, none] ∧ Now ⟨[b], some b⟩ [] H1 (KAnd KT Kn) H', ⟨none, none, none, none, none, none, none, none, none, none, none, none, none, none, none, none, none, none, rfl, m2⟩, ?_, ?_, ?_⟩
  · rintro i σ' H' ⟨a2, a3, a4, a5, a6, a7, a8, a9, a10, a11, a12, a13, a14, a15, a16, a17, a18, a19, rfl, m3⟩
    exact ⟨m3.dm, m3.kn.2⟩
  · rintro i y u σ' H3 H5 hy ⟨a2, a3, a4, a5, a6, a7, a8, a9, a10, a11, a12, a13, a14, a15, a16, a17, a18, a19, rfl, m3⟩ sm hu'
    have m5 := m3.go (re.same sm)
    have hB5 : BagAt H5 b c := (m5.out.2 b rfl).2 c hB1
    have n5 : Now ⟨[b], some b⟩ [] H5 KT H5 := Now.start m5.dm trivial
    refine g_name ?_
    -- names
    refine seq_ (s_set (σ := [some v, some (.ref b), some u, a3, a4, a5, a6, a7, a8, a9, a10, a11, a12, a13, a14, a15, a16, a17, a18, a19, none, none, none, none]) n5 (Φ := Som (zL zN) fun l => l.length ≤ 10) (EvP.imp (ev_callBx (f := ⟨[b], some b⟩) (X := fun m : NamesI => m.1 ≤ 6) rfl hB5 rfl (EvA.imp (ea_cons (Φ := Som zI fun k => k = 1 ∨ k = 2) (ev_op ev_int (ev_callB (f := ⟨[b], some b⟩) (x := (⟨2, by decide, by decide⟩ : Many)) rfl hB5 rfl (ea_cons ev_int ea_nil)) (Ru2.ex2 fun k hk => ?_)) ea_nil) fun G vs hv => ?_)) fun G w hw => ?_) fun w3 H6 e6 n6 => ?_)
    · have hk : InR 2 k := hk
      have h1 := hk.1
      have h2 := hk.2
      exact Ru2.imp ru_add fun G v z => ⟨_, by omega, z⟩
    · obtain ⟨u1, r1, rfl, ⟨k, hk, h1⟩, h2⟩ := hv
      obtain rfl : u1 = .int k := h1
      refine ⟨⟨k.toNat, by omega⟩, by show k.toNat ≤ 6; omega, .int k, r1, rfl, ?_, h2⟩
      show V.int k = V.int ((k.toNat : Nat) : Int)
      rw [show ((k.toNat : Nat) : Int) = k by omega]
    · obtain ⟨⟨m, hm⟩, _, l, hl, hv⟩ := hw
      exact ⟨l, by have hl : l.length = m := hl; omega, hv⟩
    obtain ⟨names, hnl, hv3⟩ := id n6.kn.2
    have hnl : names.length ≤ 10 := hnl
    have n6 := n6.know (K' := KV (At (zL zN) names) w3) hv3
    have hB6 := (n6.out.2 b rfl).2 c hB5
    -- parts
    refine nx_ (seq_ (s_set (σ := [some v, some (.ref b), some u, some w3, a4, a5, a6, a7, a8, a9, a10, a11, a12, a13, a14, a15, a16, a17, a18, a19, none, none, none, none]) n6 (ev_callB (f := ⟨[b], some b⟩) (x := (⟨5, 8, names, by decide, by decide, by decide, hnl⟩ : ProgI)) rfl hB6 rfl (ea_cons ev_int (ea_cons ev_int (ea_cons (ev_var (Φ := At (zL zN) names) (v := w3) rfl n6.kn) ea_nil)))) fun w4 H7 e7 n7 => ?_))
    obtain ⟨A0, hA0, hv4⟩ := id n7.kn.2
    have hA0 : OkT 5 8 A0 := hA0
    have n7 := n7.know (K' := KAnd (KV (At (zL zN) names) w3) (KV (At zPt A0) w4)) ⟨n7.kn.1, hv4⟩
    have hB7 := (n7.out.2 b rfl).2 c hB5
    have ok0 := okL_of hA0
    have few0 := ok0.few
    refine nx_ (seq_k (fun σ' H' => ∃ w4 A a10 a11 a12, σ' = [some v, some (.ref b), some u, some w3, some w4, a5, a6, a7, a8, a9, a10, a11, a12, a13, a14, a15, a16, a17, a18, a19, none, none, none, none] ∧ OkL A ∧ Now ⟨[b], some b⟩ [] H5 (KAnd (KV (At (zL zN) names) w3) (KV (At zPt A) w4)) H') (fun N hN => ?_) ?_)
    · -- twice
      refine s_if (σ := [some v, some (.ref b), some u, some w3, some w4, a5, a6, a7, a8, a9, a10, a11, a12, a13, a14, a15, a16, a17, a18, a19, none, none, none, none]) n7 (et_andS (P := fun _ => True) (et_B (ev_op (ev_callB (f := ⟨[b], some b⟩) (x := (⟨2, by decide, by decide⟩ : Many)) rfl hB7 rfl (ea_cons ev_int ea_nil)) ev_int (Ru2.ex1 fun k hk => Ru2.imp ru_eqI fun G v z => ⟨_, trivial, z⟩))) (et_B1 (ev_op (ev_pt0 (ev_var (Φ := At zPt A0) (v := w4) rfl n7.kn.2)) ev_int ru_lt))) (fun pt H8 e8 n8 => ?_) fun _ H8 e8 n8 => hN _ _ ⟨w4, A0, a10, a11, a12, rfl, ok0, n8⟩
      have f8 := hA0.few
      have p4 : A0.pl < 4 := of_decide_eq_true (pt rfl).symm
      refine seq_ (s_set (σ := [some v, some (.ref b), some u, some w3, some w4, a5, a6, a7, a8, a9, a10, a11, a12, a13, a14, a15, a16, a17, a18, a19, none, none, none, none]) n8 (Φ := At (zL zE) (twice1 A0)) (EvP.is (ev_lcD (S := zE) n8.kn (ei_list (R := zE) (ev_pt2 (ev_var (Φ := At zPt A0) (v := w4) rfl n8.kn.2))) (by omega) (fun _ => true) (fun e => (e.1 + A0.pl, e.2.1, e.2.2)) fun e f' H' u' he hb dm' e' k' hr' => bnd_tup3 hr' fun u1 u2 u3 h1 h2 h3 => ⟨rfl, et_yes, fun _ => ev_tup3 (R := zI) (S := zN) (T := zI) (x := e.1 + A0.pl) (y := e.2.1) (z := e.2.2) (ev_op (ev_var (Φ := At zI e.1) rfl h1) (ev_pt0 (ev_var (Φ := At zPt A0) (v := w4) rfl k'.2)) ru_add) (ev_var (Φ := At zN e.2.1) rfl h2) (ev_var (Φ := At zI e.2.2) rfl h3)⟩) (by rw [filter_yes]; rfl)) fun w10 H9 e9 n9 => ?_)
      have l1 : (twice1 A0).length = A0.ed.length := List.length_map _
      have l2 : (twice2 A0).length = A0.ed.length := List.length_map _
      refine nx_ (seq_ (s_set (σ := [some v, some (.ref b), some u, some w3, some w4, a5, a6, a7, a8, a9, some w10, a11, a12, a13, a14, a15, a16, a17, a18, a19, none, none, none, none]) n9 (Φ := At (zL zE) (twice1 A0 ++ twice2 A0)) (ev_op (ev_var (Φ := At (zL zE) (twice1 A0)) (v := w10) rfl n9.kn.2) (EvP.is (y := twice2 A0) (ev_lcD (S := zE) n9.kn (ei_list (R := zE) (ev_pt2 (ev_var (Φ := At zPt A0) (v := w4) rfl n9.kn.1.2))) (by omega) (fun _ => true) (fun e => (e.1, e.2.1, e.2.2 + A0.pl)) fun e f' H' u' he hb dm' e' k' hr' => bnd_tup3 hr' fun u1 u2 u3 h1 h2 h3 => ⟨rfl, et_yes, fun _ => ev_tup3 (R := zI) (S := zN) (T := zI) (x := e.1) (y := e.2.1) (z := e.2.2 + A0.pl) (ev_var (Φ := At zI e.1) rfl h1) (ev_var (Φ := At zN e.2.1) rfl h2) (ev_op (ev_var (Φ := At zI e.2.2) rfl h3) (ev_pt0 (ev_var (Φ := At zPt A0) (v := w4) rfl k'.1.2)) ru_add)⟩) (by rw [filter_yes]; rfl)) (ru_cat (by omega))) fun w10 H10 e10 n10 => ?_))
      have n10 := n10.know (K' := KAnd (KAnd (KV (At (zL zN) names) w3) (KV (At zPt A0) w4)) (KV (At (zL zE) (twice1 A0 ++ twice2 A0)) w10)) ⟨n10.kn.1.1, n10.kn.2⟩
      have hB10 := (n10.out.2 b rfl).2 c hB5
      refine nx_ (seq_ (s_set (σ := [some v, some (.ref b), some u, some w3, some w4, a5, a6, a7, a8, a9, some w10, a11, a12, a13, a14, a15, a16, a17, a18, a19, none, none, none, none]) n10 (ev_callB (f := ⟨[b], some b⟩) (x := (⟨(twice1 A0 ++ twice2 A0, 2), by rw [List.length_append]; omega, by show (0 : Int) < 2; decide, by show (2 : Int) < 1073741824; decide⟩ : SomeI E3)) rfl hB10 rfl (ea_cons (ev_var (Φ := At (zL zE) (twice1 A0 ++ twice2 A0)) (v := w10) rfl n10.kn.2) (ea_cons ev_int ea_nil))) fun w11 H11 e11 n11 => ?_))
      obtain ⟨more, hmore, hv11⟩ := id n11.kn.2
      have hmore : List.Sublist more (twice1 A0 ++ twice2 A0) := hmore
      have lm := hmore.length_le
      rw [List.length_append] at lm
      have n11 := n11.know (K' := KAnd (KAnd (KV (At (zL zN) names) w3) (KV (At zPt A0) w4)) (KV (At (zL zE) more) w11)) ⟨n11.kn.1.1, hv11⟩
      refine nx_ (seq_ (s_set (σ := [some v, some (.ref b), some u, some w3, some w4, a5, a6, a7, a8, a9, some w10, some w11, a12, a13, a14, a15, a16, a17, a18, a19, none, none, none, none]) n11 (Φ := At (zL zI) (A0.bg ++ A0.bg.map fun x => x + A0.pl)) (ev_op (ev_pt1 (ev_var (Φ := At zPt A0) (v := w4) rfl n11.kn.1.2)) (EvP.is (y := A0.bg.map fun x => x + A0.pl) (ev_lcD (S := zI) n11.kn (ei_list (R := zI) (ev_pt1 (ev_var (Φ := At zPt A0) (v := w4) rfl n11.kn.1.2))) (by omega) (fun _ => true) (fun x => x + A0.pl) fun x f' H' u' hx hb dm' e' k' hr' => bnd_name ⟨rfl, et_yes, fun _ => ev_op (ev_var (Φ := At zI x) rfl hr') (ev_pt0 (ev_var (Φ := At zPt A0) (v := w4) rfl k'.1.2)) ru_add⟩) (by rw [filter_yes])) (ru_cat (by rw [List.length_map]; omega))) fun w12 H12 e12 n12 => ?_))
      have nmA := names_lst (id n12.kn.1.1.2).choose_spec.choose_spec.choose_spec.choose_spec.2.2.2.2
      have nmM := names_lst n12.kn.1.2
      refine nx_ (s_set (σ := [some v, some (.ref b), some u, some w3, some w4, a5, a6, a7, a8, a9, some w10, some w11, some w12, a13, a14, a15, a16, a17, a18, a19, none, none, none, none]) n12 (Φ := At zPt (dblP A0 more)) (ev_tup3 (R := zI) (S := zL zI) (T := zL zE) (x := 2 * A0.pl) (y := A0.bg ++ A0.bg.map fun x => x + A0.pl) (z := canon (A0.ed ++ more)) (ev_op ev_int (ev_pt0 (ev_var (Φ := At zPt A0) (v := w4) rfl n12.kn.1.1.2)) (ru_mul (.inl ⟨by decide, by decide⟩))) (ev_var (Φ := At (zL zI) (A0.bg ++ A0.bg.map fun x => x + A0.pl)) (v := w12) rfl n12.kn.2) (ev_cb (ea_cons (ev_cb (ea_cons (ev_op (ev_pt2 (ev_var (Φ := At zPt A0) (v := w4) rfl n12.kn.1.1.2)) (ev_var (Φ := At (zL zE) more) (v := w11) rfl n12.kn.1.2) (ru_cat (by omega))) ea_nil) (ra_setM (by rw [List.length_append]; omega))) ea_nil) (ra_sortedK (fun e he => ?_) fun k => Iff.rfl))) fun w4 H13 e13 n13 => ?_)
      · exact (List.mem_append.mp he).elim (nmA e) (nmM e)
      · exact hN _ _ ⟨w4, dblP A0 more, _, _, _, rfl, okL_dbl hA0 p4 hmore, n13.know ⟨n13.kn.1.1.1.1, n13.kn.2⟩⟩
    rintro σ' H7 ⟨w4, A, a10, a11, a12, rfl, okl, n7⟩
    have ok := okl.ok
    have few := ok.few
    have p1 := ok.p1
    have p6 := okl.p6
    have ten := reach_ten ok
    have hB7 := (n7.out.2 b rfl).2 c hB5
    have rp : 0 < (reachL A).length := List.length_pos_iff.mpr (reach_ne ok.b0)
    -- the program, its places
    refine seq_ (s_asgP (σ := [some v, some (.ref b), some u, some w3, some w4, a5, a6, a7, a8, a9, a10, a11, a12, a13, a14, a15, a16, a17, a18, a19, none, none, none, none]) (Φ1 := At (zL zI) (reachL A)) (Φ2 := At (zPr C) A) n7 (ev_call (x := (⟨A, ok⟩ : PDo)) (ea_cons (ev_var (Φ := At zPt A) (v := w4) rfl n7.kn.2) ea_nil)) (ev_callB (f := ⟨[b], some b⟩) (x := (⟨A, ok⟩ : PDo)) rfl hB7 rfl (ea_cons (ev_var (Φ := At zPt A) (v := w4) rfl n7.kn.2) ea_nil)) fun w13 w14 H8 e8 n8 => ?_)
    have hB8 := (n8.out.2 b rfl).2 c hB5
    -- what is asked
    refine nx_ (seq_ (s_set (σ := [some v, some (.ref b), some u, some w3, some w4, a5, a6, a7, a8, a9, a10, a11, a12, some w13, some w14, a15, a16, a17, a18, a19, none, none, none, none]) n8 (Φ := Som (zL zI) fun l => l ≠ [] ∧ l.length ≤ 10 ∧ ∀ x ∈ l, x ∈ reachL A) (ev_lcR (Pr := fun k => 1 ≤ k ∧ k ≤ 3) (ea_cons (ev_op ev_int (ev_callB (f := ⟨[b], some b⟩) (x := (⟨3, by decide, by decide⟩ : Many)) rfl hB8 rfl (ea_cons ev_int ea_nil)) (Ru2.ex2 fun k hk => ?_)) ea_nil) (fun i h => ⟨by omega, by omega⟩) fun m hm => EvP.imp (ev_lc (S := zI) n8.kn (ei_itr (n := m)) (by rw [upto_length]; omega) (fun i out => out.length = i ∧ ∀ x ∈ out, x ∈ reachL A) ⟨rfl, fun x h => nomatch h⟩ fun i x out f' H' u' hx hJ hb d e' k' hr' => ⟨(· = true), bnd_name ⟨rfl, et_yes, fun _ => ev_op (ev_var (Φ := At (zL zI) (reachL A)) (v := w13) rfl k'.1.2) (ev_callB (x := (⟨((reachL A).length : Int), by omega, by omega⟩ : Many)) (show f'.b = some b from hb) ((e'.2 b rfl).2 c hB8) rfl (ea_cons (ev_cb (ea_cons (ev_var (Φ := At (zL zI) (reachL A)) (v := w13) rfl k'.1.2) ea_nil) ra_lenL) ea_nil)) (Ru2.ex2 fun k hk => ?_)⟩, fun z => nomatch z⟩) fun G v hv => ?_) fun w5 H9 e9 n9 => ?_))
    · have hk : InR 3 k := hk
      have h1 := hk.1
      have h2 := hk.2
      exact Ru2.imp ru_add fun G v z => ⟨_, ⟨by omega, by omega⟩, z⟩
    · have hk : InR ((reachL A).length : Int) k := hk
      have h1 := hk.1
      have h2 := hk.2
      have lt : k.toNat < (reachL A).length := by omega
      refine Ru2.imp (ru_ixL (x := (reachL A)[k.toNat]) h1 (List.getElem?_eq_getElem lt)) fun G v z => ⟨_, ⟨?_, fun y hy => ?_⟩, z⟩
      · rw [List.length_append, hJ.1]
        rfl
      · rcases List.mem_append.mp hy with hy | hy
        · exact hJ.2 y hy
        · rw [List.mem_singleton.mp hy]
          exact List.getElem_mem lt
    · obtain ⟨l, ⟨h1, h2⟩, hv⟩ := hv
      rw [upto_length] at h1
      refine ⟨l, ⟨fun z => ?_, by omega, h2⟩, hv⟩
      rw [z] at h1
      have h1 : 0 = m := h1
      omega
    obtain ⟨asked, ⟨ha0, hal, har⟩, hv5⟩ := id n9.kn.2
    have hask : Asked A asked := ⟨ok, ha0, har, hal⟩
    have okT := small_ok hask
    have hag := again_asked hask
    have lat : (smallAt A asked).length ≤ 100 := by
      have := hag.few
      omega
    have n9 := n9.know (K' := KAnd (KAnd (KAnd (KV (At (zL zN) names) w3) (KV (At zPt A) w4)) (KV (At (zPr C) A) w14)) (KV (At (zL zI) asked) w5)) ⟨⟨n9.kn.1.1.1, n9.kn.1.2⟩, hv5⟩
    -- the least one
    refine nx_ (seq_ (s_asg2 (σ := [some v, some (.ref b), some u, some w3, some w4, some w5, a6, a7, a8, a9, a10, a11, a12, some w13, some w14, a15, a16, a17, a18, a19, none, none, none, none]) (R := zPr C) (S := zL zI) (x := (smallP A asked, smallAt A asked)) n9 (ev_call (x := (⟨(A, asked), hask⟩ : AskI)) (ea_cons (ev_var (Φ := At (zPr C) A) (v := w14) rfl n9.kn.1.2) (ea_cons (ev_var (Φ := At (zL zI) asked) (v := w5) rfl n9.kn.2) ea_nil))) fun w15 w16 H10 e10 n10 => ?_))
    refine nx_ (seq_ (s_set (σ := [some v, some (.ref b), some u, some w3, some w4, some w5, a6, a7, a8, a9, a10, a11, a12, some w13, some w14, some w15, some w16, a17, a18, a19, none, none, none, none]) n10 (ev_call (x := smallP A asked) (ea_cons (ev_var (Φ := At (zPr C) (smallP A asked)) (v := w15) rfl n10.kn.1.2) ea_nil)) fun w6 H11 e11 n11 => ?_))
    -- (i)
    refine nx_ (s_if1 (σ := [some v, some (.ref b), some u, some w3, some w4, some w5, some w6, a7, a8, a9, a10, a11, a12, some w13, some w14, some w15, some w16, a17, a18, a19, none, none, none, none]) n11 (et_or (a := false) (b := false) (et_is (et_not (et_test1 (ev_call (x := (⟨A, asked, smallP A asked, ok, okT, by omega⟩ : HasI)) (ea_cons (ev_var (Φ := At zPt A) (v := w4) rfl n11.kn.1.1.1.1.1.2) (ea_cons (ev_var (Φ := At (zL zI) asked) (v := w5) rfl n11.kn.1.1.1.2) (ea_cons (ev_var (Φ := At zPt (smallP A asked)) (v := w6) rfl n11.kn.2) ea_nil)))))) (by show (!yes (HasAlk A (smallP A asked) asked)) = false; rw [yes_iff.mpr (has_told hask)]; rfl)) fun _ => et_is (et_B1 (ev_op (ev_call (x := (⟨A, asked, smallP A asked, smallAt A asked, ok, okT, har, hag.r, by omega, lat⟩ : NeedI)) (ea_cons (ev_var (Φ := At (zPr C) A) (v := w14) rfl n11.kn.1.1.1.1.2) (ea_cons (ev_var (Φ := At (zL zI) asked) (v := w5) rfl n11.kn.1.1.1.2) (ea_cons (ev_var (Φ := At (zPr C) (smallP A asked)) (v := w15) rfl n11.kn.1.1.2) (ea_cons (ev_var (Φ := At (zL zI) (smallAt A asked)) (v := w16) rfl n11.kn.1.2) ea_nil))))) ev_bl ru_isnotB)) (by show (!decide (yes (likeB A (smallP A asked) asked (smallAt A asked)) = true)) = false; rw [yes_iff.mpr (like_told hask)]; rfl)) (fun h => absurd h (by decide)) fun _ H12 e12 n12 => ?_)
    -- (ii)
    refine seq_ ?_
    refine s_for (σ := [some v, some (.ref b), some u, some w3, some w4, some w5, some w6, a7, a8, a9, a10, a11, a12, some w13, some w14, some w15, some w16, a17, a18, a19, none, none, none, none]) n12 (ei_range (n := 8) (by decide) (ea_cons ev_int ea_nil)) fun Kl H13 sKl e13 n13 => ?_
    refine ⟨fun i σ' H' => ∃ a7 a17, σ' = [some v, some (.ref b), some u, some w3, some w4, some w5, some w6, a7, a8, a9, a10, a11, a12, some w13, some w14, some w15, some w16, a17, a18, a19, none, none, none, none] ∧ Now ⟨[b], some b⟩ [] H5 (KAnd (KAnd (KAnd (KAnd (KAnd (KAnd (KAnd (KV (At (zL zN) names) w3) (KV (At zPt A) w4)) (KV (At (zPr C) A) w14)) (KV (At (zL zI) asked) w5)) (KV (At (zPr C) (smallP A asked)) w15)) (KV (At (zL zI) (smallAt A asked)) w16)) (KV (At zPt (smallP A asked)) w6)) Kl) H', ⟨a7, a17, rfl, n13⟩, ?_, ?_, ?_⟩
    · rintro i σ' H' ⟨a7, a17, rfl, n14⟩
      exact ⟨n14.dm, n14.kn.2⟩
    · rintro i y u' σ' H14 H15 hy ⟨a7, a17, rfl, n14⟩ sm hu'
      have n15 := n14.go (re.same sm)
      have hB15 := (n15.out.2 b rfl).2 c hB5
      refine g_name ?_
      refine seq_ (s_set (σ := [some v, some (.ref b), some u, some w3, some w4, some w5, some w6, some u', a8, a9, a10, a11, a12, some w13, some w14, some w15, some w16, a17, a18, a19, none, none, none, none]) n15 (ev_callB (f := ⟨[b], some b⟩) (x := (⟨(smallP A asked, names), okT, hnl⟩ : LessI)) rfl hB15 rfl (ea_cons (ev_var (Φ := At zPt (smallP A asked)) (v := w6) rfl n15.kn.1.2) (ea_cons (ev_var (Φ := At (zL zN) names) (v := w3) rfl n15.kn.1.1.1.1.1.1.1) ea_nil))) fun w17 H16 e16 n16 => ?_)
      obtain ⟨o, ho, hv17⟩ := id n16.kn.2
      have n16 := n16.know n16.kn.1
      refine nx_ (s_if (σ := [some v, some (.ref b), some u, some w3, some w4, some w5, some w6, some u', a8, a9, a10, a11, a12, some w13, some w14, some w15, some w16, some w17, a18, a19, none, none, none, none]) (P := (· = false)) n16 ?_ (fun h => absurd h (by decide)) fun _ H17 e17 n17 => ⟨_, _, rfl, n17⟩)
      cases o with
      | none => exact et_and (a := false) (b := false) (et_B1 (ev_op (ev_var (Φ := At (zO zPt) none) (v := w17) rfl hv17) ev_non (ru_notN (R := zPt) fun G v y h => pt_ne h))) fun z => nomatch z
      | some B =>
        obtain ⟨oB, lB⟩ := ho B rfl
        exact et_and (a := true) (b := false) (et_B1 (ev_op (ev_var (Φ := At (zO zPt) (some B)) (v := w17) rfl hv17) ev_non (ru_notN (R := zPt) fun G v y h => pt_ne h))) fun _ => et_is (et_test1 (ev_call (x := (⟨A, asked, B, ok, oB, by omega⟩ : HasI)) (ea_cons (ev_var (Φ := At zPt A) (v := w4) rfl n16.kn.1.1.1.1.1.1.2) (ea_cons (ev_var (Φ := At (zL zI) asked) (v := w5) rfl n16.kn.1.1.1.1.2) (ea_cons (ev_var (Φ := At zPt B) (v := w17) rfl hv17) ea_nil))))) (by
          show yes (HasAlk A B asked) = false
          cases q : yes (HasAlk A B asked) with
          | false => rfl
          | true => exact absurd (yes_iff.mp q) (no_lesser hask oB lB))
    rintro σ' H14 ⟨a7, a17, rfl, n14⟩
    have n14 := n14.know n14.kn.1
    -- (iii)
    refine nx_ (s_if1 (σ := [some v, some (.ref b), some u, some w3, some w4, some w5, some w6, a7, a8, a9, a10, a11, a12, some w13, some w14, some w15, some w16, a17, a18, a19, none, none, none, none]) n14 (et_B1 (ev_op (EvP.is (y := (smallP A asked, smallAt A asked)) (ev_call (x := (⟨(smallP A asked, smallAt A asked), hag⟩ : AskI)) (ea_cons (ev_var (Φ := At (zPr C) (smallP A asked)) (v := w15) rfl n14.kn.1.1.2) (ea_cons (ev_var (Φ := At (zL zI) (smallAt A asked)) (v := w16) rfl n14.kn.1.2) ea_nil))) (by show (smallP (smallP A asked) (smallAt A asked), smallAt (smallP A asked) (smallAt A asked)) = _; rw [(small_again hask).1, (small_again hask).2])) (ev_tup2 (R := zPr C) (S := zL zI) (x := smallP A asked) (y := smallAt A asked) (ev_var (Φ := At (zPr C) (smallP A asked)) (v := w15) rfl n14.kn.1.1.2) (ev_var (Φ := At (zL zI) (smallAt A asked)) (v := w16) rfl n14.kn.1.2)) ru_nePL)) (fun h => absurd h (by decide)) fun _ H15 e15 n15 => ?_)
    have hB15 := (n15.out.2 b rfl).2 c hB5
    have plN : ((A.pl.toNat : Nat) : Int) = A.pl := by omega
    -- (iv)
    refine seq_ (s_set (σ := [some v, some (.ref b), some u, some w3, some w4, some w5, some w6, a7, a8, a9, a10, a11, a12, some w13, some w14, some w15, some w16, a17, a18, a19, none, none, none, none]) n15 (ev_callB (f := ⟨[b], some b⟩) (x := (⟨upto A.pl.toNat, by rw [upto_length]; omega⟩ : { l : List Int // l.length ≤ 100 })) rfl hB15 rfl (ea_cons (ev_listRg (n := A.pl.toNat) (by omega) (EvP.is (ev_pt0 (ev_var (Φ := At zPt A) (v := w4) rfl n15.kn.1.1.1.1.1.2)) plN.symm)) ea_nil)) fun w8 H16 e16 n16 => ?_)
    obtain ⟨o, ho, hv8⟩ := id n16.kn.2
    have ho : o.Perm (upto A.pl.toNat) := ho
    obtain ⟨okO, ndO⟩ := ord_of ok plN.symm ho
    have n16 := n16.know (K' := KAnd (KAnd (KAnd (KAnd (KAnd (KAnd (KAnd (KV (At (zL zN) names) w3) (KV (At zPt A) w4)) (KV (At (zPr C) A) w14)) (KV (At (zL zI) asked) w5)) (KV (At (zPr C) (smallP A asked)) w15)) (KV (At (zL zI) (smallAt A asked)) w16)) (KV (At zPt (smallP A asked)) w6)) (KV (At (zL zI) o) w8)) ⟨n16.kn.1, hv8⟩
    have hM := mov_asked okO hask
    have okM := small_ok hM
    have hMag := again_asked hM
    have latM : (smallAt (movedP A o) (asked.map (ordF o))).length ≤ 100 := by
      have := hMag.few
      omega
    refine nx_ (seq_ (s_asg2 (σ := [some v, some (.ref b), some u, some w3, some w4, some w5, some w6, a7, some w8, a9, a10, a11, a12, some w13, some w14, some w15, some w16, a17, a18, a19, none, none, none, none]) (R := zPr C) (S := zL zI) (x := (smallP (movedP A o) (asked.map (ordF o)), smallAt (movedP A o) (asked.map (ordF o)))) n16 (ev_call (x := (⟨(movedP A o, asked.map (ordF o)), hM⟩ : AskI)) (ea_cons (ev_meth (x := (⟨(A, o), okO⟩ : { x : PD × List Int // OkOrd x.1 x.2 })) (ev_var (Φ := At (zPr C) A) (v := w14) rfl n16.kn.1.1.1.1.1.2) (ins_of rfl) (ea_cons (ev_var (Φ := At (zL zI) o) (v := w8) rfl n16.kn.2) ea_nil) fun G v vs h1 h2 => ⟨v, vs, rfl, h1, h2⟩) (ea_cons (EvP.is (y := asked.map (ordF o)) (ev_lcD (S := zI) n16.kn (ei_list (R := zI) (ev_var (Φ := At (zL zI) asked) (v := w5) rfl n16.kn.1.1.1.1.2)) (by omega) (fun _ => true) (ordF o) fun x f' H' u' hx hb dm' e' k' hr' => bnd_name ⟨rfl, et_yes, fun _ => ev_op (ev_var (Φ := At (zL zI) o) (v := w8) rfl k'.2) (ev_var (Φ := At zI x) rfl hr') (ru_ixL (reach_rng ok (har x hx)).1 (ord_at okO (reach_rng ok (har x hx))).1)⟩) (by rw [filter_yes])) ea_nil))) fun w18 w19 H17 e17 n17 => ?_))
    refine nx_ (s_if1 (σ := [some v, some (.ref b), some u, some w3, some w4, some w5, some w6, a7, some w8, a9, a10, a11, a12, some w13, some w14, some w15, some w16, a17, some w18, some w19, none, none, none, none]) n17 (et_or (a := false) (b := false) (et_is (et_not (et_test1 (ev_call (x := (smallP (movedP A o) (asked.map (ordF o)), smallP A asked)) (ea_cons (ev_var (Φ := At (zPr C) (smallP (movedP A o) (asked.map (ordF o)))) (v := w18) rfl n17.kn.1.2) (ea_cons (ev_var (Φ := At (zPr C) (smallP A asked)) (v := w15) rfl n17.kn.1.1.1.1.1.2) ea_nil))))) (by show (!decide (sizeP (smallP (movedP A o) (asked.map (ordF o))) = sizeP (smallP A asked))) = false; rw [decide_eq_true (mov_size okO ndO hask)]; rfl)) fun _ => et_is (et_B1 (ev_op (ev_call (x := (⟨smallP A asked, smallAt A asked, smallP (movedP A o) (asked.map (ordF o)), smallAt (movedP A o) (asked.map (ordF o)), okT, okM, hag.r, hMag.r, lat, latM⟩ : NeedI)) (ea_cons (ev_var (Φ := At (zPr C) (smallP A asked)) (v := w15) rfl n17.kn.1.1.1.1.1.2) (ea_cons (ev_var (Φ := At (zL zI) (smallAt A asked)) (v := w16) rfl n17.kn.1.1.1.1.2) (ea_cons (ev_var (Φ := At (zPr C) (smallP (movedP A o) (asked.map (ordF o)))) (v := w18) rfl n17.kn.1.2) (ea_cons (ev_var (Φ := At (zL zI) (smallAt (movedP A o) (asked.map (ordF o)))) (v := w19) rfl n17.kn.2) ea_nil))))) ev_bl ru_isnotB)) (by show (!decide (yes (likeB (smallP A asked) (smallP (movedP A o) (asked.map (ordF o))) (smallAt A asked) (smallAt (movedP A o) (asked.map (ordF o)))) = true)) = false; rw [yes_iff.mpr (like_mov okO ndO hask)]; rfl)) (fun h => absurd h (by decide)) fun _ H18 e18 n18 => ?_)
    have n18 := n18.know n18.kn.1.1.1
    have hB18 := (n18.out.2 b rfl).2 c hB5
    -- (v)
    refine seq_ (s_set (σ := [some v, some (.ref b), some u, some w3, some w4, some w5, some w6, a7, some w8, a9, a10, a11, a12, some w13, some w14, some w15, some w16, a17, some w18, some w19, none, none, none, none]) n18 (Φ := Som (zPr C) fun B => ∃ O, OkT 3 4 O ∧ B = besideP A O) (ev_op (Φ1 := At (zPr C) A) (Φ2 := Som (zPr C) (OkT 3 4)) (ev_var (Φ := At (zPr C) A) (v := w14) rfl n18.kn.1.1.1.1.2) (EvP.imp (ev_callBx (f := ⟨[b], some b⟩) (X := fun x : PDo => OkT 3 4 x.1) rfl hB18 rfl (EvA.imp (ea_cons (Φ := Som zPt (OkT 3 4)) (ev_callB (f := ⟨[b], some b⟩) (x := (⟨3, 4, names, by decide, by decide, by decide, hnl⟩ : ProgI)) rfl hB18 rfl (ea_cons ev_int (ea_cons ev_int (ea_cons (ev_var (Φ := At (zL zN) names) (v := w3) rfl n18.kn.1.1.1.1.1.1) ea_nil)))) ea_nil) fun G vs hv => ?_)) fun G v hv => ?_) (Ru2.ex2 fun O hO => Ru2.imp (ru_padd (add_of okl hO)) fun G v z => ⟨_, ⟨O, hO, rfl⟩, z⟩)) fun w9 H19 e19 n19 => ?_)
    · obtain ⟨u1, r1, rfl, ⟨O, hO, h1⟩, h2⟩ := hv
      exact ⟨⟨O, okT_ok hO (by decide) (by decide)⟩, hO, u1, r1, rfl, h1, h2⟩
    · obtain ⟨⟨O, oO⟩, hO, hv⟩ := hv
      exact ⟨O, hO, hv⟩
    obtain ⟨B, ⟨O, hO, rfl⟩, hv9⟩ := id n19.kn.2
    have okA := add_of okl hO
    refine nx_ (s_if (σ := [some v, some (.ref b), some u, some w3, some w4, some w5, some w6, a7, some w8, some w9, a10, a11, a12, some w13, some w14, some w15, some w16, a17, some w18, some w19, none, none, none, none]) n19 (et_B1 (ev_op (EvP.is (y := (smallP A asked, smallAt A asked)) (ev_call (x := (⟨(besideP A O, asked), bes_asked okA hask⟩ : AskI)) (ea_cons (ev_var (Φ := At (zPr C) (besideP A O)) (v := w9) rfl hv9) (ea_cons (ev_var (Φ := At (zL zI) asked) (v := w5) rfl n19.kn.1.1.1.1.2) ea_nil))) (by show (smallP (besideP A O) asked, smallAt (besideP A O) asked) = _; rw [(bes_small okA hask).1, (bes_small okA hask).2])) (ev_tup2 (R := zPr C) (S := zL zI) (x := smallP A asked) (y := smallAt A asked) (ev_var (Φ := At (zPr C) (smallP A asked)) (v := w15) rfl n19.kn.1.1.1.2) (ev_var (Φ := At (zL zI) (smallAt A asked)) (v := w16) rfl n19.kn.1.1.2)) ru_nePL)) (fun h => absurd h (by decide)) fun _ H20 e20 n20 => ?_)
    exact ⟨_, _, _, _, _, _, _, _, _, _, _, _, _, _, _, _, _, _, rfl, m5.go n20.out⟩
  · rintro σ' H3 ⟨a2, a3, a4, a5, a6, a7, a8, a9, a10, a11, a12, a13, a14, a15, a16, a17, a18, a19, rfl, m3⟩
    refine nx_ ?_
    refine s_ret m3 ev_bl fun v4 H4 e4 m4 => ?_
    obtain rfl : v4 = .bl true := m4.kn.2
    exact kk H4
end
end FF
namespace FF
open PySem PySem.Spec PyProof.Rows L2
/-- a def of the module, as the top has written it -/
structure DefW (K : PySem.W.Frag) (x : Str) (st : Stmt) : Prop where
  ex : ∃ (f : Addr) (oc : Value) (od : Option Addr) (kV doc pm : Value) (an : Option Addr) (cdv ct : Value) (osl : Array (Option Value)), PySem.W.nsIn K mainGlobals x = some (some (.ref f)) ∧ K.lookup f = some ⟨oc, od, .func (PySem.W.fnOf x x (C8.fnArgs st) (C8.fnBody st) (C8.fnScope st) .none kV doc pm an cdv ct), osl⟩ ∧ PySem.W.codeIn K cdv x = true ∧ PySem.W.keepIn K (.ref f) = true
/-- a method -/
structure MetW (K : PySem.W.Frag) (C : Addr) (m qual : Str) (st : Stmt) : Prop where
  ex : ∃ (f : Addr) (oc : Value) (od : Option Addr) (kV doc pm : Value) (an : Option Addr) (cdv ct : Value) (osl : Array (Option Value)), PySem.W.findIn K (.ref C) m = some (some (.ref f)) ∧ K.lookup f = some ⟨oc, od, .func (PySem.W.fnOf m qual (C8.fnArgs st) (C8.fnBody st) (C8.fnScope st) .none kV doc pm an cdv ct), osl⟩ ∧ PySem.W.codeIn K cdv qual = true ∧ PySem.W.isFn K (.ref f) = true ∧ PySem.W.keepIn K (.ref f) = true
/-- a property -/
structure ProW (K : PySem.W.Frag) (C : Addr) (m qual : Str) (st : Stmt) : Prop where
  ex : ∃ (p f : Addr) (oc : Value) (od : Option Addr) (kV doc pm : Value) (an : Option Addr) (cdv ct : Value) (osl : Array (Option Value)), PropOf K C m p f ∧ K.lookup f = some ⟨oc, od, .func (PySem.W.fnOf m qual (C8.fnArgs st) (C8.fnBody st) (C8.fnScope st) .none kV doc pm an cdv ct), osl⟩ ∧ PySem.W.codeIn K cdv qual = true
section
variable {K : PySem.W.Frag} {C p f : Addr} {x m qual : Str} {st : Stmt} {oc kV doc pm cdv ct : Value} {od an : Option Addr} {osl : Array (Option Value)} {rest : List Value}
theorem defW_mk (a : PySem.W.nsIn K mainGlobals x = some (some (.ref f))) (l : K.lookup f = some ⟨oc, od, .func (PySem.W.fnOf x x (C8.fnArgs st) (C8.fnBody st) (C8.fnScope st) .none kV doc pm an cdv ct), osl⟩) (c : PySem.W.codeIn K cdv x = true) (k : PySem.W.keepIn K (.ref f) = true) : DefW K x st := ⟨f, oc, od, kV, doc, pm, an, cdv, ct, osl, a, l, c, k⟩
theorem metW_mk (a : PySem.W.findIn K (.ref C) m = some (some (.ref f))) (l : K.lookup f = some ⟨oc, od, .func (PySem.W.fnOf m qual (C8.fnArgs st) (C8.fnBody st) (C8.fnScope st) .none kV doc pm an cdv ct), osl⟩) (c : PySem.W.codeIn K cdv qual = true) (i : PySem.W.isFn K (.ref f) = true) (k : PySem.W.keepIn K (.ref f) = true) : MetW K C m qual st := ⟨f, oc, od, kV, doc, pm, an, cdv, ct, osl, a, l, c, i, k⟩
theorem proW_mk (a : PySem.W.findIn K (.ref C) m = some (some (.ref p))) (g : PySem.W.specialIn K (.ref p) "__get__" = some (some (.builtin "property.__get__"))) (t : PySem.W.takesIn K (.ref p) = some true) (r : PySem.W.recIn K p "property" = some (.ref f :: rest)) (l : K.lookup f = some ⟨oc, od, .func (PySem.W.fnOf m qual (C8.fnArgs st) (C8.fnBody st) (C8.fnScope st) .none kV doc pm an cdv ct), osl⟩) (c : PySem.W.codeIn K cdv qual = true) : ProW K C m qual st := ⟨p, f, oc, od, kV, doc, pm, an, cdv, ct, osl, ⟨a, g, t, _, r⟩, l, c⟩
theorem DefW.out {h : Heap} {mg : Str → Option Value} (d : DefW K x st) (X : K.In h) (G : h.Ns mainGlobals mg) : ∃ f fd, C8.Def K mg x st f fd ∧ fd.defaults = .none := by
  obtain ⟨f, oc, od, kV, doc, pm, an, cdv, ct, osl, a, l, c, k⟩ := d.ex
  exact ⟨f, _, ⟨⟨oc, od, .none, kV, doc, pm, an, cdv, ct, osl, rfl, l, c⟩, PySem.W.mg_of X G a, k⟩, rfl⟩
theorem MetW.out (d : MetW K C m qual st) : ∃ f fd, Meth K C m f ∧ C8.Fun K m qual st f fd ∧ fd.defaults = .none := by
  obtain ⟨f, oc, od, kV, doc, pm, an, cdv, ct, osl, a, l, c, i, k⟩ := d.ex
  exact ⟨f, _, ⟨a, i, k⟩, ⟨oc, od, .none, kV, doc, pm, an, cdv, ct, osl, rfl, l, c⟩, rfl⟩
theorem ProW.out (d : ProW K C m qual st) : ∃ p f fd, PropOf K C m p f ∧ C8.Fun K m qual st f fd ∧ fd.defaults = .none := by
  obtain ⟨p, f, oc, od, kV, doc, pm, an, cdv, ct, osl, a, l, c⟩ := d.ex
  exact ⟨p, f, _, a, ⟨oc, od, .none, kV, doc, pm, an, cdv, ct, osl, rfl, l, c⟩, rfl⟩
end
theorem mro_first {K : PySem.W.Frag} {C : Addr} (h : PySem.W.selfFirst K C = true) : mroFirst K C = true := by
  unfold PySem.W.selfFirst at h
  unfold mroFirst
  cases e : PySem.W.clsIn K C with
  | none => rw [e] at h; cases h
  | some cd =>
    rw [e] at h
    show (match cd.mro with | c :: _ => c == .ref C | [] => false) = true
    have h : (cd.mro.head? == some (.ref C)) = true := h
    cases q : cd.mro with
    | nil => rw [q] at h; cases h
    | cons c r =>
      rw [q] at h
      have h1 : c = .ref C := Option.some.inj (eq_of_beq h)
      show (c == .ref C) = true
      rw [h1]
      exact beq_self_eq_true _
theorem con_mk {K : PySem.W.Frag} {x : Str} {u : Value} {v : V} (a : PySem.W.nsIn K mainGlobals x = some (some u)) (b : RelV v u) : ∃ u, PySem.W.nsIn K mainGlobals x = some (some u) ∧ RelV v u := ⟨u, a, b⟩
theorem kit_self {K : PySem.W.Frag} {C : Addr} : PySem.W.kitOne K (.ref C) (.ref C) = some true := by
  unfold PySem.W.kitOne
  rw [if_pos (beq_self_eq_true _)]
/-- all that the top has written -/
structure AllW (K : PySem.W.Frag) (C : Addr) : Prop where
  d_is_integer : DefW K "is_integer" s_is_integer
  d_is_number : DefW K "is_number" s_is_number
  d_is_name : DefW K "is_name" s_is_name
  d_is_edge : DefW K "is_edge" s_is_edge
  d_need_parts : DefW K "need_parts" s_need_parts
  d_reached_from : DefW K "reached_from" s_reached_from
  m_init : MetW K C "__init__" "Program.__init__" s_P_init
  d_places : ProW K C "places" "Program.places" s_P_places
  m_begins : MetW K C "begins" "Program.begins" s_P_begins
  m_edges : MetW K C "edges" "Program.edges" s_P_edges
  m_mneed : MetW K C "need_place" "Program.need_place" s_P_need_place
  m_into : MetW K C "into" "Program.into" s_P_into
  m_reached : MetW K C "reached" "Program.reached" s_P_reached
  m_moved : MetW K C "moved" "Program.moved" s_P_moved
  m_add : MetW K C "__add__" "Program.__add__" s_P_add
  m_eq : MetW K C "__eq__" "Program.__eq__" s_P_eq
  d_need_place : DefW K "need_place" s_need_place
  d_ways_in : DefW K "ways_in" s_ways_in
  d_fellows : DefW K "fellows" s_fellows
  d_first_why : DefW K "first_why" s_first_why
  d_ranks_of : DefW K "ranks_of" s_ranks_of
  d_follow_of : DefW K "follow_of" s_follow_of
  d_need_all : DefW K "need_all" s_need_all
  d_least_alike : DefW K "least_alike" s_least_alike
  d_are_like_places : DefW K "are_like_places" s_are_like_places
  d_greatest_edges : DefW K "greatest_edges" s_greatest_edges
  d_leading_to : DefW K "leading_to" s_leading_to
  d_small_program : DefW K "small_program" s_small_program
  d__law_bag : DefW K "_law_bag" s__law_bag
  d__law_take : DefW K "_law_take" s__law_take
  d__law_mixed : DefW K "_law_mixed" s__law_mixed
  d__law_some : DefW K "_law_some" s__law_some
  d__law_names : DefW K "_law_names" s__law_names
  d__law_program : DefW K "_law_program" s__law_program
  d__law_made : DefW K "_law_made" s__law_made
  d__law_reached : DefW K "_law_reached" s__law_reached
  d__law_ways : DefW K "_law_ways" s__law_ways
  d__law_fellows : DefW K "_law_fellows" s__law_fellows
  d__law_falls : DefW K "_law_falls" s__law_falls
  d__law_ranks : DefW K "_law_ranks" s__law_ranks
  d__law_parts_of : DefW K "_law_parts_of" s__law_parts_of
  d__law_has_alike : DefW K "_law_has_alike" s__law_has_alike
  d__law_less : DefW K "_law_less" s__law_less
  d__law_same_size : DefW K "_law_same_size" s__law_same_size
  d_law : DefW K "law" s_law
  pg : PySem.W.plainGet K C Str.empty = true
  hd : PySem.W.hasDictIn K C = true
  po : PySem.W.plainOver K C = true
  sa : PySem.W.findIn K (.ref C) "__setattr__" = some (some (.builtin "object.__setattr__"))
  mks : PySem.W.makesIn K C = true
  kc : PySem.W.keepIn K (.ref C) = true
  sf : PySem.W.selfFirst K C = true
  nP : PySem.W.findIn K (.ref C) "its_places" = some none
  nB : PySem.W.findIn K (.ref C) "its_begins" = some none
  nE : PySem.W.findIn K (.ref C) "its_edges" = some none
  ca : PySem.W.findIn K (.ref C) "__class__" = some (some (.builtin "object.__class__"))
  cn : PySem.W.specialIn K (.builtin "object.__class__") "__get__" = some (some (.builtin "getset_descriptor.__get__"))
  ct : PySem.W.takesIn K (.builtin "object.__class__") = some true
  cm : PySem.W.mroIn K C (.type "object") = some true
  g1 : ∃ u, PySem.W.nsIn K mainGlobals "MOST_PLACES" = some (some u) ∧ RelV (.int 2000) u
  g2 : ∃ u, PySem.W.nsIn K mainGlobals "MOST_LETTERS" = some (some u) ∧ RelV (.int 8) u
  g3 : ∃ u, PySem.W.nsIn K mainGlobals "LETTERS" = some (some u) ∧ RelV (.str "abcdefghijklmnopqrstuvwxyz") u
  z_isinstance : PySem.W.nsIn K mainGlobals "isinstance" = some none
  z_int : PySem.W.nsIn K mainGlobals "int" = some none
  z_bool : PySem.W.nsIn K mainGlobals "bool" = some none
  z_str : PySem.W.nsIn K mainGlobals "str" = some none
  z_list : PySem.W.nsIn K mainGlobals "list" = some none
  z_tuple : PySem.W.nsIn K mainGlobals "tuple" = some none
  z_len : PySem.W.nsIn K mainGlobals "len" = some none
  z_all : PySem.W.nsIn K mainGlobals "all" = some none
  z_any : PySem.W.nsIn K mainGlobals "any" = some none
  z_min : PySem.W.nsIn K mainGlobals "min" = some none
  z_max : PySem.W.nsIn K mainGlobals "max" = some none
  z_sorted : PySem.W.nsIn K mainGlobals "sorted" = some none
  z_set : PySem.W.nsIn K mainGlobals "set" = some none
  z_dict : PySem.W.nsIn K mainGlobals "dict" = some none
  z_range : PySem.W.nsIn K mainGlobals "range" = some none
  z_zip : PySem.W.nsIn K mainGlobals "zip" = some none
  z_enumerate : PySem.W.nsIn K mainGlobals "enumerate" = some none
  z_abs : PySem.W.nsIn K mainGlobals "abs" = some none
theorem all_mk {P : Program} {w : World} {K : PySem.W.Frag} {h : Heap} {mg : Str → Option Value} {fa C : Addr} (X : K.In h) (G : h.Ns mainGlobals mg) (hfa : mg "law" = some (.ref fa)) (aC : PySem.W.nsIn K mainGlobals "Program" = some (some (.ref C))) (A : AllW K C) :
    ∃ fd : FuncData, (∀ (s : Shared) (v : Value), BindsTo s fd ⟨[v], []⟩ [("_law_script", v)]) ∧ ∀ base : Heap, K.In base → base.Ns mainGlobals mg → FnOk P w K mg base C8.CX0 8 fa fd ["_law_script"] (sp_law K) := by
  have mC := PySem.W.mg_of X G aC
  have cl : Cls K C := ⟨A.pg, A.hd, A.po, A.sa⟩
  have T : Txt K mg C := ⟨PySem.W.mg_none_of X G A.z_isinstance, PySem.W.mg_none_of X G A.z_int, PySem.W.mg_none_of X G A.z_bool, PySem.W.mg_none_of X G A.z_str, PySem.W.mg_none_of X G A.z_list, PySem.W.mg_none_of X G A.z_tuple, PySem.W.mg_none_of X G A.z_len, PySem.W.mg_none_of X G A.z_all, PySem.W.mg_none_of X G A.z_any, PySem.W.mg_none_of X G A.z_min, PySem.W.mg_none_of X G A.z_max, PySem.W.mg_none_of X G A.z_sorted, PySem.W.mg_none_of X G A.z_set, PySem.W.mg_none_of X G A.z_dict, PySem.W.mg_none_of X G A.z_range, PySem.W.mg_none_of X G A.z_zip, PySem.W.mg_none_of X G A.z_enumerate, PySem.W.mg_none_of X G A.z_abs, A.g1.imp fun u z => ⟨PySem.W.mg_of X G z.1, z.2⟩, A.g2.imp fun u z => ⟨PySem.W.mg_of X G z.1, z.2⟩, A.g3.imp fun u z => ⟨PySem.W.mg_of X G z.1, z.2⟩, ⟨_, mC, rfl⟩, cl, A.nP, A.nB, A.nE, ⟨cl, A.ca, A.cn, A.ct, A.cm, kit_self⟩⟩
  obtain ⟨f_is_integer, fd_is_integer, F_is_integer, df_is_integer⟩ := A.d_is_integer.out X G
  have b_is_integer : L2.Binds K fd_is_integer P_is_integer [] := F_is_integer.fn.binds df_is_integer (ps := P_is_integer) (fun _ _ _ _ _ _ us hl => match us, hl with | [_], _ => rfl)
  obtain ⟨f_is_number, fd_is_number, F_is_number, df_is_number⟩ := A.d_is_number.out X G
  have b_is_number : L2.Binds K fd_is_number P_is_number [] := F_is_number.fn.binds df_is_number (ps := P_is_number) (fun _ _ _ _ _ _ us hl => match us, hl with | [_, _], _ => rfl)
  obtain ⟨f_is_name, fd_is_name, F_is_name, df_is_name⟩ := A.d_is_name.out X G
  have b_is_name : L2.Binds K fd_is_name P_is_name [] := F_is_name.fn.binds df_is_name (ps := P_is_name) (fun _ _ _ _ _ _ us hl => match us, hl with | [_], _ => rfl)
  obtain ⟨f_is_edge, fd_is_edge, F_is_edge, df_is_edge⟩ := A.d_is_edge.out X G
  have b_is_edge : L2.Binds K fd_is_edge P_is_edge [] := F_is_edge.fn.binds df_is_edge (ps := P_is_edge) (fun _ _ _ _ _ _ us hl => match us, hl with | [_, _], _ => rfl)
  obtain ⟨f_need_parts, fd_need_parts, F_need_parts, df_need_parts⟩ := A.d_need_parts.out X G
  have b_need_parts : L2.Binds K fd_need_parts P_need_parts [] := F_need_parts.fn.binds df_need_parts (ps := P_need_parts) (fun _ _ _ _ _ _ us hl => match us, hl with | [_, _, _], _ => rfl)
  obtain ⟨f_reached_from, fd_reached_from, F_reached_from, df_reached_from⟩ := A.d_reached_from.out X G
  have b_reached_from : L2.Binds K fd_reached_from P_reached_from [] := F_reached_from.fn.binds df_reached_from (ps := P_reached_from) (fun _ _ _ _ _ _ us hl => match us, hl with | [_, _], _ => rfl)
  obtain ⟨f_Minit, fd_Minit, me_Minit, F_Minit, df_Minit⟩ := A.m_init.out
  have b_Minit : L2.Binds K fd_Minit P_P_init [] := F_Minit.binds df_Minit (ps := P_P_init) (fun _ _ _ _ _ _ us hl => match us, hl with | [_, _, _, _], _ => rfl)
  obtain ⟨p_places, f_places, fd_places, hp_places, F_places, df_places⟩ := A.d_places.out
  have b_places : L2.Binds K fd_places P_P_places [] := F_places.binds df_places (ps := P_P_places) (fun _ _ _ _ _ _ us hl => match us, hl with | [_], _ => rfl)
  obtain ⟨f_Mbegins, fd_Mbegins, me_Mbegins, F_Mbegins, df_Mbegins⟩ := A.m_begins.out
  have b_Mbegins : L2.Binds K fd_Mbegins P_P_begins [] := F_Mbegins.binds df_Mbegins (ps := P_P_begins) (fun _ _ _ _ _ _ us hl => match us, hl with | [_], _ => rfl)
  obtain ⟨f_Medges, fd_Medges, me_Medges, F_Medges, df_Medges⟩ := A.m_edges.out
  have b_Medges : L2.Binds K fd_Medges P_P_edges [] := F_Medges.binds df_Medges (ps := P_P_edges) (fun _ _ _ _ _ _ us hl => match us, hl with | [_], _ => rfl)
  obtain ⟨f_Mmneed, fd_Mmneed, me_Mmneed, F_Mmneed, df_Mmneed⟩ := A.m_mneed.out
  have b_Mmneed : L2.Binds K fd_Mmneed P_P_need_place [] := F_Mmneed.binds df_Mmneed (ps := P_P_need_place) (fun _ _ _ _ _ _ us hl => match us, hl with | [_, _], _ => rfl)
  obtain ⟨f_Minto, fd_Minto, me_Minto, F_Minto, df_Minto⟩ := A.m_into.out
  have b_Minto : L2.Binds K fd_Minto P_P_into [] := F_Minto.binds df_Minto (ps := P_P_into) (fun _ _ _ _ _ _ us hl => match us, hl with | [_, _], _ => rfl)
  obtain ⟨f_Mreached, fd_Mreached, me_Mreached, F_Mreached, df_Mreached⟩ := A.m_reached.out
  have b_Mreached : L2.Binds K fd_Mreached P_P_reached [] := F_Mreached.binds df_Mreached (ps := P_P_reached) (fun _ _ _ _ _ _ us hl => match us, hl with | [_], _ => rfl)
  obtain ⟨f_Mmoved, fd_Mmoved, me_Mmoved, F_Mmoved, df_Mmoved⟩ := A.m_moved.out
  have b_Mmoved : L2.Binds K fd_Mmoved P_P_moved [] := F_Mmoved.binds df_Mmoved (ps := P_P_moved) (fun _ _ _ _ _ _ us hl => match us, hl with | [_, _], _ => rfl)
  obtain ⟨f_Madd, fd_Madd, me_Madd, F_Madd, df_Madd⟩ := A.m_add.out
  have b_Madd : L2.Binds K fd_Madd P_P_add [] := F_Madd.binds df_Madd (ps := P_P_add) (fun _ _ _ _ _ _ us hl => match us, hl with | [_, _], _ => rfl)
  obtain ⟨f_Meq, fd_Meq, me_Meq, F_Meq, df_Meq⟩ := A.m_eq.out
  have b_Meq : L2.Binds K fd_Meq P_P_eq [] := F_Meq.binds df_Meq (ps := P_P_eq) (fun _ _ _ _ _ _ us hl => match us, hl with | [_, _], _ => rfl)
  obtain ⟨f_need_place, fd_need_place, F_need_place, df_need_place⟩ := A.d_need_place.out X G
  have b_need_place : L2.Binds K fd_need_place P_need_place [] := F_need_place.fn.binds df_need_place (ps := P_need_place) (fun _ _ _ _ _ _ us hl => match us, hl with | [_, _], _ => rfl)
  obtain ⟨f_ways_in, fd_ways_in, F_ways_in, df_ways_in⟩ := A.d_ways_in.out X G
  have b_ways_in : L2.Binds K fd_ways_in P_ways_in [] := F_ways_in.fn.binds df_ways_in (ps := P_ways_in) (fun _ _ _ _ _ _ us hl => match us, hl with | [_], _ => rfl)
  obtain ⟨f_fellows, fd_fellows, F_fellows, df_fellows⟩ := A.d_fellows.out X G
  have b_fellows : L2.Binds K fd_fellows P_fellows [] := F_fellows.fn.binds df_fellows (ps := P_fellows) (fun _ _ _ _ _ _ us hl => match us, hl with | [_, _, _], _ => rfl)
  obtain ⟨f_first_why, fd_first_why, F_first_why, df_first_why⟩ := A.d_first_why.out X G
  have b_first_why : L2.Binds K fd_first_why P_first_why [] := F_first_why.fn.binds df_first_why (ps := P_first_why) (fun _ _ _ _ _ _ us hl => match us, hl with | [_, _, _, _], _ => rfl)
  obtain ⟨f_ranks_of, fd_ranks_of, F_ranks_of, df_ranks_of⟩ := A.d_ranks_of.out X G
  have b_ranks_of : L2.Binds K fd_ranks_of P_ranks_of [] := F_ranks_of.fn.binds df_ranks_of (ps := P_ranks_of) (fun _ _ _ _ _ _ us hl => match us, hl with | [_, _], _ => rfl)
  obtain ⟨f_follow_of, fd_follow_of, F_follow_of, df_follow_of⟩ := A.d_follow_of.out X G
  have b_follow_of : L2.Binds K fd_follow_of P_follow_of [] := F_follow_of.fn.binds df_follow_of (ps := P_follow_of) (fun _ _ _ _ _ _ us hl => match us, hl with | [_, _], _ => rfl)
  obtain ⟨f_need_all, fd_need_all, F_need_all, df_need_all⟩ := A.d_need_all.out X G
  have b_need_all : L2.Binds K fd_need_all P_need_all [] := F_need_all.fn.binds df_need_all (ps := P_need_all) (fun _ _ _ _ _ _ us hl => match us, hl with | [_, _, _, _], _ => rfl)
  obtain ⟨f_least_alike, fd_least_alike, F_least_alike, df_least_alike⟩ := A.d_least_alike.out X G
  have b_least_alike : L2.Binds K fd_least_alike P_least_alike [] := F_least_alike.fn.binds df_least_alike (ps := P_least_alike) (fun _ _ _ _ _ _ us hl => match us, hl with | [_, _], _ => rfl)
  obtain ⟨f_are_like_places, fd_are_like_places, F_are_like_places, df_are_like_places⟩ := A.d_are_like_places.out X G
  have b_are_like_places : L2.Binds K fd_are_like_places P_are_like_places [] := F_are_like_places.fn.binds df_are_like_places (ps := P_are_like_places) (fun _ _ _ _ _ _ us hl => match us, hl with | [_, _, _, _], _ => rfl)
  obtain ⟨f_greatest_edges, fd_greatest_edges, F_greatest_edges, df_greatest_edges⟩ := A.d_greatest_edges.out X G
  have b_greatest_edges : L2.Binds K fd_greatest_edges P_greatest_edges [] := F_greatest_edges.fn.binds df_greatest_edges (ps := P_greatest_edges) (fun _ _ _ _ _ _ us hl => match us, hl with | [_, _, _], _ => rfl)
  obtain ⟨f_leading_to, fd_leading_to, F_leading_to, df_leading_to⟩ := A.d_leading_to.out X G
  have b_leading_to : L2.Binds K fd_leading_to P_leading_to [] := F_leading_to.fn.binds df_leading_to (ps := P_leading_to) (fun _ _ _ _ _ _ us hl => match us, hl with | [_, _], _ => rfl)
  obtain ⟨f_small_program, fd_small_program, F_small_program, df_small_program⟩ := A.d_small_program.out X G
  have b_small_program : L2.Binds K fd_small_program P_small_program [] := F_small_program.fn.binds df_small_program (ps := P_small_program) (fun _ _ _ _ _ _ us hl => match us, hl with | [_, _], _ => rfl)
  obtain ⟨f__law_bag, fd__law_bag, F__law_bag, df__law_bag⟩ := A.d__law_bag.out X G
  have b__law_bag : L2.Binds K fd__law_bag P__law_bag [] := F__law_bag.fn.binds df__law_bag (ps := P__law_bag) (fun _ _ _ _ _ _ us hl => match us, hl with | [_], _ => rfl)
  obtain ⟨f__law_take, fd__law_take, F__law_take, df__law_take⟩ := A.d__law_take.out X G
  have b__law_take : L2.Binds K fd__law_take P__law_take [] := F__law_take.fn.binds df__law_take (ps := P__law_take) (fun _ _ _ _ _ _ us hl => match us, hl with | [_, _], _ => rfl)
  obtain ⟨f__law_mixed, fd__law_mixed, F__law_mixed, df__law_mixed⟩ := A.d__law_mixed.out X G
  have b__law_mixed : L2.Binds K fd__law_mixed P__law_mixed [] := F__law_mixed.fn.binds df__law_mixed (ps := P__law_mixed) (fun _ _ _ _ _ _ us hl => match us, hl with | [_, _], _ => rfl)
  obtain ⟨f__law_some, fd__law_some, F__law_some, df__law_some⟩ := A.d__law_some.out X G
  have b__law_some : L2.Binds K fd__law_some P__law_some [] := F__law_some.fn.binds df__law_some (ps := P__law_some) (fun _ _ _ _ _ _ us hl => match us, hl with | [_, _, _], _ => rfl)
  obtain ⟨f__law_names, fd__law_names, F__law_names, df__law_names⟩ := A.d__law_names.out X G
  have b__law_names : L2.Binds K fd__law_names P__law_names [] := F__law_names.fn.binds df__law_names (ps := P__law_names) (fun _ _ _ _ _ _ us hl => match us, hl with | [_, _], _ => rfl)
  obtain ⟨f__law_program, fd__law_program, F__law_program, df__law_program⟩ := A.d__law_program.out X G
  have b__law_program : L2.Binds K fd__law_program P__law_program [] := F__law_program.fn.binds df__law_program (ps := P__law_program) (fun _ _ _ _ _ _ us hl => match us, hl with | [_, _, _, _], _ => rfl)
  obtain ⟨f__law_made, fd__law_made, F__law_made, df__law_made⟩ := A.d__law_made.out X G
  have b__law_made : L2.Binds K fd__law_made P__law_made [] := F__law_made.fn.binds df__law_made (ps := P__law_made) (fun _ _ _ _ _ _ us hl => match us, hl with | [_, _], _ => rfl)
  obtain ⟨f__law_reached, fd__law_reached, F__law_reached, df__law_reached⟩ := A.d__law_reached.out X G
  have b__law_reached : L2.Binds K fd__law_reached P__law_reached [] := F__law_reached.fn.binds df__law_reached (ps := P__law_reached) (fun _ _ _ _ _ _ us hl => match us, hl with | [_], _ => rfl)
  obtain ⟨f__law_ways, fd__law_ways, F__law_ways, df__law_ways⟩ := A.d__law_ways.out X G
  have b__law_ways : L2.Binds K fd__law_ways P__law_ways [] := F__law_ways.fn.binds df__law_ways (ps := P__law_ways) (fun _ _ _ _ _ _ us hl => match us, hl with | [_], _ => rfl)
  obtain ⟨f__law_fellows, fd__law_fellows, F__law_fellows, df__law_fellows⟩ := A.d__law_fellows.out X G
  have b__law_fellows : L2.Binds K fd__law_fellows P__law_fellows [] := F__law_fellows.fn.binds df__law_fellows (ps := P__law_fellows) (fun _ _ _ _ _ _ us hl => match us, hl with | [_, _, _], _ => rfl)
  obtain ⟨f__law_falls, fd__law_falls, F__law_falls, df__law_falls⟩ := A.d__law_falls.out X G
  have b__law_falls : L2.Binds K fd__law_falls P__law_falls [] := F__law_falls.fn.binds df__law_falls (ps := P__law_falls) (fun _ _ _ _ _ _ us hl => match us, hl with | [_, _, _, _, _, _], _ => rfl)
  obtain ⟨f__law_ranks, fd__law_ranks, F__law_ranks, df__law_ranks⟩ := A.d__law_ranks.out X G
  have b__law_ranks : L2.Binds K fd__law_ranks P__law_ranks [] := F__law_ranks.fn.binds df__law_ranks (ps := P__law_ranks) (fun _ _ _ _ _ _ us hl => match us, hl with | [_, _], _ => rfl)
  obtain ⟨f__law_parts_of, fd__law_parts_of, F__law_parts_of, df__law_parts_of⟩ := A.d__law_parts_of.out X G
  have b__law_parts_of : L2.Binds K fd__law_parts_of P__law_parts_of [] := F__law_parts_of.fn.binds df__law_parts_of (ps := P__law_parts_of) (fun _ _ _ _ _ _ us hl => match us, hl with | [_], _ => rfl)
  obtain ⟨f__law_has_alike, fd__law_has_alike, F__law_has_alike, df__law_has_alike⟩ := A.d__law_has_alike.out X G
  have b__law_has_alike : L2.Binds K fd__law_has_alike P__law_has_alike [] := F__law_has_alike.fn.binds df__law_has_alike (ps := P__law_has_alike) (fun _ _ _ _ _ _ us hl => match us, hl with | [_, _, _], _ => rfl)
  obtain ⟨f__law_less, fd__law_less, F__law_less, df__law_less⟩ := A.d__law_less.out X G
  have b__law_less : L2.Binds K fd__law_less P__law_less [] := F__law_less.fn.binds df__law_less (ps := P__law_less) (fun _ _ _ _ _ _ us hl => match us, hl with | [_, _, _], _ => rfl)
  obtain ⟨f__law_same_size, fd__law_same_size, F__law_same_size, df__law_same_size⟩ := A.d__law_same_size.out X G
  have b__law_same_size : L2.Binds K fd__law_same_size P__law_same_size [] := F__law_same_size.fn.binds df__law_same_size (ps := P__law_same_size) (fun _ _ _ _ _ _ us hl => match us, hl with | [_, _], _ => rfl)
  obtain ⟨f_law, fd_law, F_law, df_law⟩ := A.d_law.out X G
  have ef : fa = f_law := by
    have := hfa.symm.trans F_law.mgf
    injection this with this
    injection this
  subst ef
  refine ⟨fd_law, fun s v => ?_, fun base KB GB => ?_⟩
  · obtain ⟨oc, od, dV, kV, doc, pm, an, cdv, ct, osl, rfl, _, _⟩ := F_law.fn.ex
    have e : dV = .none := df_law
    subst e
    exact .of_eq rfl
  have c_is_integer := ok_is_integer (P := P) (w := w) (base := base) (C := C) F_is_integer b_is_integer T 
  have c_is_number := ok_is_number (P := P) (w := w) (base := base) (C := C) F_is_number b_is_number T c_is_integer
  have c_is_name := ok_is_name (P := P) (w := w) (base := base) (C := C) F_is_name b_is_name T 
  have c_is_edge := ok_is_edge (P := P) (w := w) (base := base) (C := C) F_is_edge b_is_edge T c_is_number c_is_name
  have c_need_parts := ok_need_parts (P := P) (w := w) (base := base) (C := C) F_need_parts b_need_parts T c_is_integer c_is_number c_is_edge
  have c_reached_from := ok_reached_from (P := P) (w := w) (base := base) (C := C) F_reached_from b_reached_from T 
  have c_Program := ok_init (P := P) (w := w) (base := base) (C := C) ⟨A.mks, me_Minit.at_, me_Minit.fn, A.kc⟩ mC F_Minit b_Minit T c_need_parts
  have c_places := ok_places (P := P) (w := w) (base := base) (C := C) cl hp_places F_places b_places T
  have c_begins := ok_begins (P := P) (w := w) (base := base) (C := C) me_Mbegins F_Mbegins b_Mbegins T 
  have c_edges := ok_edges (P := P) (w := w) (base := base) (C := C) me_Medges F_Medges b_Medges T 
  have c_mneed := ok_mneed (P := P) (w := w) (base := base) (C := C) me_Mmneed F_Mmneed b_Mmneed T 
  have c_into := ok_into (P := P) (w := w) (base := base) (C := C) me_Minto F_Minto b_Minto T c_mneed
  have c_reached := ok_reached (P := P) (w := w) (base := base) (C := C) me_Mreached F_Mreached b_Mreached T c_reached_from
  have c_moved := ok_moved (P := P) (w := w) (base := base) (C := C) me_Mmoved F_Mmoved b_Mmoved T c_Program
  have c_add := ok_padd (P := P) (w := w) (base := base) (C := C) (mro_first A.sf) me_Madd.at_ me_Madd.fn F_Madd b_Madd T c_Program
  have c_eq : EqC P w K mg base 2 C := ⟨_, _, _, me_Meq.at_, me_Meq.fn, ok_peq (P := P) (w := w) (base := base) (C := C) F_Meq T, b_Meq⟩
  have c_need_place := ok_need_place (P := P) (w := w) (base := base) (C := C) F_need_place b_need_place T c_places c_is_number
  have c_ways_in := ok_ways_in (P := P) (w := w) (base := base) (C := C) F_ways_in b_ways_in T c_reached c_into
  have c_fellows := ok_fellows (P := P) (w := w) (base := base) (C := C) F_fellows b_fellows T 
  have c_first_why := ok_first_why (P := P) (w := w) (base := base) (C := C) F_first_why b_first_why T c_fellows
  have c_ranks_of := ok_ranks_of (P := P) (w := w) (base := base) (C := C) F_ranks_of b_ranks_of T c_ways_in c_begins c_first_why
  have c_follow_of := ok_follow_of (P := P) (w := w) (base := base) (C := C) F_follow_of b_follow_of T c_ranks_of c_reached
  have c_need_all := ok_need_all (P := P) (w := w) (base := base) (C := C) F_need_all b_need_all T c_need_place c_reached
  have c_least_alike := ok_least_alike (P := P) (w := w) (base := base) (C := C) F_least_alike b_least_alike T c_reached
  have c_are_like_places := ok_are_like_places (P := P) (w := w) (base := base) (C := C) F_are_like_places b_are_like_places T c_need_all c_follow_of
  have c_greatest_edges := ok_greatest_edges (P := P) (w := w) (base := base) (C := C) F_greatest_edges b_greatest_edges T c_ways_in
  have c_leading_to := ok_leading_to (P := P) (w := w) (base := base) (C := C) F_leading_to b_leading_to T 
  have c_small_program := ok_small_program (P := P) (w := w) (base := base) (C := C) F_small_program b_small_program T c_need_all c_follow_of c_least_alike c_greatest_edges c_leading_to c_begins c_Program
  have c__law_bag := ok_law_bag (P := P) (w := w) (base := base) (C := C) F__law_bag b__law_bag T 
  have c__law_take := ok_law_take (P := P) (w := w) (base := base) (C := C) F__law_take b__law_take T 
  have c_mixI := ok_law_mixed (P := P) (w := w) (base := base) (C := C) (R := zI) F__law_mixed b__law_mixed T c__law_take
  have c_mixE := ok_law_mixed (P := P) (w := w) (base := base) (C := C) (R := zE) F__law_mixed b__law_mixed T c__law_take
  have c_mixN := ok_law_mixed (P := P) (w := w) (base := base) (C := C) (R := zN) F__law_mixed b__law_mixed T c__law_take
  have c_someI := ok_law_some (P := P) (w := w) (base := base) (C := C) (R := zI) F__law_some b__law_some T c__law_take
  have c_someE := ok_law_some (P := P) (w := w) (base := base) (C := C) (R := zE) F__law_some b__law_some T c__law_take
  have c__law_names := ok_law_names (P := P) (w := w) (base := base) (C := C) F__law_names b__law_names T c__law_take c_mixN
  have c__law_program := ok_law_program (P := P) (w := w) (base := base) (C := C) F__law_program b__law_program T c__law_take c_someI
  have c__law_made := ok_law_made (P := P) (w := w) (base := base) (C := C) F__law_made b__law_made T c__law_take c_mixI c_mixE c_Program
  have c__law_reached := ok_law_reached (P := P) (w := w) (base := base) (C := C) F__law_reached b__law_reached T 
  have c__law_ways := ok_law_ways (P := P) (w := w) (base := base) (C := C) F__law_ways b__law_ways T c__law_reached
  have c__law_fellows := ok_law_fellows (P := P) (w := w) (base := base) (C := C) F__law_fellows b__law_fellows T 
  have c__law_falls := ok_law_falls (P := P) (w := w) (base := base) (C := C) F__law_falls b__law_falls T c__law_fellows
  have c__law_ranks := ok_law_ranks (P := P) (w := w) (base := base) (C := C) F__law_ranks b__law_ranks T c__law_ways c__law_falls
  have c__law_parts_of := ok_law_parts_of (P := P) (w := w) (base := base) (C := C) F__law_parts_of b__law_parts_of T c_places c_begins c_edges
  have c__law_has_alike := ok_law_has_alike (P := P) (w := w) (base := base) (C := C) F__law_has_alike b__law_has_alike T c__law_ranks
  have c__law_less := ok_law_less (P := P) (w := w) (base := base) (C := C) F__law_less b__law_less T c__law_take c__law_program
  have c__law_same_size := ok_law_same_size (P := P) (w := w) (base := base) (C := C) F__law_same_size b__law_same_size T c_places c_begins c_edges
  exact ok_law (P := P) (w := w) (base := base) (C := C) F_law T c__law_bag c__law_take c_mixI c_someE c__law_names c__law_program c__law_made c__law_reached c__law_parts_of c__law_has_alike c__law_less c__law_same_size c_small_program c_are_like_places c_moved c_add c_eq
theorem all_c {K : PySem.W.Frag} {C : Addr} (aC : PySem.W.nsIn K mainGlobals "Program" = some (some (.ref C))) (A : AllW K C) : ∃ C : Addr, PySem.W.nsIn K mainGlobals "Program" = some (some (.ref C)) ∧ AllW K C := ⟨C, aC, A⟩
theorem walk {l : PySem.W.OpenLaw} {q : Program} {loose : List Str} {XP : (Str → Option Value) → Heap → Prop} {YP : World → Heap → Prop} {d : DefRec} {K : Params → PySem.W.Frag} (hn : l.most = some 63) (hdf : d.params.defaults = []) (hname : d.name = "law")
    (hY : ∀ (w : World) (h : Heap), YP w h → (K w.params).In h)
    (F : ∀ (w : World), ∃ C : Addr, PySem.W.nsIn (K w.params) mainGlobals "Program" = some (some (.ref C)) ∧ AllW (K w.params) C) :
    PySem.W.WalkO q loose XP YP l.row.toRowW d [] (fun f vs => PySem.call f vs) :=
  L2.walk_of (n := 63) (k := 8) (x := "_law_script") (CX := fun _ => C8.CX0) (sp := fun w => sp_law (K w.params)) hn (by decide) hdf ⟨rfl, by decide, by decide⟩ hY (fun w mg fa h X G hmg => by
    obtain ⟨C, aC, A⟩ := F w
    rw [hname] at hmg
    exact all_mk X G hmg aC A) (fun _ _ a ns hl _ hS => ⟨ns, ⟨_, _, rfl, ⟨a, rfl, hS⟩, rfl⟩, fun _ => rfl⟩) fun _ _ _ _ _ z => z
end FF
open PySem PySem.W PyProof.Rows
set_option maxRecDepth 100000 in
set_option maxHeartbeats 0 in
theorem PySem.Challenge.cw_factflows_k09_whole_no_lesser_program_holds : PySem.Challenge.rw_factflows_k09_whole_no_lesser_program.Holds :=
  FF.hd (by
    k_fill
    refine FF.walk (l := PySem.Challenge.rw_factflows_k09_whole_no_lesser_program) rfl rfl rfl (fun w h Y => PySem.W.kIn_of Y) ?F
    case F =>
      intro w
      refine' FF.all_c ?aC ?A
      (case aC => k_is)
      (case A =>
        refine' ⟨?d_is_integer, ?d_is_number, ?d_is_name, ?d_is_edge, ?d_need_parts, ?d_reached_from, ?m_init, ?d_places, ?m_begins, ?m_edges, ?m_mneed, ?m_into, ?m_reached, ?m_moved, ?m_add, ?m_eq, ?d_need_place, ?d_ways_in, ?d_fellows, ?d_first_why, ?d_ranks_of, ?d_follow_of, ?d_need_all, ?d_least_alike, ?d_are_like_places, ?d_greatest_edges, ?d_leading_to, ?d_small_program, ?d__law_bag, ?d__law_take, ?d__law_mixed, ?d__law_some, ?d__law_names, ?d__law_program, ?d__law_made, ?d__law_reached, ?d__law_ways, ?d__law_fellows, ?d__law_falls, ?d__law_ranks, ?d__law_parts_of, ?d__law_has_alike, ?d__law_less, ?d__law_same_size, ?d_law, ?pg, ?hd, ?po, ?sa, ?mks, ?kc, ?sf, ?nP, ?nB, ?nE, ?ca, ?cn, ?ct, ?cm, ?g1, ?g2, ?g3, ?z_isinstance, ?z_int, ?z_bool, ?z_str, ?z_list, ?z_tuple, ?z_len, ?z_all, ?z_any, ?z_min, ?z_max, ?z_sorted, ?z_set, ?z_dict, ?z_range, ?z_zip, ?z_enumerate, ?z_abs⟩
        (case d_is_integer => (refine' FF.defW_mk ?a ?l ?c ?k; (case a => k_is); (case l => k_is); (case c => k_is); (case k => k_is)))
        (case d_is_number => (refine' FF.defW_mk ?a ?l ?c ?k; (case a => k_is); (case l => k_is); (case c => k_is); (case k => k_is)))
        (case d_is_name => (refine' FF.defW_mk ?a ?l ?c ?k; (case a => k_is); (case l => k_is); (case c => k_is); (case k => k_is)))
        (case d_is_edge => (refine' FF.defW_mk ?a ?l ?c ?k; (case a => k_is); (case l => k_is); (case c => k_is); (case k => k_is)))
        (case d_need_parts => (refine' FF.defW_mk ?a ?l ?c ?k; (case a => k_is); (case l => k_is); (case c => k_is); (case k => k_is)))
        (case d_reached_from => (refine' FF.defW_mk ?a ?l ?c ?k; (case a => k_is); (case l => k_is); (case c => k_is); (case k => k_is)))
        (case m_init => (refine' FF.metW_mk ?a ?l ?c ?i ?k; (case a => k_is); (case l => k_is); (case c => k_is); (case i => k_is); (case k => k_is)))
        (case d_places => (refine' FF.proW_mk ?a ?g ?t ?r ?l ?c; (case a => k_is); (case g => k_is); (case t => k_is); (case r => k_is); (case l => k_is); (case c => k_is)))
        (case m_begins => (refine' FF.metW_mk ?a ?l ?c ?i ?k; (case a => k_is); (case l => k_is); (case c => k_is); (case i => k_is); (case k => k_is)))
        (case m_edges => (refine' FF.metW_mk ?a ?l ?c ?i ?k; (case a => k_is); (case l => k_is); (case c => k_is); (case i => k_is); (case k => k_is)))
        (case m_mneed => (refine' FF.metW_mk ?a ?l ?c ?i ?k; (case a => k_is); (case l => k_is); (case c => k_is); (case i => k_is); (case k => k_is)))
        (case m_into => (refine' FF.metW_mk ?a ?l ?c ?i ?k; (case a => k_is); (case l => k_is); (case c => k_is); (case i => k_is); (case k => k_is)))
        (case m_reached => (refine' FF.metW_mk ?a ?l ?c ?i ?k; (case a => k_is); (case l => k_is); (case c => k_is); (case i => k_is); (case k => k_is)))
        (case m_moved => (refine' FF.metW_mk ?a ?l ?c ?i ?k; (case a => k_is); (case l => k_is); (case c => k_is); (case i => k_is); (case k => k_is)))
        (case m_add => (refine' FF.metW_mk ?a ?l ?c ?i ?k; (case a => k_is); (case l => k_is); (case c => k_is); (case i => k_is); (case k => k_is)))
        (case m_eq => (refine' FF.metW_mk ?a ?l ?c ?i ?k; (case a => k_is); (case l => k_is); (case c => k_is); (case i => k_is); (case k => k_is)))
        (case d_need_place => (refine' FF.defW_mk ?a ?l ?c ?k; (case a => k_is); (case l => k_is); (case c => k_is); (case k => k_is)))
        (case d_ways_in => (refine' FF.defW_mk ?a ?l ?c ?k; (case a => k_is); (case l => k_is); (case c => k_is); (case k => k_is)))
        (case d_fellows => (refine' FF.defW_mk ?a ?l ?c ?k; (case a => k_is); (case l => k_is); (case c => k_is); (case k => k_is)))
        (case d_first_why => (refine' FF.defW_mk ?a ?l ?c ?k; (case a => k_is); (case l => k_is); (case c => k_is); (case k => k_is)))
        (case d_ranks_of => (refine' FF.defW_mk ?a ?l ?c ?k; (case a => k_is); (case l => k_is); (case c => k_is); (case k => k_is)))
        (case d_follow_of => (refine' FF.defW_mk ?a ?l ?c ?k; (case a => k_is); (case l => k_is); (case c => k_is); (case k => k_is)))
        (case d_need_all => (refine' FF.defW_mk ?a ?l ?c ?k; (case a => k_is); (case l => k_is); (case c => k_is); (case k => k_is)))
        (case d_least_alike => (refine' FF.defW_mk ?a ?l ?c ?k; (case a => k_is); (case l => k_is); (case c => k_is); (case k => k_is)))
        (case d_are_like_places => (refine' FF.defW_mk ?a ?l ?c ?k; (case a => k_is); (case l => k_is); (case c => k_is); (case k => k_is)))
        (case d_greatest_edges => (refine' FF.defW_mk ?a ?l ?c ?k; (case a => k_is); (case l => k_is); (case c => k_is); (case k => k_is)))
        (case d_leading_to => (refine' FF.defW_mk ?a ?l ?c ?k; (case a => k_is); (case l => k_is); (case c => k_is); (case k => k_is)))
        (case d_small_program => (refine' FF.defW_mk ?a ?l ?c ?k; (case a => k_is); (case l => k_is); (case c => k_is); (case k => k_is)))
        (case d__law_bag => (refine' FF.defW_mk ?a ?l ?c ?k; (case a => k_is); (case l => k_is); (case c => k_is); (case k => k_is)))
        (case d__law_take => (refine' FF.defW_mk ?a ?l ?c ?k; (case a => k_is); (case l => k_is); (case c => k_is); (case k => k_is)))
        (case d__law_mixed => (refine' FF.defW_mk ?a ?l ?c ?k; (case a => k_is); (case l => k_is); (case c => k_is); (case k => k_is)))
        (case d__law_some => (refine' FF.defW_mk ?a ?l ?c ?k; (case a => k_is); (case l => k_is); (case c => k_is); (case k => k_is)))
        (case d__law_names => (refine' FF.defW_mk ?a ?l ?c ?k; (case a => k_is); (case l => k_is); (case c => k_is); (case k => k_is)))
        (case d__law_program => (refine' FF.defW_mk ?a ?l ?c ?k; (case a => k_is); (case l => k_is); (case c => k_is); (case k => k_is)))
        (case d__law_made => (refine' FF.defW_mk ?a ?l ?c ?k; (case a => k_is); (case l => k_is); (case c => k_is); (case k => k_is)))
        (case d__law_reached => (refine' FF.defW_mk ?a ?l ?c ?k; (case a => k_is); (case l => k_is); (case c => k_is); (case k => k_is)))
        (case d__law_ways => (refine' FF.defW_mk ?a ?l ?c ?k; (case a => k_is); (case l => k_is); (case c => k_is); (case k => k_is)))
        (case d__law_fellows => (refine' FF.defW_mk ?a ?l ?c ?k; (case a => k_is); (case l => k_is); (case c => k_is); (case k => k_is)))
        (case d__law_falls => (refine' FF.defW_mk ?a ?l ?c ?k; (case a => k_is); (case l => k_is); (case c => k_is); (case k => k_is)))
        (case d__law_ranks => (refine' FF.defW_mk ?a ?l ?c ?k; (case a => k_is); (case l => k_is); (case c => k_is); (case k => k_is)))
        (case d__law_parts_of => (refine' FF.defW_mk ?a ?l ?c ?k; (case a => k_is); (case l => k_is); (case c => k_is); (case k => k_is)))
        (case d__law_has_alike => (refine' FF.defW_mk ?a ?l ?c ?k; (case a => k_is); (case l => k_is); (case c => k_is); (case k => k_is)))
        (case d__law_less => (refine' FF.defW_mk ?a ?l ?c ?k; (case a => k_is); (case l => k_is); (case c => k_is); (case k => k_is)))
        (case d__law_same_size => (refine' FF.defW_mk ?a ?l ?c ?k; (case a => k_is); (case l => k_is); (case c => k_is); (case k => k_is)))
        (case d_law => (refine' FF.defW_mk ?a ?l ?c ?k; (case a => k_is); (case l => k_is); (case c => k_is); (case k => k_is)))
        (case pg => k_is)
        (case hd => k_is)
        (case po => k_is)
        (case sa => k_is)
        (case mks => k_is)
        (case kc => k_is)
        (case sf => k_is)
        (case nP => k_is)
        (case nB => k_is)
        (case nE => k_is)
        (case ca => k_is)
        (case cn => k_is)
        (case ct => k_is)
        (case cm => k_is)
        (case g1 => (refine' FF.con_mk ?a ?b; (case a => k_is); (case b => exact ⟨_, rfl⟩)))
        (case g2 => (refine' FF.con_mk ?a ?b; (case a => k_is); (case b => exact ⟨_, rfl⟩)))
        (case g3 => (refine' FF.con_mk ?a ?b; (case a => k_is); (case b => exact ⟨_, rfl⟩)))
        (case z_isinstance => k_is)
        (case z_int => k_is)
        (case z_bool => k_is)
        (case z_str => k_is)
        (case z_list => k_is)
        (case z_tuple => k_is)
        (case z_len => k_is)
        (case z_all => k_is)
        (case z_any => k_is)
        (case z_min => k_is)
        (case z_max => k_is)
        (case z_sorted => k_is)
        (case z_set => k_is)
        (case z_dict => k_is)
        (case z_range => k_is)
        (case z_zip => k_is)
        (case z_enumerate => k_is)
        (case z_abs => k_is)))
