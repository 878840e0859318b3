import PyProof.Rows.All
import HandS.ForMost
import HandS.ForExc
import HandS.CallSlots
import HandS.Lambda
import HandS.HeadHook4
import HandS.Deep
import HandS.TupAny
import HandS.TupMul
import HandS.IsInst
import HandS.Text
import HandS.Style
import HandS.Flow
import KE.SortData
import HandS.Conv
import HandS.StrMore
import HandS.StrSplit
import HandS.FStr
import HandS.RaiseMore
import HandS.Small
import HandS.TupLen
import HandS.More
import HandS.Steps
import HandS.Iter
import HandS.Zip
import HandS.Comp
import HandS.Defaults
import HandS.WordsExc
import HandS.ExcInit
import HandS.ExcOwn
import PyProof.ReprRoads
import HandS.TryMany
import HandS.ExcField
import PyProof.StrBlock2
import KE.DataCmp
import HandS.EndTab
import HandS.HeadEnd
import HandS.EndBits
import HandS.HeadWalk
import HandS.ExcValue
import KE.KExcIs
import PySem.Challenge.RW_goersnotes_k01_errors
import HandS.Head0
import HandS.Head1
import HandS.Head2
set_option Elab.async false
set_option linter.all false
set_option maxRecDepth 100000
set_option maxHeartbeats 4000000
/-! L0: plain values PV, what a HandS value stands for (Rp), footprints, steps, frames. -/
namespace Bx
open PySem PySem.Spec PyProof.Rows L2
abbrev St := L2.St
/-- the tables of the code objects of which lambdas are made, with the lambdas' names -/
class Tbs where
  l : List (Addr × Str)
variable [Tbs]
/-- the kinds of a node -/
inductive Kd where
  | tup | frl | lst | dk (ks : List Key) | dt (ks : List (List Key)) | ins (C : Addr) (ns : List Str) | xc (x : Str) (ns : List Str)
/-- plain values; a node's flag tells whether it is owned (may be changed in place) -/
inductive PV where
  | non | bl (b : Bool) | int (i : Int) | str (x : Str) | ty (n : String) | ref (a : Addr)
  | nd (k : Kd) (o : Bool) (xs : List PV)
mutual
def PV.pure : PV → Bool
  | .nd _ o xs => !o && pures xs
  | _ => true
def pures : List PV → Bool
  | [] => true
  | x :: xs => x.pure && pures xs
end
mutual
def PV.shr : PV → PV
  | .nd k _ xs => .nd k false (shrs xs)
  | .non => .non | .bl b => .bl b | .int i => .int i | .str x => .str x | .ty n => .ty n | .ref a => .ref a
def shrs : List PV → List PV
  | [] => []
  | x :: xs => x.shr :: shrs xs
end
mutual
theorem PV.shr_pure : ∀ p : PV, p.shr.pure = true
  | .nd k o xs => by rw [PV.shr, PV.pure, shrs_pure xs]; rfl
  | .non => rfl | .bl _ => rfl | .int _ => rfl | .str _ => rfl | .ty _ => rfl | .ref _ => rfl
theorem shrs_pure : ∀ xs : List PV, pures (shrs xs) = true
  | [] => rfl
  | x :: xs => by rw [shrs, pures, PV.shr_pure x, shrs_pure xs]; rfl
end
mutual
theorem PV.shr_of_pure : ∀ p : PV, p.pure = true → p.shr = p
  | .nd k o xs, h => by
    rw [PV.pure, Bool.and_eq_true] at h
    have h1 : o = false := by simpa using h.1
    rw [PV.shr, shrs_of_pure xs h.2, h1]
  | .non, _ => rfl | .bl _, _ => rfl | .int _, _ => rfl | .str _, _ => rfl | .ty _, _ => rfl | .ref _, _ => rfl
theorem shrs_of_pure : ∀ xs : List PV, pures xs = true → shrs xs = xs
  | [], _ => rfl
  | x :: xs, h => by
    rw [pures, Bool.and_eq_true] at h
    rw [shrs, PV.shr_of_pure x h.1, shrs_of_pure xs h.2]
end
/-! ### footprints -/
abbrev Fp := Addr → Nat
abbrev Fz := Addr → Prop
def f0 : Fp := fun _ => 0
def fadd (S T : Fp) : Fp := fun a => S a + T a
/-- a list that does not change: a frozen one, or a constant of K -/
def FrL (K : PySem.W.Frag) (H : Hp) (a : Addr) (vs : List V) : Prop := (∃ ob, H a = some (.frz ob (.lst vs))) ∨
  ∃ (o : Obj) (its : Array Value) (n : Nat), K.lookup a = some o ∧ o.cls = .type "list" ∧ o.dict = none ∧ o.data = .seq its n ∧ its.size ≤ sizeLine ∧ Vals vs its.toList
theorem FrL.sq {K : PySem.W.Frag} {H : Hp} {a : Addr} {vs : List V} (h : FrL K H a vs) : SqL K H a vs := h.imp (fun h => .inr h) id
/-- an exception's object: of the class cls, its fields in the dict d -/
def xo (a : Addr) (cls : Value) (d : Option Addr) : HO := .ext fun h => ∃ (oe : Obj) (vs : Array Value), h.get? a = some oe ∧ Zc cls d oe ∧ oe.data = .fields vs
theorem xo_tbl {a : Addr} {cls : Value} {d : Option Addr} {ps : Array Value} : xo a cls d ≠ .tbl ps := fun z => by
  have y : HO.ext _ = HO.tbl ps := z
  cases y
/-- what stands at a node's address -/
def Has (K : PySem.W.Frag) (H : Hp) (o : Bool) (k : Kd) (a : Addr) (vs : List V) : Prop :=
  match k with
  | .tup => H a = some (.tup vs)
  | .frl => FrL K H a vs
  | .lst => H a = some (.lst vs)
  | .dk ks => ks.length = vs.length ∧ if o = true then H a = some (.dK (ks.zip vs)) else Rd H a (.dK (ks.zip vs))
  | .dt ks => ks.length = vs.length ∧ if o = true then H a = some (.dT (ks.zip vs)) else Rd H a (.dT (ks.zip vs))
  | .ins C ns => ns.length = vs.length ∧ ∃ dx, H a = some (.ins C dx (ns.zip vs))
  | .xc x ns => o = false ∧ ns.length = vs.length ∧ ∃ d, H a = some (xo a (.ref (He.ga K x)) d) ∧ ((ns = [] ∧ d = none) ∨ ∃ dx, d = some dx ∧ H dx = some (.xd (ns.zip vs)))
/-- whose it is -/
def Ow (F : Fz) (k : Kd) (o : Bool) (a : Addr) (S' S : Fp) : Prop :=
  match k with
  | .tup => ∀ b, S b = S' b
  | .frl => ∀ b, S b = S' b
  | _ => if o = true then ∀ b, S b = (if b = a then 1 else 0) + S' b else (∀ b, S b = 0) ∧ (∀ b, S' b = 0) ∧ F a
mutual
/-- the value v stands for p; S: the objects that it owns -/
def Rp (K : PySem.W.Frag) (H : Hp) (F : Fz) : PV → V → Fp → Prop
  | .non, v, S => v = .non ∧ ∀ b, S b = 0
  | .bl x, v, S => v = .bl x ∧ ∀ b, S b = 0
  | .int i, v, S => v = .int i ∧ ∀ b, S b = 0
  | .str x, v, S => v = .str x ∧ PyData.strOk x = true ∧ ∀ b, S b = 0
  | .ty n, v, S => v = .ty n ∧ ∀ b, S b = 0
  | .ref a, v, S => v = .ref a ∧ ∀ b, S b = 0
  | .nd k o xs, v, S => ∃ a vs S', v = .ref a ∧ Has K H o k a vs ∧ Rps K H F xs vs S' ∧ Ow F k o a S' S
def Rps (K : PySem.W.Frag) (H : Hp) (F : Fz) : List PV → List V → Fp → Prop
  | [], vs, S => vs = [] ∧ ∀ b, S b = 0
  | x :: xs, vs, S => ∃ v vs' S1 S2, vs = v :: vs' ∧ (∀ b, S b = S1 b + S2 b) ∧ Rp K H F x v S1 ∧ Rps K H F xs vs' S2
end
section
variable {K : PySem.W.Frag} {H H' : Hp} {F F' : Fz}
theorem Ow.congr {k : Kd} {o : Bool} {a : Addr} {S' S T : Fp} (h : Ow F k o a S' S) (e : ∀ b, S b = T b) : Ow F k o a S' T := by
  have e' : S = T := funext e
  rw [← e']; exact h
theorem Rp.congr {p : PV} {v : V} {S T : Fp} (h : Rp K H F p v S) (e : ∀ b, S b = T b) : Rp K H F p v T := by
  have e' : S = T := funext e
  rw [← e']; exact h
theorem Rps.congr {p : List PV} {v : List V} {S T : Fp} (h : Rps K H F p v S) (e : ∀ b, S b = T b) : Rps K H F p v T := by
  have e' : S = T := funext e
  rw [← e']; exact h
theorem Rps.length : ∀ {xs : List PV} {vs : List V} {S : Fp}, Rps K H F xs vs S → xs.length = vs.length
  | [], vs, S, h => by obtain ⟨e, _⟩ := h; subst e; rfl
  | x :: xs, vs, S, h => by
    obtain ⟨v, vs', S1, S2, e, _, _, h2⟩ := h
    subst e
    rw [List.length_cons, List.length_cons, Rps.length h2]
theorem Rps.nil : Rps K H F [] [] f0 := ⟨rfl, fun _ => rfl⟩
theorem Rps.cons {x : PV} {xs : List PV} {v : V} {vs : List V} {S1 S2 : Fp} (h1 : Rp K H F x v S1) (h2 : Rps K H F xs vs S2) : Rps K H F (x :: xs) (v :: vs) (fadd S1 S2) :=
  ⟨v, vs, S1, S2, rfl, fun _ => rfl, h1, h2⟩
mutual
theorem Rp.zero : ∀ {p : PV} {v : V} {S : Fp}, Rp K H F p v S → p.pure = true → ∀ b, S b = 0
  | .nd k o xs, v, S, h, hp, b => by
    obtain ⟨a, vs, S', _, _, h2, h3⟩ := h
    rw [PV.pure, Bool.and_eq_true] at hp
    have ho : o = false := by simpa using hp.1
    subst ho
    have hz := Rps.zero h2 hp.2
    cases k with
    | tup => rw [show S b = S' b from h3 b, hz b]
    | frl => rw [show S b = S' b from h3 b, hz b]
    | _ => exact (show (∀ b, S b = 0) ∧ (∀ b, S' b = 0) ∧ F a from h3).1 b
  | .non, _, _, h, _, b => h.2 b
  | .bl _, _, _, h, _, b => h.2 b
  | .int _, _, _, h, _, b => h.2 b
  | .str _, _, _, h, _, b => h.2.2 b
  | .ty _, _, _, h, _, b => h.2 b
  | .ref _, _, _, h, _, b => h.2 b
theorem Rps.zero : ∀ {p : List PV} {v : List V} {S : Fp}, Rps K H F p v S → pures p = true → ∀ b, S b = 0
  | [], _, _, h, _, b => h.2 b
  | x :: xs, _, S, h, hp, b => by
    obtain ⟨v, vs', S1, S2, _, e, h1, h2⟩ := h
    rw [pures, Bool.and_eq_true] at hp
    rw [e b, Rp.zero h1 hp.1 b, Rps.zero h2 hp.2 b]
end
/-! ### objects that stay -/
/-- what is needed that a tree is kept: own objects, frozen ones and all that is not changeable stay -/
def Kp (H : Hp) (F : Fz) (H' : Hp) (F' : Fz) (S : Fp) : Prop :=
  (∀ a o, H a = some o → (0 < S a ∨ F a ∨ ¬ Mut (some o)) → (∀ ps, o ≠ .tbl ps) → H' a = some o) ∧ (∀ a, F a → F' a)
theorem Kp.mono {S T : Fp} (k : Kp H F H' F' S) (h : ∀ b, T b ≤ S b) : Kp H F H' F' T :=
  ⟨fun a o e c n => k.1 a o e (c.imp (fun z => Nat.lt_of_lt_of_le z (h a)) id) n, k.2⟩
theorem rd_keep {a : Addr} {u : HO} {S : Fp} (k : Kp H F H' F' S) (h : Rd H a u) (c : F a ∨ 0 < S a ∨ ¬ Mut (some u)) (n : ∀ ps, u ≠ .tbl ps := by intro _ z; cases z) : Rd H' a u := by
  rcases h with h | ⟨o, h⟩
  · exact .inl (k.1 a _ h (by rcases c with c | c | c; exact .inr (.inl c); exact .inl c; exact .inr (.inr c)) n)
  · exact .inr ⟨o, k.1 a _ h (.inr (.inr fun z => z)) (by intro _ z; cases z)⟩
theorem sqt_keep {a : Addr} {vs : List V} {S : Fp} (k : Kp H F H' F' S) (h : SqT K H a vs) : SqT K H' a vs := by
  rcases h with h | h
  · exact .inl (rd_keep k h (.inr (.inr fun z => z)))
  · exact .inr h
mutual
theorem Rp.keep : ∀ {p : PV} {v : V} {S : Fp}, Rp K H F p v S → Kp H F H' F' S → Rp K H' F' p v S
  | .nd k o xs, v, S, h, kp => by
    obtain ⟨a, vs, S', e, h1, h2, h3⟩ := h
    have sub : ∀ b, S' b ≤ S b := fun b => by
      cases k with
      | tup => rw [show S b = S' b from h3 b]; exact Nat.le_refl _
      | frl => rw [show S b = S' b from h3 b]; exact Nat.le_refl _
      | _ =>
        cases o with
        | true => rw [show S b = (if b = a then 1 else 0) + S' b from h3 b]; exact Nat.le_add_left _ _
        | false => rw [(show (∀ b, S b = 0) ∧ (∀ b, S' b = 0) ∧ F a from h3).2.1 b]; exact Nat.zero_le _
    have own : (k = .tup ∨ k = .frl) ∨ 0 < S a ∨ F a := by
      cases k with
      | tup => exact .inl (.inl rfl)
      | frl => exact .inl (.inr rfl)
      | _ =>
        cases o with
        | true => exact .inr (.inl (by rw [show S a = (if a = a then 1 else 0) + S' a from h3 a, if_pos rfl]; omega))
        | false => exact .inr (.inr (show (∀ b, S b = 0) ∧ (∀ b, S' b = 0) ∧ F a from h3).2.2)
    refine ⟨a, vs, S', e, ?_, Rps.keep h2 (kp.mono sub), ?_⟩
    · cases k with
      | tup => exact kp.1 a _ h1 (.inr (.inr fun z => z)) (by intro _ z; cases z)
      | frl =>
        rcases h1 with ⟨ob, h1⟩ | h1
        · exact .inl ⟨ob, kp.1 a _ h1 (.inr (.inr fun z => z)) (by intro _ z; cases z)⟩
        · exact .inr h1
      | lst =>
        have c : F a ∨ 0 < S a := by rcases own with (z | z) | z | z; cases z; cases z; exact .inr z; exact .inl z
        exact kp.1 a _ h1 (c.elim (fun z => .inr (.inl z)) .inl) (by intro _ z; cases z)
      | dk ks =>
        have c : F a ∨ 0 < S a := by rcases own with (z | z) | z | z; cases z; cases z; exact .inr z; exact .inl z
        cases o with
        | true => exact ⟨h1.1, kp.1 a _ h1.2 (c.elim (fun z => .inr (.inl z)) .inl) (by intro _ z; cases z)⟩
        | false => exact ⟨h1.1, rd_keep kp h1.2 (c.elim .inl fun z => .inr (.inl z))⟩
      | dt ks =>
        have c : F a ∨ 0 < S a := by rcases own with (z | z) | z | z; cases z; cases z; exact .inr z; exact .inl z
        cases o with
        | true => exact ⟨h1.1, kp.1 a _ h1.2 (c.elim (fun z => .inr (.inl z)) .inl) (by intro _ z; cases z)⟩
        | false => exact ⟨h1.1, rd_keep kp h1.2 (c.elim .inl fun z => .inr (.inl z))⟩
      | ins C ns =>
        have c : F a ∨ 0 < S a := by rcases own with (z | z) | z | z; cases z; cases z; exact .inr z; exact .inl z
        obtain ⟨l, dx, hd⟩ := h1
        exact ⟨l, dx, kp.1 a _ hd (c.elim (fun z => .inr (.inl z)) .inl) (by intro _ z; cases z)⟩
      | xc x ns =>
        have c : F a ∨ 0 < S a := by rcases own with (z | z) | z | z; cases z; cases z; exact .inr z; exact .inl z
        obtain ⟨l0, l, d, hd, hx⟩ := h1
        refine ⟨l0, l, d, kp.1 a _ hd (c.elim (fun z => .inr (.inl z)) .inl) (by intro _ z; exact xo_tbl z), hx.imp id fun ⟨dx, e1, e2⟩ => ⟨dx, e1, kp.1 dx _ e2 (.inr (.inr fun z => z)) (by intro _ z; cases z)⟩⟩
    · cases k with
      | tup => exact h3
      | frl => exact h3
      | _ =>
        cases o with
        | true => exact h3
        | false =>
          obtain ⟨x1, x2, x3⟩ : (∀ b, S b = 0) ∧ (∀ b, S' b = 0) ∧ F a := h3
          exact ⟨x1, x2, kp.2 a x3⟩
  | .non, _, _, h, _ => h
  | .bl _, _, _, h, _ => h
  | .int _, _, _, h, _ => h
  | .str _, _, _, h, _ => h
  | .ty _, _, _, h, _ => h
  | .ref _, _, _, h, _ => h
theorem Rps.keep : ∀ {p : List PV} {v : List V} {S : Fp}, Rps K H F p v S → Kp H F H' F' S → Rps K H' F' p v S
  | [], _, _, h, _ => h
  | x :: xs, _, S, h, kp => by
    obtain ⟨v, vs', S1, S2, e, es, h1, h2⟩ := h
    exact ⟨v, vs', S1, S2, e, es, Rp.keep h1 (kp.mono fun b => by rw [es b]; omega), Rps.keep h2 (kp.mono fun b => by rw [es b]; omega)⟩
end
mutual
/-- all is frozen -/
theorem Rp.frz : ∀ {p : PV} {v : V} {S : Fp}, Rp K H F p v S → ∀ G : Fz, (∀ a, F a → G a) → (∀ a, 0 < S a → G a) → Rp K H G p.shr v f0
  | .nd k o xs, v, S, h, G, hF, hS => by
    obtain ⟨a, vs, S', e, h1, h2, h3⟩ := h
    have sub : ∀ b, S' b ≤ S b := fun b => by
      cases k with
      | tup => rw [show S b = S' b from h3 b]; exact Nat.le_refl _
      | frl => rw [show S b = S' b from h3 b]; exact Nat.le_refl _
      | _ =>
        cases o with
        | true => rw [show S b = (if b = a then 1 else 0) + S' b from h3 b]; exact Nat.le_add_left _ _
        | false => rw [(show (∀ b, S b = 0) ∧ (∀ b, S' b = 0) ∧ F a from h3).2.1 b]; exact Nat.zero_le _
    have own : (k = .tup ∨ k = .frl) ∨ G a := by
      cases k with
      | tup => exact .inl (.inl rfl)
      | frl => exact .inl (.inr rfl)
      | _ =>
        cases o with
        | true => exact .inr (hS a (by rw [show S a = (if a = a then 1 else 0) + S' a from h3 a, if_pos rfl]; omega))
        | false => exact .inr (hF a (show (∀ b, S b = 0) ∧ (∀ b, S' b = 0) ∧ F a from h3).2.2)
    rw [PV.shr]
    refine ⟨a, vs, f0, e, ?_, Rps.frz h2 G hF (fun b z => hS b (Nat.lt_of_lt_of_le z (sub b))), ?_⟩
    · cases k with
      | tup => exact h1
      | frl => exact h1
      | lst => exact h1
      | dk ks =>
        cases o with
        | true => exact ⟨h1.1, .inl h1.2⟩
        | false => exact h1
      | dt ks =>
        cases o with
        | true => exact ⟨h1.1, .inl h1.2⟩
        | false => exact h1
      | ins C ns => exact h1
      | xc x ns => exact ⟨rfl, h1.2⟩
    · cases k with
      | tup => exact fun _ => rfl
      | frl => exact fun _ => rfl
      | _ => exact ⟨fun _ => rfl, fun _ => rfl, by rcases own with (z | z) | z; cases z; cases z; exact z⟩
  | .non, _, _, h, _, _, _ => ⟨h.1, fun _ => rfl⟩
  | .bl _, _, _, h, _, _, _ => ⟨h.1, fun _ => rfl⟩
  | .int _, _, _, h, _, _, _ => ⟨h.1, fun _ => rfl⟩
  | .str _, _, _, h, _, _, _ => ⟨h.1, h.2.1, fun _ => rfl⟩
  | .ty _, _, _, h, _, _, _ => ⟨h.1, fun _ => rfl⟩
  | .ref _, _, _, h, _, _, _ => ⟨h.1, fun _ => rfl⟩
theorem Rps.frz : ∀ {p : List PV} {v : List V} {S : Fp}, Rps K H F p v S → ∀ G : Fz, (∀ a, F a → G a) → (∀ a, 0 < S a → G a) → Rps K H G (shrs p) v f0
  | [], _, _, h, _, _, _ => ⟨h.1, fun _ => rfl⟩
  | x :: xs, _, S, h, G, hF, hS => by
    obtain ⟨v, vs', S1, S2, e, es, h1, h2⟩ := h
    exact ⟨v, vs', f0, f0, e, fun _ => rfl, Rp.frz h1 G hF (fun b z => hS b (by rw [es b]; omega)), Rps.frz h2 G hF (fun b z => hS b (by rw [es b]; omega))⟩
end
end
/-! ### good states, steps -/
/-- nothing of ours stands there: nothing, or a table -/
def Fre (H : Hp) (a : Addr) : Prop := H a = none ∨ ∃ ps, H a = some (.tbl ps)
theorem Fre.no {H : Hp} {a : Addr} (h : Fre H a) (m : Mut (H a)) : False := by
  rcases h with h | ⟨ps, h⟩ <;> rw [h] at m <;> exact m
theorem Fre.eq {H : Hp} {a : Addr} {o : HO} (h : Fre H a) (e : H a = some o) : ∃ ps, o = .tbl ps := by
  rcases h with h | ⟨ps, h⟩
  · rw [e] at h; cases h
  · rw [e] at h; cases h; exact ⟨ps, rfl⟩
structure Gd (H : Hp) (F : Fz) (S : Fp) : Prop where
  le : ∀ a, S a ≤ 1
  nf : ∀ a, 0 < S a → ¬ F a
  mu : ∀ a, 0 < S a → Mut (H a)
  fr : ∀ a, F a → ¬ Fre H a
  tb : LamX.Tabs Tbs.l H
structure Step (H : Hp) (F : Fz) (S : Fp) (H' : Hp) (F' : Fz) (S' : Fp) : Prop where
  kp : ∀ a o, H a = some o → S a = 0 → (∀ ps, o ≠ .tbl ps) → H' a = some o
  ft : ∀ a, 0 < S' a → 0 < S a ∨ Fre H a
  fm : ∀ a, F a → F' a
  fn : ∀ a, F' a → F a ∨ 0 < S a ∨ Fre H a
theorem Mut.some {o : Option HO} (h : Mut o) : ∃ u, o = some u := by
  cases o with
  | none => exact absurd h (fun z => z)
  | some u => exact ⟨u, rfl⟩
section
variable {K : PySem.W.Frag} {H H1 H2 : Hp} {F F1 F2 : Fz} {S S1 S2 T : Fp}
theorem Gd.sub (g : Gd H F S) (h : ∀ b, T b ≤ S b) : Gd H F T :=
  ⟨fun a => Nat.le_trans (h a) (g.le a), fun a z => g.nf a (Nat.lt_of_lt_of_le z (h a)), fun a z => g.mu a (Nat.lt_of_lt_of_le z (h a)), g.fr, g.tb⟩
theorem Gd.ne {a : Addr} (g : Gd H F S) (h : 0 < S a) : H a ≠ none := fun e => by have := g.mu a h; rw [e] at this; exact this
theorem Gd.nfre {a : Addr} (g : Gd H F S) (h : 0 < S a) : ¬ Fre H a := fun e => e.no (g.mu a h)
theorem Step.refl : Step H F S H F S := ⟨fun _ _ h _ _ => h, fun _ h => .inl h, fun _ h => h, fun _ h => .inl h⟩
theorem Step.trans (a : Step H F S H1 F1 S1) (b : Step H1 F1 S1 H2 F2 S2) : Step H F S H2 F2 S2 := by
  have back : ∀ c, 0 < S1 c ∨ Fre H1 c → 0 < S c ∨ Fre H c := fun c z => by
    rcases z with z | z
    · exact a.ft c z
    · by_cases hs : S c = 0
      · cases e : H c with
        | none => exact .inr (.inl e)
        | some o =>
          by_cases ho : ∃ ps, o = .tbl ps
          · obtain ⟨ps, rfl⟩ := ho
            exact .inr (.inr ⟨ps, e⟩)
          · exact absurd (z.eq (a.kp c o e hs fun ps h => ho ⟨ps, h⟩)) ho
      · exact .inl (Nat.pos_of_ne_zero hs)
  refine ⟨fun c o e z n => b.kp c o (a.kp c o e z n) ?_ n, fun c z => back c (b.ft c z), fun c z => b.fm c (a.fm c z), fun c z => ?_⟩
  · cases Nat.eq_zero_or_pos (S1 c) with
    | inl q => exact q
    | inr q =>
      rcases a.ft c q with r | r
      · omega
      · obtain ⟨ps, h⟩ := r.eq e
        exact absurd h (n ps)
  · rcases b.fn c z with q | q
    · exact a.fn c q
    · exact .inr (back c q)
/-- fewer own objects behind -/
theorem Step.sub (a : Step H F S H1 F1 S1) (h : ∀ b, T b ≤ S1 b) : Step H F S H1 F1 T := ⟨a.kp, fun c z => a.ft c (Nat.lt_of_lt_of_le z (h c)), a.fm, a.fn⟩
/-- a frame beside -/
theorem Step.frame (a : Step H F S H1 F1 S1) : Step H F (fadd T S) H1 F1 (fadd T S1) :=
  ⟨fun c o e z n => a.kp c o e (by have z' : T c + S c = 0 := z; omega) n, fun c z => by
    have z' : 0 < T c + S1 c := z
    by_cases q : 0 < S1 c
    · rcases a.ft c q with r | r
      · exact .inl (by show 0 < T c + S c; omega)
      · exact .inr r
    · exact .inl (by show 0 < T c + S c; omega), a.fm, fun c z => by
    rcases a.fn c z with r | r | r
    · exact .inl r
    · exact .inr (.inl (by show 0 < T c + S c; omega))
    · exact .inr (.inr r)⟩
theorem Gd.frame (g : Gd H F (fadd T S)) (a : Step H F S H1 F1 S1) (g1 : Gd H1 F1 S1) : Gd H1 F1 (fadd T S1) := by
  have apart : ∀ c, 0 < T c → S c = 0 ∧ ∃ o, H c = some o := fun c z => by
    have l : T c + S c ≤ 1 := g.le c
    have m : 0 < fadd T S c := by show 0 < T c + S c; omega
    exact ⟨by omega, Mut.some (g.mu c m)⟩
  refine ⟨fun c => ?_, fun c z => ?_, fun c z => ?_, g1.fr, g1.tb⟩
  · show T c + S1 c ≤ 1
    by_cases q : 0 < T c
    · obtain ⟨z, o, e⟩ := apart c q
      have l : T c + S c ≤ 1 := g.le c
      cases Nat.eq_zero_or_pos (S1 c) with
      | inl r => omega
      | inr r =>
        rcases a.ft c r with r | r
        · omega
        · exact (r.no (g.mu c (show 0 < T c + S c by omega))).elim
    · have := g1.le c; omega
  · have z' : 0 < T c + S1 c := z
    by_cases q : 0 < T c
    · obtain ⟨w, o, e⟩ := apart c q
      intro f
      rcases a.fn c f with r | r | r
      · exact g.nf c (by show 0 < T c + S c; omega) r
      · omega
      · exact r.no (g.mu c (show 0 < T c + S c by omega))
    · exact g1.nf c (by omega)
  · have z' : 0 < T c + S1 c := z
    by_cases q : 0 < T c
    · obtain ⟨w, o, e⟩ := apart c q
      have m := g.mu c (show 0 < fadd T S c by show 0 < T c + S c; omega)
      rw [a.kp c o e w (fun ps z => by rw [e, z] at m; exact m), ← e]
      exact m
    · exact g1.mu c (by omega)
/-- what lies beside a step is kept -/
theorem Kp.of (g : Gd H F (fadd T S)) (a : Step H F S H1 F1 S1) : Kp H F H1 F1 T := by
  refine ⟨fun c o e z n => a.kp c o e ?_ n, a.fm⟩
  cases Nat.eq_zero_or_pos (S c) with
  | inl q => exact q
  | inr q =>
    exfalso
    rcases z with z | z | z
    · have l : T c + S c ≤ 1 := g.le c
      omega
    · exact g.nf c (by show 0 < T c + S c; omega) z
    · have m := g.mu c (show 0 < T c + S c by omega)
      rw [e] at m
      exact z m
end
/-! ### the names' view -/
abbrev Vw := List (Option PV)
def Rvw (K : PySem.W.Frag) (H : Hp) (F : Fz) : Vw → St → Fp → Prop
  | [], σ, S => σ = [] ∧ ∀ b, S b = 0
  | none :: vw, σ, S => ∃ x σ', σ = x :: σ' ∧ Rvw K H F vw σ' S
  | some p :: vw, σ, S => ∃ v σ' S1 S2, σ = some v :: σ' ∧ (∀ b, S b = S1 b + S2 b) ∧ Rp K H F p v S1 ∧ Rvw K H F vw σ' S2
section
variable {K : PySem.W.Frag} {H H' : Hp} {F F' : Fz}
theorem Rvw.congr {vw : Vw} {σ : St} {S T : Fp} (h : Rvw K H F vw σ S) (e : ∀ b, S b = T b) : Rvw K H F vw σ T := by
  have e' : S = T := funext e
  rw [← e']; exact h
theorem Rvw.length : ∀ {vw : Vw} {σ : St} {S : Fp}, Rvw K H F vw σ S → vw.length = σ.length
  | [], _, _, h => by obtain ⟨e, _⟩ := h; subst e; rfl
  | none :: vw, _, _, h => by obtain ⟨x, σ', e, h⟩ := h; subst e; simp [Rvw.length h]
  | some p :: vw, _, _, h => by obtain ⟨v, σ', S1, S2, e, _, _, h⟩ := h; subst e; simp [Rvw.length h]
theorem Rvw.keep : ∀ {vw : Vw} {σ : St} {S : Fp}, Rvw K H F vw σ S → Kp H F H' F' S → Rvw K H' F' vw σ S
  | [], _, _, h, _ => ⟨h.1, h.2⟩
  | none :: vw, _, _, h, k => by obtain ⟨x, σ', e, h⟩ := h; exact ⟨x, σ', e, Rvw.keep h k⟩
  | some p :: vw, _, S, h, k => by
    obtain ⟨v, σ', S1, S2, e, es, h1, h2⟩ := h
    exact ⟨v, σ', S1, S2, e, es, h1.keep (k.mono fun b => by rw [es b]; omega), Rvw.keep h2 (k.mono fun b => by rw [es b]; omega)⟩
/-- a name is looked at, and may be put otherwise -/
theorem Rvw.focus : ∀ {vw : Vw} {σ : St} {S : Fp} {n : Nat} {p : PV}, Rvw K H F vw σ S → vw[n]? = some (some p) →
    ∃ v S1 S2, σ[n]? = some (some v) ∧ (∀ b, S b = S1 b + S2 b) ∧ Rp K H F p v S1 ∧ Rvw K H F (vw.set n none) σ S2
  | [], _, _, n, _, _, e => by simp at e
  | none :: vw, _, S, 0, p, h, e => by simp at e
  | none :: vw, _, S, n + 1, p, h, e => by
    obtain ⟨x, σ', rfl, h⟩ := h
    obtain ⟨v, S1, S2, h1, h2, h3, h4⟩ := Rvw.focus h (n := n) (p := p) (by simpa using e)
    exact ⟨v, S1, S2, by simpa using h1, h2, h3, x, σ', rfl, h4⟩
  | some q :: vw, _, S, 0, p, h, e => by
    obtain ⟨v, σ', S1, S2, rfl, es, h1, h2⟩ := h
    simp at e
    subst e
    exact ⟨v, S1, S2, by simp, es, h1, some v, σ', rfl, h2⟩
  | some q :: vw, _, S, n + 1, p, h, e => by
    obtain ⟨v, σ', T1, T2, rfl, es, h1, h2⟩ := h
    obtain ⟨v', S1, S2, g1, g2, g3, g4⟩ := Rvw.focus h2 (n := n) (p := p) (by simpa using e)
    refine ⟨v', S1, fadd T1 S2, by simpa using g1, fun b => ?_, g3, v, σ', T1, S2, rfl, fun b => rfl, h1, g4⟩
    rw [es b, g2 b]; show _ = S1 b + (T1 b + S2 b); omega
/-- a name without a view gets one: its value stays -/
theorem Rvw.put : ∀ {vw : Vw} {σ : St} {S S1 : Fp} {n : Nat} {p : PV} {v : V}, Rvw K H F vw σ S → vw[n]? = some none → σ[n]? = some (some v) → Rp K H F p v S1 → Rvw K H F (vw.set n (some p)) σ (fadd S1 S)
  | [], _, _, _, n, _, _, _, e, _, _ => by simp at e
  | none :: vw, _, S, S1, 0, p, v, h, e, g, r => by
    obtain ⟨x, σ', rfl, h⟩ := h
    simp at g
    subst g
    exact ⟨v, σ', S1, S, rfl, fun _ => rfl, r, h⟩
  | none :: vw, _, S, S1, n + 1, p, v, h, e, g, r => by
    obtain ⟨x, σ', rfl, h⟩ := h
    exact ⟨x, σ', rfl, Rvw.put h (n := n) (by simpa using e) (by simpa using g) r⟩
  | some q :: vw, _, S, S1, 0, p, v, h, e, g, r => by simp at e
  | some q :: vw, _, S, S1, n + 1, p, v, h, e, g, r => by
    obtain ⟨v', σ', T1, T2, rfl, es, h1, h2⟩ := h
    refine ⟨v', σ', T1, fadd S1 T2, rfl, fun b => ?_, h1, Rvw.put h2 (n := n) (by simpa using e) (by simpa using g) r⟩
    show S1 b + S b = T1 b + (S1 b + T2 b)
    rw [es b]; omega
/-- a name without a view may have any value -/
theorem Rvw.any : ∀ {vw : Vw} {σ : St} {S : Fp} {n : Nat} {x : Option V}, Rvw K H F vw σ S → vw[n]? = some none → Rvw K H F vw (σ.set n x) S
  | [], _, _, n, _, _, e => by simp at e
  | none :: vw, _, S, 0, x, h, e => by
    obtain ⟨y, σ', rfl, h⟩ := h
    exact ⟨x, σ', rfl, h⟩
  | none :: vw, _, S, n + 1, x, h, e => by
    obtain ⟨y, σ', rfl, h⟩ := h
    exact ⟨y, σ'.set n x, rfl, Rvw.any h (by simpa using e)⟩
  | some q :: vw, _, S, 0, x, h, e => by simp at e
  | some q :: vw, _, S, n + 1, x, h, e => by
    obtain ⟨v', σ', T1, T2, rfl, es, h1, h2⟩ := h
    exact ⟨v', σ'.set n x, T1, T2, rfl, es, h1, Rvw.any h2 (by simpa using e)⟩
/-- a name loses its view -/
theorem Rvw.drop {vw : Vw} {σ : St} {S : Fp} {n : Nat} (h : Rvw K H F vw σ S) (hn : n < vw.length) : ∃ S2, (∀ b, S2 b ≤ S b) ∧ Rvw K H F (vw.set n none) σ S2 := by
  cases e : vw[n]? with
  | none => rw [List.getElem?_eq_none_iff] at e; omega
  | some x =>
    cases x with
    | none =>
      refine ⟨S, fun _ => Nat.le_refl _, ?_⟩
      have : vw.set n none = vw := by
        apply List.ext_getElem?
        intro m
        by_cases hm : m = n
        · subst hm; rw [List.getElem?_set_self hn, e]
        · rw [List.getElem?_set_ne (Ne.symm hm)]
      rw [this]; exact h
    | some p =>
      obtain ⟨v, S1, S2, _, es, _, h2⟩ := h.focus e
      exact ⟨S2, fun b => by rw [es b]; omega, h2⟩
/-- x = e: the name n has the value v, which stands for p -/
theorem Rvw.store {vw : Vw} {σ : St} {S S1 : Fp} {n : Nat} {p : PV} {v : V} (h : Rvw K H F vw σ S) (hn : n < vw.length) (r : Rp K H F p v S1) :
    ∃ S2, (∀ b, S2 b ≤ S b) ∧ Rvw K H F (vw.set n (some p)) (σ.set n (some v)) (fadd S1 S2) := by
  obtain ⟨S2, l, h2⟩ := h.drop hn
  have hn2 : (vw.set n none)[n]? = some none := List.getElem?_set_self hn
  have h3 := h2.any hn2 (x := some v)
  have hl : n < σ.length := by rw [← h.length]; exact hn
  have h4 := h3.put hn2 (List.getElem?_set_self hl) r
  rw [List.set_set] at h4
  exact ⟨S2, l, h4⟩
end
end Bx
set_option Elab.async false
set_option linter.all false
set_option maxRecDepth 100000
set_option maxHeartbeats 4000000
/-! L1: computations over views, what is owed behind them, the judgements SE, ST, SA, SS, SSs; small statements; operands. -/
namespace Bx
open PySem PySem.Spec PyProof.Rows L2
variable [Tbs]
/-- an exception: its class, the names and values of its fields -/
structure Xc where
  cls : Value
  ns : List Str
  xs : List PV
inductive R (α : Type) where
  | no
  | ok (a : α) (vw : Vw)
  | exc (x : Xc) (vw : Vw)
def R.bind {α β : Type} (r : R α) (f : α → Vw → R β) : R β :=
  match r with
  | .no => .no
  | .ok a vw => f a vw
  | .exc x vw => .exc x vw
def Rx (K : PySem.W.Frag) (H : Hp) (F : Fz) (x : Xc) (cls : Value) (d : Option Addr) : Prop :=
  cls = x.cls ∧ pures x.xs = true ∧ x.ns.length = x.xs.length ∧ (x.ns = [] ∨ ∃ dd vs, d = some dd ∧ H dd = some (.xd (x.ns.zip vs)) ∧ Rps K H F x.xs vs f0)
/-- a relation of results -/
structure RL (α β : Type) where
  r : Hp → Fz → α → β → Fp → Prop
  keep : ∀ {H F H' F' a b S}, r H F a b S → Kp H F H' F' S → r H' F' a b S
  congr : ∀ {H F a b S T}, r H F a b S → (∀ c, S c = T c) → r H F a b T
def rlE (K : PySem.W.Frag) : RL PV V := ⟨fun H F p v S => Rp K H F p v S, fun h k => Rp.keep h k, fun h e => Rp.congr h e⟩
def rlA (K : PySem.W.Frag) : RL (List PV) (List V) := ⟨fun H F p v S => Rps K H F p v S, fun h k => Rps.keep h k, fun h e => Rps.congr h e⟩
def rlT : RL Bool Bool := ⟨fun _ _ p v S => p = v ∧ ∀ b, S b = 0, fun h _ => h, fun h e => ⟨h.1, fun b => by rw [← e b]; exact h.2 b⟩⟩
/-- what is owed of a computation's result -/
structure Obl (K : PySem.W.Frag) (W : WX) (σ : St) (γ : Type) where
  p : R γ → Hp → Fz → Fp → Prop
  stp : ∀ {r H F S H1 F1 S1}, Step H F S H1 F1 S1 → p r H F S → p r H1 F1 S1
  no : ∀ {H F S}, p .no H F S → False
  exc : ∀ {x vw H F S}, p (.exc x vw) H F S → ∀ cls d H' F' S2, Rx K H' F' x cls d → Rvw K H' F' vw σ S2 → Gd H' F' S2 → Step H F S H' F' S2 → W cls d σ H'
def Po {α β : Type} (A : RL α β) (K : PySem.W.Frag) (σ : St) (W : WX) (Q : β → Hp → Prop) : R α → Hp → Fz → Fp → Prop
  | .no, _, _, _ => False
  | .ok p vw', H, F, S => ∀ v H' F' S1 S2, A.r H' F' p v S1 → Rvw K H' F' vw' σ S2 → Gd H' F' (fadd S1 S2) → Step H F S H' F' (fadd S1 S2) → Q v H'
  | .exc x vw', H, F, S => ∀ cls d H' F' S2, Rx K H' F' x cls d → Rvw K H' F' vw' σ S2 → Gd H' F' S2 → Step H F S H' F' S2 → W cls d σ H'
def oblX {α β : Type} (A : RL α β) (K : PySem.W.Frag) (σ : St) (W : WX) (Q : β → Hp → Prop) : Obl K W σ α where
  p := Po A K σ W Q
  stp := fun {r H F S H1 F1 S1} s h => by
    cases r with
    | no => exact h
    | ok p vw' => exact fun v H' F' T1 T2 a b c d => h v H' F' T1 T2 a b c (s.trans d)
    | exc x vw' => exact fun cls d H' F' T2 a b c e => h cls d H' F' T2 a b c (s.trans e)
  no := fun h => h
  exc := fun h => h
/-- the reading of a computation -/
def tX {α β : Type} (A : RL α β) (K : PySem.W.Frag) (i : Vw → R α) (W : WX) : St → Hp → (β → Hp → Prop) → Prop :=
  fun σ H Q => ∃ F vw S, Rvw K H F vw σ S ∧ Gd H F S ∧ Po A K σ W Q (i vw) H F S
section
variable {K : PySem.W.Frag} {H : Hp} {F : Fz} {W : WX} {σ : St} {vw : Vw} {S T : Fp} {α β γ : Type}
theorem gd_zero (g : Gd H F S) : Gd H F (fadd f0 S) := ⟨fun a => by show 0 + S a ≤ 1; have := g.le a; omega, fun a z => g.nf a (by have z' : 0 < 0 + S a := z; omega), fun a z => g.mu a (by have z' : 0 < 0 + S a := z; omega), g.fr, g.tb⟩
theorem fz_add (S : Fp) : fadd f0 S = S := funext fun a => Nat.zero_add _
theorem fadd_assoc (S T U : Fp) : fadd (fadd S T) U = fadd S (fadd T U) := funext fun a => Nat.add_assoc _ _ _
theorem fadd_comm (S T : Fp) : fadd S T = fadd T S := funext fun a => Nat.add_comm _ _
theorem fadd_zero (S : Fp) : fadd S f0 = S := funext fun a => Nat.add_zero _
theorem f0_eq {S : Fp} (h : ∀ b, S b = 0) : S = f0 := funext h
/-- a computation is run beside temporaries T; behind it the rest is owed -/
theorem run (A : RL α β) (O : Obl K W σ γ) {i : Vw → R α} {f : α → Vw → R γ} {Q' : β → Hp → Prop} (hv : Rvw K H F vw σ S) (g : Gd H F (fadd T S)) (h : O.p ((i vw).bind f) H F (fadd T S))
    (k : ∀ p vw' v H' F' S1 S2, A.r H' F' p v S1 → Rvw K H' F' vw' σ S2 → Gd H' F' (fadd T (fadd S1 S2)) → Kp H F H' F' T → O.p (f p vw') H' F' (fadd T (fadd S1 S2)) → Q' v H') : tX A K i W σ H Q' := by
  refine ⟨F, vw, S, hv, g.sub fun b => Nat.le_add_left _ _, ?_⟩
  cases e : i vw with
  | no =>
    rw [e] at h
    exact (O.no h).elim
  | ok p vw' =>
    rw [e] at h
    exact fun v H' F' S1 S2 a b c d => k p vw' v H' F' S1 S2 a b (g.frame d c) (Kp.of g d) (O.stp d.frame h)
  | exc x vw' =>
    rw [e] at h
    exact fun cls d H' F' S2 a b c st => O.exc h cls d H' F' S2 a b c (st.frame.sub fun b => Nat.le_add_left _ _)
theorem tX.imp {A : RL α β} {i : Vw → R α} {Q Q' : β → Hp → Prop} (h : tX A K i W σ H Q) (m : ∀ v H', Q v H' → Q' v H') : tX A K i W σ H Q' := by
  obtain ⟨F, vw, S, hv, g, p⟩ := h
  refine ⟨F, vw, S, hv, g, ?_⟩
  cases e : i vw with
  | no => rw [e] at p; exact p
  | ok q vw' => rw [e] at p; exact fun v H' F' S1 S2 a b c d => m _ _ (p v H' F' S1 S2 a b c d)
  | exc x vw' => rw [e] at p; exact p
end
/-! ### the judgements -/
theorem _root_.L2.PE.imp {X : Cx} {e : Expr} {t t' : TE} (h : PE X e t) (m : ∀ σ H Q, t' σ H Q → t σ H Q) : PE X e t' := ⟨fun pins s σ H Q I q => h.run pins s σ H Q I (m _ _ _ q)⟩
theorem _root_.L2.PT.imp {X : Cx} {e : Expr} {t t' : TT} (h : PT X e t) (m : ∀ σ H Q, t' σ H Q → t σ H Q) : PT X e t' := ⟨fun pins s σ H Q I q => h.run pins s σ H Q I (m _ _ _ q)⟩
theorem _root_.L2.PW.imp {X : Cx} {e : Expr} {t t' : TT} (h : PW X e t) (m : ∀ σ H Q, t' σ H Q → t σ H Q) : PW X e t' := ⟨fun wh pins s σ H Q I q => h.run wh pins s σ H Q I (m _ _ _ q)⟩
theorem _root_.L2.PA.imp {X : Cx} {e : List Expr} {t t' : TA} (h : PA X e t) (m : ∀ σ H Q, t' σ H Q → t σ H Q) : PA X e t' := ⟨fun pos pins s σ H Q I q => h.run pos pins s σ H Q I (m _ _ _ q)⟩
theorem _root_.L2.PS.imp {X : Cx} {e : Stmt} {t t' : TS} (h : PS X e t) (m : ∀ D σ H, t' D σ H → t D σ H) : PS X e t' := ⟨fun pins s σ H D I q => h.run pins s σ H D I (m _ _ _ q)⟩
theorem _root_.L2.PSs.imp {X : Cx} {e : List Stmt} {t t' : TS} (h : PSs X e t) (m : ∀ D σ H, t' D σ H → t D σ H) : PSs X e t' := ⟨fun pins s σ H D I q => h.run pins s σ H D I (m _ _ _ q)⟩
abbrev IE := Vw → R PV
abbrev IT := Vw → R Bool
abbrev IA := Vw → R (List PV)
def tE (K : PySem.W.Frag) (i : IE) (W : WX) : TE := tX (rlE K) K i W
def tT (K : PySem.W.Frag) (i : IT) (W : WX) : TT := tX rlT K i W
def tA (K : PySem.W.Frag) (i : IA) (W : WX) : TA := tX (rlA K) K i W
def SE (X : Cx) (e : Expr) (i : IE) : Prop := ∀ W, Takes X W → PE X e (tE X.K i W)
def ST (X : Cx) (e : Expr) (i : IT) : Prop := ∀ W, Takes X W → PT X e (tT X.K i W)
def SW (X : Cx) (e : Expr) (i : IT) : Prop := ∀ W, Takes X W → PW X e (tT X.K i W)
def SA (X : Cx) (es : List Expr) (i : IA) : Prop := ∀ W, Takes X W → PA X es (tA X.K i W)
/-! ### statements -/
inductive Sr where
  | nx | rt (p : PV) | bk | ct
abbrev IS := Vw → R Sr
/-- the slots that fx marks have the values that they had -/
def Fix (fx : Nat → Bool) (σ σ' : St) : Prop := σ'.length = σ.length ∧ ∀ i, fx i = true → σ'[i]? = σ[i]?
theorem Fix.refl {fx : Nat → Bool} {σ : St} : Fix fx σ σ := ⟨rfl, fun _ _ => rfl⟩
theorem Fix.trans {fx : Nat → Bool} {σ σ1 σ2 : St} (a : Fix fx σ σ1) (b : Fix fx σ1 σ2) : Fix fx σ σ2 := ⟨b.1.trans a.1, fun i h => (b.2 i h).trans (a.2 i h)⟩
theorem Fix.set {fx : Nat → Bool} {σ : St} {n : Nat} {x : Option V} (h : fx n = false) : Fix fx σ (σ.set n x) := ⟨List.length_set, fun i hi => by
  by_cases e : n = i
  · subst e; rw [h] at hi; cases hi
  · rw [List.getElem?_set_ne e]⟩
def PoS (K : PySem.W.Frag) (fx : Nat → Bool) (D : Ends) (σ : St) (W : WX) : R Sr → Hp → Fz → Fp → Prop
  | .no, _, _, _ => False
  | .exc x vw', H, F, S => ∀ cls d σ' H' F' S2, Rx K H' F' x cls d → Rvw K H' F' vw' σ' S2 → Fix fx σ σ' → Gd H' F' S2 → Step H F S H' F' S2 → W cls d σ' H'
  | .ok .nx vw', H, F, S => ∀ σ' H' F' S2, Rvw K H' F' vw' σ' S2 → Fix fx σ σ' → Gd H' F' S2 → Step H F S H' F' S2 → D.nx σ' H'
  | .ok .bk vw', H, F, S => ∀ σ' H' F' S2, Rvw K H' F' vw' σ' S2 → Fix fx σ σ' → Gd H' F' S2 → Step H F S H' F' S2 → D.bk σ' H'
  | .ok .ct vw', H, F, S => ∀ σ' H' F' S2, Rvw K H' F' vw' σ' S2 → Fix fx σ σ' → Gd H' F' S2 → Step H F S H' F' S2 → D.ct σ' H'
  | .ok (.rt p) vw', H, F, S => ∀ v σ' H' F' S1 S2, Rp K H' F' p v S1 → Rvw K H' F' vw' σ' S2 → Fix fx σ σ' → Gd H' F' (fadd S1 S2) → Step H F S H' F' (fadd S1 S2) → D.rt v H'
theorem PoS.stp {K : PySem.W.Frag} {fx : Nat → Bool} {D : Ends} {σ σ1 : St} {W : WX} {r : R Sr} {H H1 : Hp} {F F1 : Fz} {S S1 : Fp} (fi : Fix fx σ σ1) (s : Step H F S H1 F1 S1) (h : PoS K fx D σ W r H F S) : PoS K fx D σ1 W r H1 F1 S1 := by
  cases r with
  | no => exact h
  | exc x vw' => exact fun cls d σ' H' F' S2 a b c e f => h cls d σ' H' F' S2 a b (fi.trans c) e (s.trans f)
  | ok o vw' =>
    cases o with
    | nx => exact fun σ' H' F' S2 b c e f => h σ' H' F' S2 b (fi.trans c) e (s.trans f)
    | bk => exact fun σ' H' F' S2 b c e f => h σ' H' F' S2 b (fi.trans c) e (s.trans f)
    | ct => exact fun σ' H' F' S2 b c e f => h σ' H' F' S2 b (fi.trans c) e (s.trans f)
    | rt p => exact fun v σ' H' F' T1 T2 a b c e f => h v σ' H' F' T1 T2 a b (fi.trans c) e (s.trans f)
def oblS (K : PySem.W.Frag) (fx : Nat → Bool) (D : Ends) (σ : St) (W : WX) : Obl K W σ Sr where
  p := PoS K fx D σ W
  stp := fun s h => PoS.stp Fix.refl s h
  no := fun h => h
  exc := fun h cls d H' F' S2 a b c e => h cls d σ H' F' S2 a b Fix.refl c e
def tS (K : PySem.W.Frag) (fx : Nat → Bool) (j : IS) (W : WX) : TS := fun D σ H => ∃ F vw S, Rvw K H F vw σ S ∧ Gd H F S ∧ PoS K fx D σ W (j vw) H F S
def SS (X : Cx) (fx : Nat → Bool) (st : Stmt) (j : IS) : Prop := ∀ W, Takes X W → PS X st (tS X.K fx j W)
def SSs (X : Cx) (fx : Nat → Bool) (st : List Stmt) (j : IS) : Prop := ∀ W, Takes X W → PSs X st (tS X.K fx j W)
def jNx : IS := fun vw => .ok .nx vw
def jBk : IS := fun vw => .ok .bk vw
def jCt : IS := fun vw => .ok .ct vw
def jSeq (j1 j2 : IS) : IS := fun vw => match j1 vw with
  | .ok .nx vw' => j2 vw'
  | r => r
def jRet (i : IE) : IS := fun vw => (i vw).bind fun p vw' => .ok (.rt p) vw'
def jRetN : IS := fun vw => .ok (.rt .non) vw
def jExpr (i : IE) : IS := fun vw => (i vw).bind fun _ vw' => .ok .nx vw'
def jIf (c : IT) (a b : IS) : IS := fun vw => (c vw).bind fun k vw' => if k = true then a vw' else b vw'
/-- x = e -/
def jAsg (n : Nat) (i : IE) : IS := fun vw => (i vw).bind fun p vw' => if n < vw'.length then .ok .nx (vw'.set n (some p)) else .no
section
variable {X : Cx} {fx : Nat → Bool} {st : Stmt} {rest : List Stmt} {j j1 j2 : IS} {e : Expr} {i : IE} {pos : Pos}
theorem tS_here {K : PySem.W.Frag} {D : Ends} {σ : St} {H : Hp} {F : Fz} {vw : Vw} {S : Fp} {W : WX} (hv : Rvw K H F vw σ S) (g : Gd H F S) (h : PoS K fx D σ W (j vw) H F S) : tS K fx j W D σ H := ⟨F, vw, S, hv, g, h⟩
theorem ss_nil : SSs X fx [] jNx := fun W tk => pss_nil.imp fun D σ H ⟨F, vw, S, hv, g, h⟩ => h σ H F S hv Fix.refl g Step.refl
theorem ss_pass : SS X fx (.Pass pos) jNx := fun W tk => ps_pass.imp fun D σ H ⟨F, vw, S, hv, g, h⟩ => h σ H F S hv Fix.refl g Step.refl
theorem ss_break : SS X fx (.Break pos) jBk := fun W tk => ps_break.imp fun D σ H ⟨F, vw, S, hv, g, h⟩ => h σ H F S hv Fix.refl g Step.refl
theorem ss_cont : SS X fx (.Continue pos) jCt := fun W tk => ps_continue.imp fun D σ H ⟨F, vw, S, hv, g, h⟩ => h σ H F S hv Fix.refl g Step.refl
theorem ss_cons (h1 : SS X fx st j1) (h2 : SSs X fx rest j2) : SSs X fx (st :: rest) (jSeq j1 j2) := fun W tk =>
  (pss_cons (h1 W tk) (h2 W tk)).imp fun D σ H ⟨F, vw, S, hv, g, h⟩ => by
    refine ⟨F, vw, S, hv, g, ?_⟩
    unfold jSeq at h
    cases e : j1 vw with
    | no => rw [e] at h; exact h
    | exc x vw' => rw [e] at h; exact h
    | ok o vw' =>
      cases o with
      | nx =>
        rw [e] at h
        exact fun σ' H' F' S2 a b c d => tS_here a c (PoS.stp b d h)
      | bk => rw [e] at h; exact h
      | ct => rw [e] at h; exact h
      | rt p => rw [e] at h; exact h
theorem ss_one (h1 : SS X fx st j1) : SSs X fx [st] j1 := fun W tk => pss_one (h1 W tk)
/-- the last part of a run: Q' by the rest -/
theorem ss_ret (he : SE X e i) : SS X fx (.Return (some e) pos) (jRet i) := fun W tk =>
  (ps_ret (he W tk)).imp fun D σ H ⟨F, vw, S, hv, g, h⟩ => by
    refine run (T := f0) (rlE X.K) (oblS X.K fx D σ W) hv (gd_zero g) (by rw [fz_add]; exact h) fun p vw' v H' F' S1 S2 a b c _ q => ?_
    rw [fz_add] at c q
    exact q v σ H' F' S1 S2 a b Fix.refl c Step.refl
theorem ss_retN : SS X fx (.Return none pos) jRetN := fun W tk => ps_retN.imp fun D σ H ⟨F, vw, S, hv, g, h⟩ =>
  h .non σ H F f0 S ⟨rfl, fun _ => rfl⟩ hv Fix.refl (gd_zero g) (by rw [fz_add]; exact Step.refl)
theorem ss_expr (he : SE X e i) (hs : swapsWith e none pos.line X.env = pure false := by rfl) : SS X fx (.Expr e pos) (jExpr i) := fun W tk =>
  (ps_expr (he W tk) hs).imp fun D σ H ⟨F, vw, S, hv, g, h⟩ => by
    refine run (T := f0) (rlE X.K) (oblS X.K fx D σ W) hv (gd_zero g) (by rw [fz_add]; exact h) fun p vw' v H' F' S1 S2 a b c _ q => ?_
    rw [fz_add] at c q
    exact q σ H' F' S2 b Fix.refl (c.sub fun _ => Nat.le_add_left _ _) (Step.refl.sub fun _ => Nat.le_add_left _ _)
theorem ss_doc {x k p} : SS X fx (.Expr (.Constant (.str x) k p) pos) jNx := fun W tk => ps_doc.imp fun D σ H ⟨F, vw, S, hv, g, h⟩ => h σ H F S hv Fix.refl g Step.refl
theorem ss_if {c : Expr} {a b : List Stmt} {ic : IT} {ja jb : IS} (hc : ST X c ic) (ha : SSs X fx a ja) (hb : SSs X fx b jb) : SS X fx (.If c a b pos) (jIf ic ja jb) := fun W tk =>
  (ps_if (hc W tk) (ha W tk) (hb W tk)).imp fun D σ H ⟨F, vw, S, hv, g, h⟩ => by
    refine run (T := f0) rlT (oblS X.K fx D σ W) hv (gd_zero g) (by rw [fz_add]; exact h) fun p vw' v H' F' S1 S2 a b c _ q => ?_
    obtain ⟨e1, e2⟩ := a
    subst e1
    rw [fz_add, f0_eq e2, fz_add] at c q
    have q' : PoS X.K fx D σ W (if p = true then ja vw' else jb vw') H' F' S2 := q
    cases p with
    | true => exact tS_here b c q'
    | false => exact tS_here b c q'
theorem ss_asg {n : Nat} {x : Str} {p1 : Pos} (he : SE X e i) (hN : X.N.Nodup) (hi : X.N[n]? = some x) (hx : Loc X.env.scope x) (hfx : fx n = false)
    (hf : X.fn x = true ∨ X.env.scope.names.lookup x = some .local := by first | exact .inl rfl | exact .inr rfl | assumption)
    (hs : swapsWithSole [.Name x p1] e pos.line X.env = pure false := by rfl) (hw : swappedStores [.Name x p1] e X.env = pure none := by rfl)
    (h1 : (assignEach [.Name x p1] X.env).map (·.2) = [assign (.Name x p1) X.env] := by rfl) : SS X fx (.Assign [.Name x p1] e pos) (jAsg n i) := fun W tk =>
  (ps_asg (he W tk) (pg_name hN hi hx hf) hs hw h1).imp fun D σ H ⟨F, vw, S, hv, g, h⟩ => by
    refine run (T := f0) (rlE X.K) (oblS X.K fx D σ W) hv (gd_zero g) (by rw [fz_add]; exact h) fun p vw' v H' F' S1 S2 a b c _ q => ?_
    rw [fz_add] at c q
    by_cases hl : n < vw'.length
    · have q' : PoS X.K fx D σ W (if n < vw'.length then .ok .nx (vw'.set n (some p)) else .no) H' F' (fadd S1 S2) := q
      rw [if_pos hl] at q'
      obtain ⟨S3, l, r⟩ := b.store hl a
      have lt : ∀ b, fadd S1 S3 b ≤ fadd S1 S2 b := fun b => Nat.add_le_add_left (l b) _
      exact q' _ H' F' _ r (Fix.set hfx) (c.sub lt) (Step.refl.sub lt)
    · have q' : PoS X.K fx D σ W (if n < vw'.length then .ok .nx (vw'.set n (some p)) else .no) H' F' (fadd S1 S2) := q
      rw [if_neg hl] at q'
      exact q'.elim
end
/-! ### operands: a name whose object is only read, or a computed value -/
inductive Opd where
  | v (n : Nat)
  | e (i : IE)
def tO (K : PySem.W.Frag) : Opd → WX → TE
  | .v n, _ => tVar n
  | .e i, W => tE K i W
def SO (X : Cx) (e : Expr) (o : Opd) : Prop := ∀ W, Takes X W → PE X e (tO X.K o W)
theorem so_v {X : Cx} {x : Str} {pos : Pos} (n : Nat) (hN : X.N[n]? = some x := by rfl) (hv : Vis X.env.scope x := by first | exact Or.inl rfl | exact Or.inr (Or.inl rfl) | exact Or.inr (Or.inr rfl)) (hd : (x == ("__debug__" : Str)) = false := by decide)
    (hcd : (x == ("__classdict__" : Str)) = false := by decide) : SO X (.Name x pos) (.v n) := fun W tk => pe_var hN hv hd hcd
theorem so_e {X : Cx} {e : Expr} {i : IE} (h : SE X e i) : SO X e (.e i) := h
def tOs (K : PySem.W.Frag) : List Opd → WX → TA
  | [], _ => tNil
  | o :: os, W => tCons (tO K o W) (tOs K os W)
/-- an operand's value: a value of its own, or what a name has -/
inductive Od where
  | val (p : PV)
  | bor (n : Nat)
def Ros (K : PySem.W.Frag) (H : Hp) (F : Fz) (σ : St) : List Od → List V → Fp → Prop
  | [], vs, S => vs = [] ∧ ∀ b, S b = 0
  | .val p :: os, vs, S => ∃ v vs' S1 S2, vs = v :: vs' ∧ (∀ b, S b = S1 b + S2 b) ∧ Rp K H F p v S1 ∧ Ros K H F σ os vs' S2
  | .bor n :: os, vs, S => ∃ v vs', vs = v :: vs' ∧ σ[n]? = some (some v) ∧ Ros K H F σ os vs' S
theorem Ros.keep {K : PySem.W.Frag} {H H' : Hp} {F F' : Fz} {σ : St} : ∀ {os : List Od} {vs : List V} {S : Fp}, Ros K H F σ os vs S → Kp H F H' F' S → Ros K H' F' σ os vs S
  | [], _, _, h, _ => ⟨h.1, h.2⟩
  | .val p :: os, _, S, h, k => by
    obtain ⟨v, vs', S1, S2, e, es, h1, h2⟩ := h
    exact ⟨v, vs', S1, S2, e, es, h1.keep (k.mono fun b => by rw [es b]; omega), Ros.keep h2 (k.mono fun b => by rw [es b]; omega)⟩
  | .bor n :: os, _, S, h, k => by
    obtain ⟨v, vs', e, h1, h2⟩ := h
    exact ⟨v, vs', e, h1, Ros.keep h2 k⟩
def evO : List Opd → Vw → R (List Od)
  | [], vw => .ok [] vw
  | .v n :: os, vw => match vw[n]? with
    | some (some _) => (evO os vw).bind fun l vw' => .ok (.bor n :: l) vw'
    | _ => .no
  | .e i :: os, vw => (i vw).bind fun p vw1 => (evO os vw1).bind fun l vw' => .ok (.val p :: l) vw'
theorem R.bind_assoc {α β γ : Type} (r : R α) (f : α → Vw → R β) (g : β → Vw → R γ) : (r.bind f).bind g = r.bind fun a vw => (f a vw).bind g := by cases r <;> rfl
/-- operands are run -/
theorem runO {K : PySem.W.Frag} {W : WX} {σ : St} {γ : Type} (O : Obl K W σ γ) : ∀ {os : List Opd} {H : Hp} {F : Fz} {vw : Vw} {S T : Fp} {f : List Od → Vw → R γ} {Q' : List V → Hp → Prop}, Rvw K H F vw σ S → Gd H F (fadd T S) →
    O.p ((evO os vw).bind f) H F (fadd T S) →
    (∀ ods vw' vs H' F' S1 S2, Ros K H' F' σ ods vs S1 → Rvw K H' F' vw' σ S2 → Gd H' F' (fadd T (fadd S1 S2)) → Kp H F H' F' T → O.p (f ods vw') H' F' (fadd T (fadd S1 S2)) → Q' vs H') → tOs K os W σ H Q'
  | [], H, F, vw, S, T, f, Q', hv, g, h, k => by
    refine k [] vw [] H F f0 S ⟨rfl, fun _ => rfl⟩ hv (by rw [fz_add]; exact g) ⟨fun a o e _ _ => e, fun a z => z⟩ (by rw [fz_add]; exact h)
  | .v n :: os, H, F, vw, S, T, f, Q', hv, g, h, k => by
    unfold evO at h
    cases e : vw[n]? with
    | none => rw [e] at h; exact (O.no h).elim
    | some x =>
      cases x with
      | none => rw [e] at h; exact (O.no h).elim
      | some p =>
        rw [e] at h
        obtain ⟨v, _, _, hσ, _⟩ := hv.focus e
        refine ⟨v, hσ, ?_⟩
        rw [R.bind_assoc] at h
        exact runO O hv g h fun ods vw' vs H' F' S1 S2 a b c d q => k (.bor n :: ods) vw' (v :: vs) H' F' S1 S2 ⟨v, vs, rfl, hσ, a⟩ b c d q
  | .e i :: os, H, F, vw, S, T, f, Q', hv, g, h, k => by
    unfold evO at h
    rw [R.bind_assoc] at h
    refine run (rlE K) O hv g h fun p vw1 v H1 F1 S1 S2 a b c d q => ?_
    rw [← fadd_assoc] at c q
    rw [R.bind_assoc] at q
    refine runO O b c q fun ods vw' vs H' F' T1 T2 a' b' c' d' q' => ?_
    have kt : Kp H1 F1 H' F' T := d'.mono fun b => Nat.le_add_right _ _
    have ks : Kp H1 F1 H' F' S1 := d'.mono fun b => Nat.le_add_left _ _
    have ks1 : Rp K H' F' p v S1 := Rp.keep a ks
    have e : fadd (fadd T S1) (fadd T1 T2) = fadd T (fadd (fadd S1 T1) T2) := by rw [fadd_assoc, fadd_assoc]
    rw [e] at c' q'
    refine k (.val p :: ods) vw' (v :: vs) H' F' (fadd S1 T1) T2 ⟨v, vs, S1, T1, rfl, fun _ => rfl, ks1, a'⟩ b' c' ⟨fun x o hx z n => ?_, fun x z => d'.2 x (d.2 x z)⟩ q'
    have := d.1 x o hx z n
    refine kt.1 x o this ?_ n
    rcases z with z | z | z
    · exact .inl z
    · exact .inr (.inl (d.2 x z))
    · exact .inr (.inr z)
end Bx
set_option Elab.async false
set_option linter.all false
set_option maxRecDepth 100000
set_option maxHeartbeats 4000000
/-! L2a: operations by values: OpS, iOp; constants and names; truth; tests. -/
namespace Bx
open PySem PySem.Spec PyProof.Rows L2
variable [Tbs]
/-- each value stands for its tree, whoever owns it -/
def Rq (K : PySem.W.Frag) (H : Hp) (F : Fz) : List PV → List V → Prop
  | [], vs => vs = []
  | p :: ps, vs => ∃ v vs', vs = v :: vs' ∧ (∃ S, Rp K H F p v S) ∧ Rq K H F ps vs'
def res (vw : Vw) : Od → Option PV
  | .val p => some p
  | .bor n => match vw[n]? with
    | some (some p) => some p
    | _ => none
def resAll (vw : Vw) : List Od → Option (List PV)
  | [] => some []
  | o :: os => match res vw o with
    | none => none
    | some p => match resAll vw os with
      | none => none
      | some ps => some (p :: ps)
theorem Ros.rq {K : PySem.W.Frag} {H : Hp} {F : Fz} {σ : St} {vw : Vw} {S2 : Fp} (hv : Rvw K H F vw σ S2) : ∀ {os : List Od} {vs : List V} {S : Fp} {ps : List PV}, Ros K H F σ os vs S → resAll vw os = some ps → Rq K H F ps vs
  | [], _, _, _, h, e => by
    simp only [resAll, Option.some.injEq] at e
    subst e
    exact h.1
  | .val p :: os, _, _, ps, h, e => by
    obtain ⟨v, vs', S1, S2, ev, _, h1, h2⟩ := h
    simp only [resAll, res] at e
    cases e2 : resAll vw os with
    | none => rw [e2] at e; cases e
    | some qs =>
      rw [e2] at e
      cases e
      exact ⟨v, vs', ev, ⟨S1, h1⟩, Ros.rq hv h2 e2⟩
  | .bor n :: os, _, _, ps, h, e => by
    obtain ⟨v, vs', ev, hσ, h2⟩ := h
    simp only [resAll, res] at e
    cases e1 : vw[n]? with
    | none => rw [e1] at e; cases e
    | some x =>
      cases x with
      | none => rw [e1] at e; cases e
      | some p =>
        rw [e1] at e
        simp only at e
        cases e2 : resAll vw os with
        | none => rw [e2] at e; cases e
        | some qs =>
          rw [e2] at e
          cases e
          obtain ⟨v', S1, _, hσ', _, r, _⟩ := hv.focus e1
          rw [hσ] at hσ'
          cases hσ'
          exact ⟨v, vs', ev, ⟨S1, r⟩, Ros.rq hv h2 e2⟩
/-- an operation by values: what it asks, what it makes -/
def OpS (X : Cx) (r : List V → Hp → VK → Prop) (f : List PV → Option PV) : Prop :=
  ∀ (ps : List PV) (vs : List V) (p : PV) (H : Hp) (F : Fz) (Q : VK), Rq X.K H F ps vs → f ps = some p →
    (∀ v H' S', Same H H' → Rp X.K H' F p v S' → (∀ b, 0 < S' b → H b = none ∧ Mut (H' b)) → (∀ b, S' b ≤ 1) → Q v H') → r vs H Q
def iOp (f : List PV → Option PV) (os : List Opd) : IE := fun vw => (evO os vw).bind fun ods vw' => match resAll vw' ods with
  | none => .no
  | some ps => match f ps with
    | none => .no
    | some p => .ok p vw'
theorem same_kp {H H' : Hp} {F : Fz} {S : Fp} (e : Same H H') : Kp H F H' F S := ⟨fun a o h _ _ => e a o h, fun _ h => h⟩
theorem tabs_same {H H' : Hp} (e : Same H H') (t : LamX.Tabs Tbs.l H) : LamX.Tabs Tbs.l H' := t.ext e
theorem nfre_same {H H' : Hp} (e : Same H H') {a : Addr} (h : ¬ Fre H a) : ¬ Fre H' a := fun z => by
  cases q : H a with
  | none => exact h (.inl q)
  | some o =>
    obtain ⟨ps, rfl⟩ := z.eq (e a o q)
    exact h (.inr ⟨ps, q⟩)
theorem iop_ok {X : Cx} {W : WX} {σ : St} {H : Hp} {Q : VK} {r : List V → Hp → VK → Prop} {f : List PV → Option PV} {os : List Opd} (ho : OpS X r f) (h : tE X.K (iOp f os) W σ H Q) : tOs X.K os W σ H (fun vs H' => r vs H' Q) := by
  obtain ⟨F, vw, S, hv, g, h⟩ := h
  refine runO (T := f0) (oblX (rlE X.K) X.K σ W Q) hv (gd_zero g) (by rw [fz_add]; exact h) fun ods vw' vs H' F' S1 S2 a b c _ q => ?_
  rw [fz_add] at c q
  have q' : Po (rlE X.K) X.K σ W Q (match resAll vw' ods with
    | none => .no
    | some ps => match f ps with
      | none => .no
      | some p => .ok p vw') H' F' (fadd S1 S2) := q
  cases e1 : resAll vw' ods with
  | none => rw [e1] at q'; exact q'.elim
  | some ps =>
    rw [e1] at q'
    simp only at q'
    cases e2 : f ps with
    | none => rw [e2] at q'; exact q'.elim
    | some p =>
      rw [e2] at q'
      refine ho ps vs p H' F' Q (Ros.rq b a e1) e2 fun v H2 S' sm rp fr le => ?_
      have old : ∀ x, 0 < fadd S1 S2 x → S' x = 0 := fun x hx => by
        cases Nat.eq_zero_or_pos (S' x) with
        | inl z => exact z
        | inr z => exact absurd (fr x z).1 (c.ne hx)
      refine q' v H2 F' S' S2 rp (b.keep (same_kp sm)) ⟨fun x => ?_, fun x hx => ?_, fun x hx => ?_, fun x hx => ?_, tabs_same sm c.tb⟩ ⟨fun x o e _ _ => sm x o e, fun x hx => ?_, fun _ z => z, fun _ z => .inl z⟩
      · show S' x + S2 x ≤ 1
        cases Nat.eq_zero_or_pos (S2 x) with
        | inl z => rw [z]; exact le x
        | inr z =>
          have l : S1 x + S2 x ≤ 1 := c.le x
          rw [old x (show 0 < S1 x + S2 x by omega)]; omega
      · have hx' : 0 < S' x + S2 x := hx
        cases Nat.eq_zero_or_pos (S2 x) with
        | inl z =>
          have := (fr x (by omega)).1
          exact fun w => c.fr x w (.inl this)
        | inr z => exact c.nf x (show 0 < S1 x + S2 x by omega)
      · have hx' : 0 < S' x + S2 x := hx
        cases Nat.eq_zero_or_pos (S2 x) with
        | inl z => exact (fr x (by omega)).2
        | inr z =>
          have m := c.mu x (show 0 < S1 x + S2 x by omega)
          obtain ⟨o, e⟩ := Mut.some m
          rw [sm x o e, ← e]
          exact m
      · exact nfre_same sm (c.fr x hx)
      · have hx' : 0 < S' x + S2 x := hx
        cases Nat.eq_zero_or_pos (S2 x) with
        | inl z => exact .inr (.inl (fr x (by omega)).1)
        | inr z => exact .inl (show 0 < S1 x + S2 x by omega)
def r2l (r : R2) : List V → Hp → VK → Prop := fun vs H Q => match vs with
  | [x, y] => r x y H Q
  | _ => False
def r1l (r : V → Hp → VK → Prop) : List V → Hp → VK → Prop := fun vs H Q => match vs with
  | [x] => r x H Q
  | _ => False
/-! ### constants and names -/
def iC (p : PV) : IE := fun vw => .ok p vw
theorem se_of {X : Cx} {e : Expr} {v : V} {p : PV} (h : PE X e (tC v)) (r : ∀ H F, Rp X.K H F p v f0) : SE X e (iC p) := fun W tk => h.imp fun σ H Q ⟨F, vw, S, hv, g, q⟩ =>
  q v H F f0 S (r H F) hv (gd_zero g) (by rw [fz_add]; exact Step.refl)
section
variable {X : Cx} {e : Expr} {pos : Pos}
theorem se_int {i j} : SE X (.Constant (.int i) j pos) (iC (.int i)) := se_of pe_int fun _ _ => ⟨rfl, fun _ => rfl⟩
theorem se_bl {b j} : SE X (.Constant (.bool b) j pos) (iC (.bl b)) := se_of pe_bl fun _ _ => ⟨rfl, fun _ => rfl⟩
theorem se_non {j} : SE X (.Constant .none j pos) (iC .non) := se_of pe_non fun _ _ => ⟨rfl, fun _ => rfl⟩
theorem se_str {x j} (h : PyData.strOk x = true := by decide +kernel) : SE X (.Constant (.str x) j pos) (iC (.str x)) := se_of pe_str fun _ _ => ⟨rfl, h, fun _ => rfl⟩
/-- a name's value as a value of its own: from here on nobody may change what it owns -/
def iVar (n : Nat) : IE := fun vw => match vw[n]? with
  | some (some p) => if p.pure = true then .ok p vw else .ok p.shr (vw.set n (some p.shr))
  | _ => .no
theorem se_v {x : Str} (n : Nat) (hN : X.N[n]? = some x := by rfl) (hv : Vis X.env.scope x := by first | exact Or.inl rfl | exact Or.inr (Or.inl rfl) | exact Or.inr (Or.inr rfl)) (hd : (x == ("__debug__" : Str)) = false := by decide)
    (hcd : (x == ("__classdict__" : Str)) = false := by decide) : SE X (.Name x pos) (iVar n) := fun W tk => (pe_var hN hv hd hcd).imp fun σ H Q ⟨F, vw, S, hv, g, q⟩ => by
  unfold iVar at q
  cases e : vw[n]? with
  | none => rw [e] at q; exact q.elim
  | some x =>
    cases x with
    | none => rw [e] at q; exact q.elim
    | some p =>
      rw [e] at q
      obtain ⟨v, S1, S2, hσ, es, r, h2⟩ := hv.focus e
      refine ⟨v, hσ, ?_⟩
      cases hp : p.pure with
      | true =>
        have q' : Po (rlE X.K) X.K σ W Q (if p.pure = true then .ok p vw else .ok p.shr (vw.set n (some p.shr))) H F S := q
        rw [if_pos hp] at q'
        exact q' v H F f0 S (r.congr (r.zero hp)) hv (gd_zero g) (by rw [fz_add]; exact Step.refl)
      | false =>
        have q' : Po (rlE X.K) X.K σ W Q (if p.pure = true then .ok p vw else .ok p.shr (vw.set n (some p.shr))) H F S := q
        rw [if_neg (by rw [hp]; exact Bool.false_ne_true)] at q'
        have hn : n < vw.length := by
          have := List.getElem?_eq_some_iff.mp e
          exact this.1
        have rz : Rp X.K H (fun a => F a ∨ 0 < S1 a) p.shr v f0 := r.frz _ (fun _ z => .inl z) (fun _ z => .inr z)
        have kp : Kp H F H (fun a => F a ∨ 0 < S1 a) S2 := ⟨fun a o e _ _ => e, fun _ z => .inl z⟩
        have h3 := h2.keep kp
        have h4 := h3.put (List.getElem?_set_self hn) hσ rz
        rw [List.set_set, fz_add] at h4
        have l2 : ∀ b, S2 b ≤ S b := fun b => by rw [es b]; exact Nat.le_add_left _ _
        refine q' v H _ f0 S2 rz h4 (gd_zero ⟨fun a => Nat.le_trans (l2 a) (g.le a), fun a z w => ?_, fun a z => g.mu a (Nat.lt_of_lt_of_le z (l2 a)), fun a z => ?_, g.tb⟩) (by
          rw [fz_add]
          refine ⟨fun _ _ e _ _ => e, fun a z => .inl (Nat.lt_of_lt_of_le z (l2 a)), fun _ z => .inl z, fun a z => ?_⟩
          rcases z with z | z
          · exact .inl z
          · exact .inr (.inl (by rw [es a]; omega)))
        · rcases w with w | w
          · exact g.nf a (Nat.lt_of_lt_of_le z (l2 a)) w
          · have := g.le a
            rw [es a] at this
            omega
        · rcases z with z | z
          · exact g.fr a z
          · exact g.nfre (by rw [es a]; omega)
end
/-! ### truth, tests -/
def truth : PV → Option Bool
  | .non => some false
  | .bl b => some b
  | .int i => some (i != 0)
  | .str y => if y.length ≤ sizeLine then some ((y.length : Int) != 0) else none
  | .nd .tup _ xs => some (!xs.isEmpty)
  | .nd .lst _ xs => some (!xs.isEmpty)
  | .nd .frl _ xs => some (!xs.isEmpty)
  | .nd (.dk ks) true _ => some (!ks.isEmpty)
  | _ => none
theorem isEmpty_len {α β : Type} {xs : List α} {ys : List β} (h : xs.length = ys.length) : xs.isEmpty = ys.isEmpty := by
  cases xs <;> cases ys <;> first | rfl | (simp at h)
theorem truth_ok {K : PySem.W.Frag} {H : Hp} {F : Fz} {p : PV} {v : V} {S : Fp} {k : Bool} (r : Rp K H F p v S) (e : truth p = some k) : TruV K v H k := by
  cases p with
  | non => obtain ⟨rfl, _⟩ := r; cases e; rfl
  | bl b => obtain ⟨rfl, _⟩ := r; cases e; rfl
  | int i => obtain ⟨rfl, _⟩ := r; cases e; rfl
  | str y =>
    obtain ⟨rfl, _, _⟩ := r
    have e' : (if y.length ≤ sizeLine then some ((y.length : Int) != 0) else none) = some k := e
    by_cases h : y.length ≤ sizeLine
    · rw [if_pos h] at e'; cases e'; exact ⟨h, rfl⟩
    · rw [if_neg h] at e'; cases e'
  | ty n => cases e
  | ref a => cases e
  | nd kd o xs =>
    obtain ⟨a, vs, S', rfl, hh, hs, _⟩ := r
    have hl := hs.length
    cases kd with
    | tup => cases e; exact .inr (.inl ⟨vs, SqT.of hh, by rw [isEmpty_len hl]⟩)
    | lst => cases e; exact .inl ⟨vs, SqL.of hh, by rw [isEmpty_len hl]⟩
    | frl => cases e; exact .inl ⟨vs, FrL.sq hh, by rw [isEmpty_len hl]⟩
    | dk ks =>
      cases o with
      | true =>
        cases e
        obtain ⟨h1, h2⟩ := hh
        refine .inr (.inr ⟨_, h2, ?_⟩)
        have : (ks.zip vs).length = ks.length := by rw [List.length_zip, h1, Nat.min_self]
        rw [isEmpty_len this]
      | false => cases e
    | dt ks => cases e
    | ins C ns => cases e
    | xc x ns => cases e
def iTr (os : List Opd) : IT := fun vw => (evO os vw).bind fun ods vw' => match resAll vw' ods with
  | some [p] => match truth p with
    | some k => .ok k vw'
    | none => .no
  | _ => .no
theorem itr_ok {X : Cx} {W : WX} {σ : St} {H : Hp} {Q : Bool → Hp → Prop} {o : Opd} (h : tT X.K (iTr [o]) W σ H Q) : tO X.K o W σ H (fun x H' => ∃ k, TruV X.K x H' k ∧ Q k H') := by
  obtain ⟨F, vw, S, hv, g, h⟩ := h
  have := runO (T := f0) (os := [o]) (Q' := fun vs H' => ∃ x, vs = [x] ∧ ∃ k, TruV X.K x H' k ∧ Q k H') (oblX rlT X.K σ W Q) hv (gd_zero g) (by rw [fz_add]; exact h) fun ods vw' vs H' F' S1 S2 a b c _ q => by
    rw [fz_add] at c q
    have q' : Po rlT X.K σ W Q (match resAll vw' ods with
      | some [p] => match truth p with
        | some k => .ok k vw'
        | none => .no
      | _ => .no) H' F' (fadd S1 S2) := q
    cases e1 : resAll vw' ods with
    | none => rw [e1] at q'; exact q'.elim
    | some ps =>
      rw [e1] at q'
      have rq := Ros.rq b a e1
      match ps, rq, q' with
      | [], _, q' => exact q'.elim
      | _ :: _ :: _, _, q' => exact q'.elim
      | [p], ⟨v, vs', ev, ⟨S3, r⟩, e3⟩, q' =>
        have e3' : vs' = [] := e3
        subst e3'
        simp only at q'
        cases e2 : truth p with
        | none => rw [e2] at q'; exact q'.elim
        | some k =>
          rw [e2] at q'
          exact ⟨v, ev, k, truth_ok r e2, q' k H' F' f0 S2 ⟨rfl, fun _ => rfl⟩ b (gd_zero (c.sub fun x => Nat.le_add_left _ _)) (by rw [fz_add]; exact Step.refl.sub fun x => Nat.le_add_left _ _)⟩
  have t2 : tO X.K o W σ H (fun x H1 => ∃ x', [x] = [x'] ∧ ∃ k, TruV X.K x' H1 k ∧ Q k H1) := this
  cases o with
  | v n =>
    obtain ⟨v, e, x', ex, k, t, q⟩ := t2
    cases ex
    exact ⟨v, e, k, t, q⟩
  | e i =>
    refine tX.imp t2 fun v H' ⟨x', ex, k, t, q⟩ => ?_
    cases ex
    exact ⟨k, t, q⟩
/-- a bool as a test -/
def iB (i : IE) : IT := fun vw => (i vw).bind fun p vw' => match p with
  | .bl k => .ok k vw'
  | _ => .no
theorem ib_ok {X : Cx} {W : WX} {σ : St} {H : Hp} {Q : Bool → Hp → Prop} {i : IE} (h : tT X.K (iB i) W σ H Q) : tE X.K i W σ H (fun x H' => ∃ k, x = .bl k ∧ Q k H') := by
  obtain ⟨F, vw, S, hv, g, h⟩ := h
  refine run (T := f0) (rlE X.K) (oblX rlT X.K σ W Q) hv (gd_zero g) (by rw [fz_add]; exact h) fun p vw' v H' F' S1 S2 a b c _ q => ?_
  rw [fz_add] at c q
  cases p with
  | bl k =>
    obtain ⟨rfl, z⟩ := a
    have q' : Po rlT X.K σ W Q (.ok k vw') H' F' (fadd S1 S2) := q
    rw [f0_eq z, fz_add] at c q'
    exact ⟨k, rfl, q' k H' F' f0 S2 ⟨rfl, fun _ => rfl⟩ b (gd_zero c) (by rw [fz_add]; exact Step.refl)⟩
  | _ => exact False.elim q
section
variable {X : Cx} {a b c e : Expr} {oa ob oc : Opd} {pos : Pos}
theorem so_pe {o : Opd} (h : SO X e o) {W : WX} (tk : Takes X W) : PE X e (tO X.K o W) := h W tk
/-- any expression as a test -/
theorem st_tr {o : Opd} (h : SO X e o) (he : ∀ whole, isTrue e X.env whole = (do let v ← whole; standAt e.pos; holding [v] (truthy v)) := by intro _; rfl) : ST X e (iTr [o]) := fun W tk =>
  (pt_truth (h W tk) he).imp fun σ H Q q => itr_ok q
theorem se_bin {op : Operator} {r : R2} {f : List PV → Option PV} (ho : OpR X (binaryOp op) r) (hf : OpS X (r2l r) f) (ha : SO X a oa) (hb : SO X b ob) : SE X (.BinOp a op b pos) (iOp f [oa, ob]) := fun W tk =>
  (pe_op ho (ha W tk) (hb W tk)).imp fun σ H Q q => iop_ok hf q
theorem se_un {op : UnaryOp} {r : V → Hp → VK → Prop} {f : List PV → Option PV} (ho : UnR X (unaryOp op) r) (hf : OpS X (r1l r) f) (ha : SO X a oa) : SE X (.UnaryOp op a pos) (iOp f [oa]) := fun W tk =>
  (pe_un ho (ha W tk)).imp fun σ H Q q => iop_ok hf q
theorem se_cmp {op : CmpOp} {r : R2} {f : List PV → Option PV} (ho : OpR X (compareOp op) r) (hf : OpS X (r2l r) f) (ha : SO X a oa) (hb : SO X b ob) (hm : behindInMarks op b = false := by rfl) : SE X (.Compare a [op] [b] pos) (iOp f [oa, ob]) := fun W tk =>
  (pe_cmpR ho (ha W tk) (hb W tk) hm).imp fun σ H Q q => iop_ok hf q
theorem st_cmp {op : CmpOp} {r : R2} {f : List PV → Option PV} (ho : OpR X (compareOp op) r) (hf : OpS X (r2l r) f) (ha : SO X a oa) (hb : SO X b ob) (hm : behindInMarks op b = false := by rfl) : ST X (.Compare a [op] [b] pos) (iB (iOp f [oa, ob])) := fun W tk =>
  (pt_cmpR ho (ha W tk) (hb W tk) hm).imp fun σ H Q q => iop_ok (os := [oa, ob]) hf (ib_ok q)
def iNotT (t : IT) : IT := fun vw => (t vw).bind fun k vw' => .ok (!k) vw'
def iAndT (s t : IT) : IT := fun vw => (s vw).bind fun k vw' => if k = true then t vw' else .ok false vw'
def iOrT (s t : IT) : IT := fun vw => (s vw).bind fun k vw' => if k = true then .ok true vw' else t vw'
theorem runT {γ : Type} {W : WX} {σ : St} {H : Hp} {F : Fz} {vw : Vw} {S : Fp} {t : IT} {f : Bool → Vw → R γ} (O : Obl X.K W σ γ) {Q' : Bool → Hp → Prop} (hv : Rvw X.K H F vw σ S) (g : Gd H F S) (h : O.p ((t vw).bind f) H F S)
    (k : ∀ b vw' H' F' S2, Rvw X.K H' F' vw' σ S2 → Gd H' F' S2 → O.p (f b vw') H' F' S2 → Q' b H') : tT X.K t W σ H Q' := by
  refine run (T := f0) rlT O hv (gd_zero g) (by rw [fz_add]; exact h) fun p vw' v H' F' S1 S2 a b c _ q => ?_
  obtain ⟨e1, e2⟩ := a
  subst e1
  rw [fz_add, f0_eq e2, fz_add] at c q
  exact k p vw' H' F' S2 b c q
theorem st_not {t : IT} (h : ST X a t) : ST X (.UnaryOp .Not a pos) (iNotT t) := fun W tk => (pt_not (h W tk)).imp fun σ H Q ⟨F, vw, S, hv, g, h⟩ =>
  runT (oblX rlT X.K σ W Q) hv g h fun b vw' H' F' S2 a c q => by
    have q' : Po rlT X.K σ W Q (.ok (!b) vw') H' F' S2 := q
    exact q' (!b) H' F' f0 S2 ⟨rfl, fun _ => rfl⟩ a (gd_zero c) (by rw [fz_add]; exact Step.refl)
theorem sw_st {t : IT} (h : SW X a t) : ST X a t := fun W tk => (h W tk).pt
theorem sw_and1 {t : IT} (h : ST X a t) : SW X (.BoolOp .And [a] pos) t := fun W tk => pw_and1 (h W tk)
theorem sw_or1 {t : IT} (h : ST X a t) : SW X (.BoolOp .Or [a] pos) t := fun W tk => pw_or1 (h W tk)
theorem po_true {W : WX} {σ : St} {Q : Bool → Hp → Prop} {k : Bool} {vw' : Vw} {H' : Hp} {F' : Fz} {S2 : Fp} (a : Rvw X.K H' F' vw' σ S2) (c : Gd H' F' S2) (q : Po rlT X.K σ W Q (.ok k vw') H' F' S2) : Q k H' :=
  q k H' F' f0 S2 ⟨rfl, fun _ => rfl⟩ a (gd_zero c) (by rw [fz_add]; exact Step.refl)
theorem sw_and {s t : IT} {rest : List Expr} (ha : ST X a s) (hb : SW X (.BoolOp .And (b :: rest) pos) t) : SW X (.BoolOp .And (a :: b :: rest) pos) (iAndT s t) := fun W tk => (pw_and (ha W tk) (hb W tk)).imp fun σ H Q ⟨F, vw, S, hv, g, h⟩ =>
  runT (oblX rlT X.K σ W Q) hv g h fun k vw' H' F' S2 a c q => by
    cases k with
    | true =>
      show if true = true then tT X.K t W σ H' Q else _
      rw [if_pos rfl]
      exact ⟨F', vw', S2, a, c, q⟩
    | false =>
      have q' : Po rlT X.K σ W Q (.ok false vw') H' F' S2 := q
      show if false = true then _ else Q false H'
      rw [if_neg Bool.false_ne_true]
      exact po_true a c q'
theorem sw_or {s t : IT} {rest : List Expr} (ha : ST X a s) (hb : SW X (.BoolOp .Or (b :: rest) pos) t) : SW X (.BoolOp .Or (a :: b :: rest) pos) (iOrT s t) := fun W tk => (pw_or (ha W tk) (hb W tk)).imp fun σ H Q ⟨F, vw, S, hv, g, h⟩ =>
  runT (oblX rlT X.K σ W Q) hv g h fun k vw' H' F' S2 a c q => by
    cases k with
    | true =>
      have q' : Po rlT X.K σ W Q (.ok true vw') H' F' S2 := q
      show if true = true then Q true H' else _
      rw [if_pos rfl]
      exact po_true a c q'
    | false =>
      show if false = true then _ else tT X.K t W σ H' Q
      rw [if_neg Bool.false_ne_true]
      exact ⟨F', vw', S2, a, c, q⟩
/-! ### and, or, not, if as values -/
def iIf (c : IT) (a b : IE) : IE := fun vw => (c vw).bind fun k vw' => if k = true then a vw' else b vw'
theorem se_if {t : IT} {ia ib : IE} (hc : ST X c t) (ha : SE X a ia) (hb : SE X b ib) : SE X (.IfExp c a b pos) (iIf t ia ib) := fun W tk => (pe_ifExp (hc W tk) (ha W tk) (hb W tk)).imp fun σ H Q ⟨F, vw, S, hv, g, h⟩ =>
  runT (oblX (rlE X.K) X.K σ W Q) hv g h fun k vw' H' F' S2 x y q => by
    cases k with
    | true =>
      show if true = true then tE X.K ia W σ H' Q else _
      rw [if_pos rfl]
      exact ⟨F', vw', S2, x, y, q⟩
    | false =>
      show if false = true then _ else tE X.K ib W σ H' Q
      rw [if_neg Bool.false_ne_true]
      exact ⟨F', vw', S2, x, y, q⟩
/-- e and rest: e's value where it is false -/
def iAndE (i j : IE) : IE := fun vw => (i vw).bind fun p vw' => match truth p with
  | some true => j vw'
  | some false => .ok p vw'
  | none => .no
def iOrE (i j : IE) : IE := fun vw => (i vw).bind fun p vw' => match truth p with
  | some true => .ok p vw'
  | some false => j vw'
  | none => .no
theorem se_one {op} {i : IE} (h : SE X a i) : SE X (.BoolOp op [a] pos) i := fun W tk => pe_one (h W tk)
theorem se_and {i j : IE} {rest : List Expr} (ha : SE X a i) (hb : SE X (.BoolOp .And (b :: rest) pos) j) : SE X (.BoolOp .And (a :: b :: rest) pos) (iAndE i j) := fun W tk => (pe_andT (ha W tk) (hb W tk)).imp fun σ H Q ⟨F, vw, S, hv, g, h⟩ => by
  refine run (T := f0) (rlE X.K) (oblX (rlE X.K) X.K σ W Q) hv (gd_zero g) (by rw [fz_add]; exact h) fun p vw' v H' F' S1 S2 x y z _ q => ?_
  rw [fz_add] at z q
  have q' : Po (rlE X.K) X.K σ W Q (match truth p with
    | some true => j vw'
    | some false => .ok p vw'
    | none => .no) H' F' (fadd S1 S2) := q
  cases e : truth p with
  | none => rw [e] at q'; exact q'.elim
  | some k =>
    rw [e] at q'
    refine ⟨k, truth_ok x e, ?_⟩
    cases k with
    | true =>
      show if true = true then tE X.K j W σ H' Q else _
      rw [if_pos rfl]
      exact ⟨F', vw', S2, y, z.sub fun _ => Nat.le_add_left _ _, (oblX (rlE X.K) X.K σ W Q).stp (Step.refl.sub fun _ => Nat.le_add_left _ _) q'⟩
    | false =>
      show if false = true then _ else Q v H'
      rw [if_neg Bool.false_ne_true]
      exact q' v H' F' S1 S2 x y z Step.refl
theorem se_or {i j : IE} {rest : List Expr} (ha : SE X a i) (hb : SE X (.BoolOp .Or (b :: rest) pos) j) : SE X (.BoolOp .Or (a :: b :: rest) pos) (iOrE i j) := fun W tk => (pe_orT (ha W tk) (hb W tk)).imp fun σ H Q ⟨F, vw, S, hv, g, h⟩ => by
  refine run (T := f0) (rlE X.K) (oblX (rlE X.K) X.K σ W Q) hv (gd_zero g) (by rw [fz_add]; exact h) fun p vw' v H' F' S1 S2 x y z _ q => ?_
  rw [fz_add] at z q
  have q' : Po (rlE X.K) X.K σ W Q (match truth p with
    | some true => .ok p vw'
    | some false => j vw'
    | none => .no) H' F' (fadd S1 S2) := q
  cases e : truth p with
  | none => rw [e] at q'; exact q'.elim
  | some k =>
    rw [e] at q'
    refine ⟨k, truth_ok x e, ?_⟩
    cases k with
    | true =>
      show if true = true then Q v H' else _
      rw [if_pos rfl]
      exact q' v H' F' S1 S2 x y z Step.refl
    | false =>
      show if false = true then _ else tE X.K j W σ H' Q
      rw [if_neg Bool.false_ne_true]
      exact ⟨F', vw', S2, y, z.sub fun _ => Nat.le_add_left _ _, (oblX (rlE X.K) X.K σ W Q).stp (Step.refl.sub fun _ => Nat.le_add_left _ _) q'⟩
def iNotE (o : Opd) : IE := fun vw => (iTr [o] vw).bind fun k vw' => .ok (.bl (!k)) vw'
theorem se_not {o : Opd} (h : SO X a o) : SE X (.UnaryOp .Not a pos) (iNotE o) := fun W tk => (pe_notT (h W tk)).imp fun σ H Q ⟨F, vw, S, hv, g, h⟩ => by
  refine itr_ok (W := W) (Q := fun k H' => Q (.bl (!k)) H') (runT (oblX (rlE X.K) X.K σ W Q) hv g h fun k vw' H' F' S2 x y q => ?_)
  have q' : Po (rlE X.K) X.K σ W Q (.ok (.bl (!k)) vw') H' F' S2 := q
  exact q' (.bl (!k)) H' F' f0 S2 ⟨rfl, fun _ => rfl⟩ x (gd_zero y) (by rw [fz_add]; exact Step.refl)
end
end Bx
set_option Elab.async false
set_option linter.all false
set_option maxRecDepth 100000
set_option maxHeartbeats 4000000
/-! L2b: the operations on plain values. -/
namespace Bx
open PySem PySem.Spec PyProof.Rows L2
variable [Tbs]
abbrev T (xs : List PV) : PV := .nd .tup false xs
abbrev L (xs : List PV) : PV := .nd .lst true xs
/-! ### what follows an operation -/
section
variable {K : PySem.W.Frag} {H : Hp} {F : Fz} {Q : VK} {p : PV} {v : V}
abbrev Kont (K : PySem.W.Frag) (H : Hp) (F : Fz) (Q : VK) (p : PV) : Prop := ∀ v H' S', Same H H' → Rp K H' F p v S' → (∀ b, 0 < S' b → H b = none ∧ Mut (H' b)) → (∀ b, S' b ≤ 1) → Q v H'
theorem k0 (k : Kont K H F Q p) (r : Rp K H F p v f0) : Q v H := k v H f0 (Same.refl H) r (fun _ z => absurd z (by show ¬ 0 < 0; omega)) fun _ => Nat.zero_le _
theorem kint {i : Int} (k : Kont K H F Q (.int i)) : Q (.int i) H := k0 k ⟨rfl, fun _ => rfl⟩
theorem kbl {i : Bool} (k : Kont K H F Q (.bl i)) : Q (.bl i) H := k0 k ⟨rfl, fun _ => rfl⟩
theorem kstr {i : Str} (k : Kont K H F Q (.str i)) (h : PyData.strOk i = true) : Q (.str i) H := k0 k ⟨rfl, h, fun _ => rfl⟩
theorem knon (k : Kont K H F Q .non) : Q .non H := k0 k ⟨rfl, fun _ => rfl⟩
theorem same_upd {q : Addr} {o : HO} (h : H q = none) : Same H (upd H q o) := fun b u e => by
  rw [upd_ne (ne_of_none e h)]; exact e
theorem rps_zero {xs : List PV} {vs : List V} {S : Fp} (r : Rps K H F xs vs S) (hp : pures xs = true) : Rps K H F xs vs f0 := r.congr (r.zero hp)
theorem rp_zero {x : PV} {v : V} {S : Fp} (r : Rp K H F x v S) (hp : x.pure = true) : Rp K H F x v f0 := r.congr (r.zero hp)
/-- a new tuple, a new list of pure items -/
theorem ktup {xs : List PV} {vs : List V} {q : Addr} {S : Fp} (k : Kont K H F Q (T xs)) (hq : H q = none) (r : Rps K H F xs vs S) (hp : pures xs = true) : Q (.ref q) (upd H q (.tup vs)) :=
  k _ _ f0 (same_upd hq) ⟨q, vs, f0, rfl, upd_same, (rps_zero r hp).keep (same_kp (same_upd hq)), fun _ => rfl⟩ (fun _ z => absurd z (by show ¬ 0 < 0; omega)) fun _ => Nat.zero_le _
def one (q : Addr) : Fp := fun b => if b = q then 1 else 0
theorem one_le {q : Addr} (b : Addr) : one q b ≤ 1 := by unfold one; split <;> omega
theorem one_pos {q b : Addr} (h : 0 < one q b) : b = q := by
  unfold one at h
  by_cases e : b = q
  · exact e
  · rw [if_neg e] at h; omega
theorem klst {xs : List PV} {vs : List V} {q : Addr} {S : Fp} (k : Kont K H F Q (L xs)) (hq : H q = none) (r : Rps K H F xs vs S) (hp : pures xs = true) : Q (.ref q) (upd H q (.lst vs)) :=
  k _ _ (one q) (same_upd hq) ⟨q, vs, f0, rfl, upd_same, (rps_zero r hp).keep (same_kp (same_upd hq)), fun b => rfl⟩ (fun b z => by
    have := one_pos z
    subst this
    exact ⟨hq, by rw [upd_same]; exact True.intro⟩) one_le
theorem rq1 {ps : List PV} {vs : List V} {p : PV} (h : Rq K H F [p] vs) : ∃ v S, vs = [v] ∧ Rp K H F p v S := by
  obtain ⟨v, vs', e, ⟨S, r⟩, h2⟩ := h
  have h2' : vs' = [] := h2
  subst h2'
  exact ⟨v, S, e, r⟩
theorem rq2 {vs : List V} {p q : PV} (h : Rq K H F [p, q] vs) : ∃ v u S S', vs = [v, u] ∧ Rp K H F p v S ∧ Rp K H F q u S' := by
  obtain ⟨v, vs', e, ⟨S, r⟩, h2⟩ := h
  obtain ⟨u, S', e2, r2⟩ := rq1 (ps := []) h2
  subst e2
  exact ⟨v, u, S, S', e, r, r2⟩
theorem rq3 {vs : List V} {p q t : PV} (h : Rq K H F [p, q, t] vs) : ∃ v u w S S' S'', vs = [v, u, w] ∧ Rp K H F p v S ∧ Rp K H F q u S' ∧ Rp K H F t w S'' := by
  obtain ⟨v, vs', e, ⟨S, r⟩, h2⟩ := h
  obtain ⟨u, w, S', S'', e2, r2, r3⟩ := rq2 h2
  subst e2
  exact ⟨v, u, w, S, S', S'', e, r, r2, r3⟩
end
theorem strOk_append {x y : Str} (hx : PyData.strOk x = true) (hy : PyData.strOk y = true) : PyData.strOk (x ++ y) = true := by
  show (x.cps ++ y.cps).all _ = true
  rw [Array.all_append]
  exact Bool.and_eq_true_iff.mpr ⟨hx, hy⟩
theorem pures_append {xs ys : List PV} (hx : pures xs = true) (hy : pures ys = true) : pures (xs ++ ys) = true := by
  induction xs with
  | nil => exact hy
  | cons x xs ih =>
    rw [pures, Bool.and_eq_true] at hx
    rw [List.cons_append, pures, hx.1, ih hx.2]; rfl
theorem Rps.append {K : PySem.W.Frag} {H : Hp} {F : Fz} : ∀ {xs ys : List PV} {vs us : List V} {S S' : Fp}, Rps K H F xs vs S → Rps K H F ys us S' → Rps K H F (xs ++ ys) (vs ++ us) (fadd S S')
  | [], _, _, _, _, _, h, h' => by
    obtain ⟨e, z⟩ := h
    subst e
    rw [f0_eq z, fz_add]
    exact h'
  | x :: xs, _, _, _, S, S', h, h' => by
    obtain ⟨v, vs', S1, S2, e, es, h1, h2⟩ := h
    subst e
    refine ⟨v, _, S1, _, rfl, fun b => ?_, h1, Rps.append h2 h'⟩
    show S b + S' b = S1 b + (S2 b + S' b)
    rw [es b]; omega
/-! ### plus -/
def opAdd : List PV → Option PV
  | [.int i, .int j] => some (.int (i + j))
  | [.str x, .str y] => if x.length + y.length ≤ sizeLine then some (.str (x ++ y)) else none
  | [.nd .tup _ xs, .nd .tup _ ys] => if pures xs = true ∧ pures ys = true ∧ xs.length + ys.length ≤ sizeLine then some (T (xs ++ ys)) else none
  | [.nd .lst _ xs, .nd .lst _ ys] => if pures xs = true ∧ pures ys = true ∧ xs.length + ys.length ≤ sizeLine then some (L (xs ++ ys)) else none
  | _ => none
def rAddAll (K : PySem.W.Frag) : R2 := fun x y H Q => (∃ i j, x = .int i ∧ y = .int j ∧ Q (.int (i + j)) H) ∨ (∃ i j, x = .str i ∧ y = .str j ∧ i.length + j.length ≤ sizeLine ∧ Q (.str (i ++ j)) H) ∨ rCatA K x y H Q ∨ rCat x y H Q
theorem or_addAll {X : Cx} : OpR X (binaryOp .Add) (rAddAll X.K) := OpR.or op_add (OpR.or op_add_str (OpR.or op_catA op_cat))
theorem os_add {X : Cx} : OpS X (r2l (rAddAll X.K)) opAdd := by
  intro ps vs p H F Q rq e k
  unfold opAdd at e
  split at e
  · cases e
    obtain ⟨v, u, S, S', rfl, ⟨rfl, _⟩, rfl, _⟩ := rq2 rq
    exact .inl ⟨_, _, rfl, rfl, kint k⟩
  · split at e
    · cases e
      obtain ⟨v, u, S, S', rfl, ⟨rfl, h1, _⟩, rfl, h2, _⟩ := rq2 rq
      exact .inr (.inl ⟨_, _, rfl, rfl, by assumption, kstr k (strOk_append h1 h2)⟩)
    · cases e
  · rename_i o1 xs o2 ys
    split at e
    · rename_i hc
      cases e
      obtain ⟨v, u, S, S', rfl, ⟨a, as, Sa, rfl, ha, ra, oa⟩, b, bs, Sb, rfl, hb, rb, ob⟩ := rq2 rq
      have hl1 := ra.length
      have hl2 := rb.length
      refine .inr (.inr (.inl ⟨a, b, as, bs, rfl, rfl, SqT.of ha, SqT.of hb, by omega, fun z => ?_, fun z z2 => ?_, fun z z2 q hq => ?_⟩))
      · subst z
        have : xs = [] := List.length_eq_zero_iff.mp (by simpa using hl1)
        subst this
        exact k0 k ⟨b, bs, f0, rfl, hb, rps_zero rb hc.2.1, fun _ => rfl⟩
      · subst z2
        have : ys = [] := List.length_eq_zero_iff.mp (by simpa using hl2)
        subst this
        rw [List.append_nil] at k
        exact k0 k ⟨a, as, f0, rfl, ha, rps_zero ra hc.1, fun _ => rfl⟩
      · exact ktup k hq (ra.append rb) (pures_append hc.1 hc.2.1)
    · cases e
  · split at e
    · rename_i hc
      cases e
      obtain ⟨v, u, S, S', rfl, ⟨a, as, Sa, rfl, ha, ra, oa⟩, b, bs, Sb, rfl, hb, rb, ob⟩ := rq2 rq
      have hl1 := ra.length
      have hl2 := rb.length
      exact .inr (.inr (.inr ⟨a, b, as, bs, rfl, rfl, ha, hb, by omega, fun q hq => klst k hq (ra.append rb) (pures_append hc.1 hc.2.1)⟩))
    · cases e
  · cases e
/-! ### ints -/
def opSub : List PV → Option PV
  | [.int i, .int j] => some (.int (i - j))
  | _ => none
theorem os_sub {X : Cx} : OpS X (r2l (rI0 fun i j => .int (i - j))) opSub := by
  intro ps vs p H F Q rq e k
  unfold opSub at e
  split at e
  · cases e
    obtain ⟨v, u, S, S', rfl, ⟨rfl, _⟩, rfl, _⟩ := rq2 rq
    exact ⟨_, _, rfl, rfl, kint k⟩
  · cases e
def opFdiv : List PV → Option PV
  | [.int i, .int j] => if j ≠ 0 ∧ j.natAbs < 1073741824 then some (.int (i.fdiv j)) else none
  | _ => none
theorem os_fdiv {X : Cx} : OpS X (r2l (rI CDivN fun i j => .int (i.fdiv j))) opFdiv := by
  intro ps vs p H F Q rq e k
  unfold opFdiv at e
  split at e
  · split at e
    · cases e
      obtain ⟨v, u, S, S', rfl, ⟨rfl, _⟩, rfl, _⟩ := rq2 rq
      exact ⟨_, _, rfl, rfl, by assumption, kint k⟩
    · cases e
  · cases e
def opMod : List PV → Option PV
  | [.int i, .int j] => if j ≠ 0 then some (.int (i.fmod j)) else none
  | _ => none
theorem os_mod {X : Cx} : OpS X (r2l (rI (fun _ j => j ≠ 0) fun i j => .int (i.fmod j))) opMod := by
  intro ps vs p H F Q rq e k
  unfold opMod at e
  split at e
  · split at e
    · cases e
      obtain ⟨v, u, S, S', rfl, ⟨rfl, _⟩, rfl, _⟩ := rq2 rq
      exact ⟨_, _, rfl, rfl, by assumption, kint k⟩
    · cases e
  · cases e
def opPow : List PV → Option PV
  | [.int i, .int j] => if 0 ≤ j ∧ j ≤ 1000000 ∧ i.natAbs < 2 ^ 64 then some (.int (i ^ j.toNat)) else none
  | _ => none
theorem os_pow {X : Cx} : OpS X (r2l (rI CPow fun i j => .int (i ^ j.toNat))) opPow := by
  intro ps vs p H F Q rq e k
  unfold opPow at e
  split at e
  · split at e
    · cases e
      obtain ⟨v, u, S, S', rfl, ⟨rfl, _⟩, rfl, _⟩ := rq2 rq
      exact ⟨_, _, rfl, rfl, by assumption, kint k⟩
    · cases e
  · cases e
def opNeg : List PV → Option PV
  | [.int i] => some (.int (-i))
  | _ => none
theorem os_neg {X : Cx} : OpS X (r1l (rU fun i => .int (-i))) opNeg := by
  intro ps vs p H F Q rq e k
  unfold opNeg at e
  split at e
  · cases e
    obtain ⟨v, S, rfl, rfl, _⟩ := rq1 (ps := []) rq
    exact ⟨_, rfl, kint k⟩
  · cases e
theorem pures_rep {xs : List PV} (h : pures xs = true) : ∀ n : Nat, pures (List.replicate n xs).flatten = true
  | 0 => rfl
  | n + 1 => by
    rw [List.replicate_succ, List.flatten_cons]
    exact pures_append h (pures_rep h n)
theorem Rps.rep {K : PySem.W.Frag} {H : Hp} {F : Fz} {xs : List PV} {vs : List V} (r : Rps K H F xs vs f0) : ∀ n : Nat, Rps K H F (List.replicate n xs).flatten (List.replicate n vs).flatten f0
  | 0 => ⟨rfl, fun _ => rfl⟩
  | n + 1 => by
    rw [List.replicate_succ, List.flatten_cons, List.replicate_succ, List.flatten_cons]
    have := r.append (Rps.rep r n)
    rw [fz_add] at this
    exact this
/-- times: two ints (one of them below 2^64), a list times an int, a tuple times 2 and more -/
def opMul : List PV → Option PV
  | [.int i, .int j] => if (-(2 ^ 64) < i ∧ i < 2 ^ 64) ∨ (-(2 ^ 64) < j ∧ j < 2 ^ 64) then some (.int (i * j)) else none
  | [.nd .lst _ xs, .int k] => if pures xs = true ∧ -(2 ^ 63) ≤ k ∧ k < 2 ^ 63 ∧ xs.length * k.toNat ≤ sizeLine then some (L (List.replicate k.toNat xs).flatten) else none
  | [.nd .tup _ xs, .int k] => if pures xs = true ∧ xs ≠ [] ∧ 2 ≤ k ∧ k ≤ 1000 ∧ xs.length ≤ 1000 then some (T (List.replicate k.toNat xs).flatten) else none
  | _ => none
def rMulAll (K : PySem.W.Frag) : R2 := fun x y H Q => rI CMul (fun i j => .int (i * j)) x y H Q ∨ rRep x y H Q ∨ rRepT K x y H Q
theorem or_mulAll {X : Cx} : OpR X (binaryOp .Mult) (rMulAll X.K) := OpR.or op_mul (OpR.or op_rep op_repT)
theorem os_mul {X : Cx} : OpS X (r2l (rMulAll X.K)) opMul := by
  intro ps vs p H F Q rq e k
  unfold opMul at e
  split at e
  · split at e
    · cases e
      obtain ⟨v, u, S, S', rfl, ⟨rfl, _⟩, rfl, _⟩ := rq2 rq
      exact .inl ⟨_, _, rfl, rfl, by assumption, kint k⟩
    · cases e
  · split at e
    · rename_i hc
      cases e
      obtain ⟨v, u, S, S', rfl, ⟨a, as, Sa, rfl, ha, ra, oa⟩, rfl, _⟩ := rq2 rq
      have hl1 := ra.length
      exact .inr (.inl ⟨a, _, as, rfl, rfl, ha, hc.2.1, hc.2.2.1, by rw [← hl1]; exact hc.2.2.2, fun q hq => klst k hq ((rps_zero ra hc.1).rep _) (pures_rep hc.1 _)⟩)
    · cases e
  · split at e
    · rename_i hc
      cases e
      obtain ⟨v, u, S, S', rfl, ⟨a, as, Sa, rfl, ha, ra, oa⟩, rfl, _⟩ := rq2 rq
      have hl1 := ra.length
      refine .inr (.inr ⟨a, _, as, rfl, rfl, SqT.of ha, fun z => ?_, hc.2.2.1, hc.2.2.2.1, by rw [← hl1]; exact hc.2.2.2.2, fun q hq => ktup k hq ((rps_zero ra hc.1).rep _) (pures_rep hc.1 _)⟩)
      subst z
      exact hc.2.1 (List.length_eq_zero_iff.mp (by simpa using hl1))
    · cases e
  · cases e
/-! ### data: == and != -/
mutual
def PV.dat : PV → Option PyData
  | .non => some .none
  | .bl b => some (.bool b)
  | .int i => some (.int i)
  | .str x => some (.str x)
  | .nd .tup _ xs => match dats xs with
    | some ds => some (.tuple ds)
    | none => none
  | .nd .lst _ xs => match dats xs with
    | some ds => some (.list ds)
    | none => none
  | _ => none
def dats : List PV → Option (List PyData)
  | [] => some []
  | x :: xs => match x.dat with
    | some d => match dats xs with
      | some ds => some (d :: ds)
      | none => none
    | none => none
end
mutual
theorem Rp.dp {K : PySem.W.Frag} {H : Hp} {F : Fz} : ∀ {p : PV} {v : V} {S : Fp} {d : PyData}, Rp K H F p v S → p.dat = some d → Dp K H v d ∧ d.canLay0 = true
  | .non, _, _, _, h, e => by
    simp only [PV.dat, Option.some.injEq] at e; subst e; obtain ⟨rfl, _⟩ := h; exact ⟨.non, rfl⟩
  | .bl b, _, _, _, h, e => by
    simp only [PV.dat, Option.some.injEq] at e; subst e; obtain ⟨rfl, _⟩ := h; exact ⟨.bl b, rfl⟩
  | .int i, _, _, _, h, e => by
    simp only [PV.dat, Option.some.injEq] at e; subst e; obtain ⟨rfl, _⟩ := h; exact ⟨.int i, rfl⟩
  | .str x, _, _, _, h, e => by
    simp only [PV.dat, Option.some.injEq] at e; subst e; obtain ⟨rfl, h1, _⟩ := h; exact ⟨.str x, h1⟩
  | .ty _, _, _, _, _, e => by simp [PV.dat] at e
  | .ref _, _, _, _, _, e => by simp [PV.dat] at e
  | .nd .tup o xs, _, _, _, h, e => by
    obtain ⟨a, vs, S', rfl, h1, h2, _⟩ := h
    rw [PV.dat] at e
    cases e1 : dats xs with
    | none => rw [e1] at e; cases e
    | some ds =>
      rw [e1] at e; cases e
      obtain ⟨q1, q2⟩ := Rps.dp h2 e1
      exact ⟨.tup (SqT.of h1) q1, by rw [PyData.canLay0]; exact q2⟩
  | .nd .lst o xs, _, _, _, h, e => by
    obtain ⟨a, vs, S', rfl, h1, h2, _⟩ := h
    rw [PV.dat] at e
    cases e1 : dats xs with
    | none => rw [e1] at e; cases e
    | some ds =>
      rw [e1] at e; cases e
      obtain ⟨q1, q2⟩ := Rps.dp h2 e1
      exact ⟨.lst (SqL.of h1) q1, by rw [PyData.canLay0]; exact q2⟩
  | .nd .frl _ _, _, _, _, _, e => by simp [PV.dat] at e
  | .nd (.dk _) _ _, _, _, _, _, e => by simp [PV.dat] at e
  | .nd (.dt _) _ _, _, _, _, _, e => by simp [PV.dat] at e
  | .nd (.ins _ _) _ _, _, _, _, _, e => by simp [PV.dat] at e
theorem Rps.dp {K : PySem.W.Frag} {H : Hp} {F : Fz} : ∀ {p : List PV} {v : List V} {S : Fp} {d : List PyData}, Rps K H F p v S → dats p = some d → DpAll K H v d ∧ PyData.canLayAll0 d = true
  | [], _, _, _, h, e => by
    simp only [dats, Option.some.injEq] at e; subst e; obtain ⟨rfl, _⟩ := h; exact ⟨.nil, rfl⟩
  | x :: xs, _, _, _, h, e => by
    obtain ⟨v, vs', S1, S2, rfl, _, h1, h2⟩ := h
    rw [dats] at e
    cases e1 : x.dat with
    | none => rw [e1] at e; cases e
    | some d =>
      rw [e1] at e
      simp only at e
      cases e2 : dats xs with
      | none => rw [e2] at e; cases e
      | some ds =>
        rw [e2] at e; cases e
        obtain ⟨q1, q2⟩ := Rp.dp h1 e1
        obtain ⟨q3, q4⟩ := Rps.dp h2 e2
        exact ⟨.cons q1 q3, by rw [PyData.canLayAll0, q2, q4]; rfl⟩
end
def dat2 (f : PyData → PyData → Option PV) : List PV → Option PV
  | [p, q] => match p.dat with
    | some d => match q.dat with
      | some e => f d e
      | none => none
    | none => none
  | _ => none
theorem dat2_some {f : PyData → PyData → Option PV} {ps : List PV} {r : PV} (h : dat2 f ps = some r) : ∃ p q d e, ps = [p, q] ∧ p.dat = some d ∧ q.dat = some e ∧ f d e = some r := by
  unfold dat2 at h
  split at h
  · rename_i p q
    cases e1 : p.dat with
    | none => rw [e1] at h; cases h
    | some d =>
      rw [e1] at h
      simp only at h
      cases e2 : q.dat with
      | none => rw [e2] at h; cases h
      | some e => rw [e2] at h; exact ⟨p, q, d, e, rfl, e1, e2, h⟩
  · cases h
def opEq : List PV → Option PV := dat2 fun d e => if min d.depth e.depth ≤ 64 then some (.bl (PyData.eqv d e)) else none
def opNe : List PV → Option PV := dat2 fun d e => if min d.depth e.depth ≤ 64 then some (.bl (!PyData.eqv d e)) else none
def rEqD2 (K : PySem.W.Frag) : R2 := fun x y H Q => ∃ d e, Dp K H x d ∧ Dp K H y e ∧ d.canLay0 = true ∧ e.canLay0 = true ∧ min d.depth e.depth ≤ 64 ∧ Q (.bl (PyData.eqv d e)) H
def rNeD2 (K : PySem.W.Frag) : R2 := fun x y H Q => ∃ d e, Dp K H x d ∧ Dp K H y e ∧ d.canLay0 = true ∧ e.canLay0 = true ∧ min d.depth e.depth ≤ 64 ∧ Q (.bl (!PyData.eqv d e)) H
section
variable {X : Cx}
theorem or_eqD2 (hu : X.A.units + 64 < cLine) : OpR X (compareOp .Eq) (rEqD2 X.K) := by
  intro pins s σ H x y v u Q I rx ry ⟨d, e, hd, he, ld, le, hm, q⟩
  obtain ⟨as, r1⟩ := Dp.reads I d x v hd rx
  obtain ⟨bs, r2⟩ := Dp.reads I e y u he ry
  exact SeqAt.compareEq_reads r1 r2 ld le (by omega) ⟨.bl _, H, I, rfl, q⟩
theorem or_neD2 (hu : X.A.units + 64 < cLine) : OpR X (compareOp .NotEq) (rNeD2 X.K) := by
  intro pins s σ H x y v u Q I rx ry ⟨d, e, hd, he, ld, le, hm, q⟩
  obtain ⟨as, r1⟩ := Dp.reads I d x v hd rx
  obtain ⟨bs, r2⟩ := Dp.reads I e y u he ry
  exact SeqAt.compareNe_reads r1 r2 ld le (by omega) ⟨.bl _, H, I, rfl, q⟩
theorem os_eq : OpS X (r2l (rEqD2 X.K)) opEq := by
  intro ps vs p H F Q rq e k
  obtain ⟨a, b, d, d', rfl, e1, e2, e3⟩ := dat2_some e
  split at e3
  · cases e3
    obtain ⟨v, u, S, S', rfl, r1, r2⟩ := rq2 rq
    obtain ⟨q1, q2⟩ := r1.dp e1
    obtain ⟨q3, q4⟩ := r2.dp e2
    exact ⟨d, d', q1, q3, q2, q4, by assumption, kbl k⟩
  · cases e3
theorem os_ne : OpS X (r2l (rNeD2 X.K)) opNe := by
  intro ps vs p H F Q rq e k
  obtain ⟨a, b, d, d', rfl, e1, e2, e3⟩ := dat2_some e
  split at e3
  · cases e3
    obtain ⟨v, u, S, S', rfl, r1, r2⟩ := rq2 rq
    obtain ⟨q1, q2⟩ := r1.dp e1
    obtain ⟨q3, q4⟩ := r2.dp e2
    exact ⟨d, d', q1, q3, q2, q4, by assumption, kbl k⟩
  · cases e3
/-! ### is None, is True -/
def PV.isNon : PV → Bool
  | .non => true
  | _ => false
def opIs : List PV → Option PV
  | [p, .non] => some (.bl p.isNon)
  | [.bl a, .bl b] => some (.bl (decide (a = b)))
  | _ => none
def opIsnt : List PV → Option PV
  | [p, .non] => some (.bl (!p.isNon))
  | [.bl a, .bl b] => some (.bl (!decide (a = b)))
  | _ => none
theorem rp_non {K : PySem.W.Frag} {H : Hp} {F : Fz} {p : PV} {v : V} {S : Fp} (r : Rp K H F p v S) : decide (v = .non) = p.isNon := by
  cases p with
  | non => obtain ⟨rfl, _⟩ := r; rfl
  | bl b => obtain ⟨rfl, _⟩ := r; rfl
  | int b => obtain ⟨rfl, _⟩ := r; rfl
  | str b => obtain ⟨rfl, _⟩ := r; rfl
  | ty b => obtain ⟨rfl, _⟩ := r; rfl
  | ref b => obtain ⟨rfl, _⟩ := r; rfl
  | nd kd o xs => obtain ⟨a, vs, S', rfl, _⟩ := r; rfl
def rIsAll : R2 := fun x y H Q => (y = .non ∧ Q (.bl (decide (x = .non))) H) ∨ (∃ a b : Bool, x = .bl a ∧ y = .bl b ∧ Q (.bl (decide (a = b))) H)
def rIsntAll : R2 := fun x y H Q => (y = .non ∧ Q (.bl (!decide (x = .non))) H) ∨ (∃ a b : Bool, x = .bl a ∧ y = .bl b ∧ Q (.bl (!decide (a = b))) H)
theorem or_is : OpR X (compareOp .Is) rIsAll := OpR.or op_isN op_isBl
theorem or_isnt : OpR X (compareOp .IsNot) rIsntAll := OpR.or op_notN op_notBl
theorem os_is : OpS X (r2l rIsAll) opIs := by
  intro ps vs p H F Q rq e k
  unfold opIs at e
  split at e
  · obtain ⟨v, u, S, S', rfl, r1, rfl, _⟩ := rq2 rq
    cases e
    refine .inl ⟨rfl, ?_⟩
    rw [rp_non r1]
    exact kbl k
  · obtain ⟨v, u, S, S', rfl, ⟨rfl, _⟩, rfl, _⟩ := rq2 rq
    cases e
    exact .inr ⟨_, _, rfl, rfl, kbl k⟩
  · cases e
theorem os_isnt : OpS X (r2l rIsntAll) opIsnt := by
  intro ps vs p H F Q rq e k
  unfold opIsnt at e
  split at e
  · rename_i p0
    obtain ⟨v, u, S, S', rfl, r1, rfl, _⟩ := rq2 rq
    cases e
    refine .inl ⟨rfl, ?_⟩
    rw [rp_non r1]
    exact kbl k
  · obtain ⟨v, u, S, S', rfl, ⟨rfl, _⟩, rfl, _⟩ := rq2 rq
    cases e
    exact .inr ⟨_, _, rfl, rfl, kbl k⟩
  · cases e
/-! ### <, <=, >, >=: ints, texts -/
def opLt : List PV → Option PV
  | [.int i, .int j] => some (.bl (decide (i < j)))
  | [.str x, .str y] => some (.bl (decide (x.cps.toList < y.cps.toList)))
  | _ => none
def opLe : List PV → Option PV
  | [.int i, .int j] => some (.bl (decide (i ≤ j)))
  | [.str x, .str y] => some (.bl (!decide (y.cps.toList < x.cps.toList)))
  | _ => none
def opGt : List PV → Option PV
  | [.int i, .int j] => some (.bl (decide (j < i)))
  | [.str x, .str y] => some (.bl (decide (y.cps.toList < x.cps.toList)))
  | _ => none
def opGe : List PV → Option PV
  | [.int i, .int j] => some (.bl (decide (j ≤ i)))
  | [.str x, .str y] => some (.bl (!decide (x.cps.toList < y.cps.toList)))
  | _ => none
def rOrd (f : Int → Int → Bool) (g : Str → Str → Bool) : R2 := fun x y H Q => rI0 (fun i j => .bl (f i j)) x y H Q ∨ (∃ i j, x = .str i ∧ y = .str j ∧ Q (.bl (g i j)) H)
theorem or_lt : OpR X (compareOp .Lt) (rOrd (fun i j => decide (i < j)) fun i j => decide (i.cps.toList < j.cps.toList)) := OpR.or op_lt op_lt_str
theorem or_le : OpR X (compareOp .LtE) (rOrd (fun i j => decide (i ≤ j)) fun i j => !decide (j.cps.toList < i.cps.toList)) := OpR.or op_le op_le_str
theorem or_gt : OpR X (compareOp .Gt) (rOrd (fun i j => decide (j < i)) fun i j => decide (j.cps.toList < i.cps.toList)) := OpR.or op_gt op_gt_str
theorem or_ge : OpR X (compareOp .GtE) (rOrd (fun i j => decide (j ≤ i)) fun i j => !decide (i.cps.toList < j.cps.toList)) := OpR.or op_ge op_ge_str
theorem os_ord {f : Int → Int → Bool} {g : Str → Str → Bool} {h : List PV → Option PV} (hh : ∀ ps r, h ps = some r → (∃ i j, ps = [.int i, .int j] ∧ r = .bl (f i j)) ∨ (∃ i j, ps = [.str i, .str j] ∧ r = .bl (g i j))) : OpS X (r2l (rOrd f g)) h := by
  intro ps vs p H F Q rq e k
  rcases hh ps p e with ⟨i, j, rfl, rfl⟩ | ⟨i, j, rfl, rfl⟩
  · obtain ⟨v, u, S, S', rfl, ⟨rfl, _⟩, rfl, _⟩ := rq2 rq
    exact .inl ⟨_, _, rfl, rfl, kbl k⟩
  · obtain ⟨v, u, S, S', rfl, ⟨rfl, _⟩, rfl, _⟩ := rq2 rq
    exact .inr ⟨_, _, rfl, rfl, kbl k⟩
theorem os_lt : OpS X (r2l (rOrd (fun i j => decide (i < j)) fun i j => decide (i.cps.toList < j.cps.toList))) opLt := os_ord fun ps r e => by
  unfold opLt at e; split at e <;> cases e <;> first | exact .inl ⟨_, _, rfl, rfl⟩ | exact .inr ⟨_, _, rfl, rfl⟩
theorem os_le : OpS X (r2l (rOrd (fun i j => decide (i ≤ j)) fun i j => !decide (j.cps.toList < i.cps.toList))) opLe := os_ord fun ps r e => by
  unfold opLe at e; split at e <;> cases e <;> first | exact .inl ⟨_, _, rfl, rfl⟩ | exact .inr ⟨_, _, rfl, rfl⟩
theorem os_gt : OpS X (r2l (rOrd (fun i j => decide (j < i)) fun i j => decide (j.cps.toList < i.cps.toList))) opGt := os_ord fun ps r e => by
  unfold opGt at e; split at e <;> cases e <;> first | exact .inl ⟨_, _, rfl, rfl⟩ | exact .inr ⟨_, _, rfl, rfl⟩
theorem os_ge : OpS X (r2l (rOrd (fun i j => decide (j ≤ i)) fun i j => !decide (i.cps.toList < j.cps.toList))) opGe := os_ord fun ps r e => by
  unfold opGe at e; split at e <;> cases e <;> first | exact .inl ⟨_, _, rfl, rfl⟩ | exact .inr ⟨_, _, rfl, rfl⟩
end
end Bx
set_option Elab.async false
set_option linter.all false
set_option maxRecDepth 100000
set_option maxHeartbeats 4000000
/-! L2c: subscripts, slices, in, len, isinstance, calls of built-ins, methods. -/
namespace Bx
open PySem PySem.Spec PyProof.Rows L2
variable [Tbs]
def fin (f : List PV → Option PV) (ods : List Od) (vw' : Vw) : R PV := match resAll vw' ods with
  | none => .no
  | some ps => match f ps with
    | none => .no
    | some p => .ok p vw'
/-- the end of an operation: operands are there -/
theorem os_fin {X : Cx} {W : WX} {σ : St} {Q : VK} {r : List V → Hp → VK → Prop} {f : List PV → Option PV} {ods : List Od} {vw' : Vw} {vs : List V} {H' : Hp} {F' : Fz} {S1 S2 : Fp} (ho : OpS X r f) (a : Ros X.K H' F' σ ods vs S1) (b : Rvw X.K H' F' vw' σ S2)
    (c : Gd H' F' (fadd S1 S2)) (q : Po (rlE X.K) X.K σ W Q (fin f ods vw') H' F' (fadd S1 S2)) : r vs H' Q := by
  have h : tE X.K (iOp (fun ps => f ps) []) W σ H' Q ∨ True := .inr trivial
  unfold fin at q
  cases e1 : resAll vw' ods with
  | none => rw [e1] at q; exact q.elim
  | some ps =>
    rw [e1] at q
    simp only at q
    cases e2 : f ps with
    | none => rw [e2] at q; exact q.elim
    | some p =>
      rw [e2] at q
      refine ho ps vs p H' F' Q (Ros.rq b a e1) e2 fun v H2 S' sm rp fr le => ?_
      have old : ∀ x, 0 < fadd S1 S2 x → S' x = 0 := fun x hx => by
        cases Nat.eq_zero_or_pos (S' x) with
        | inl z => exact z
        | inr z => exact absurd (fr x z).1 (c.ne hx)
      refine q v H2 F' S' S2 rp (b.keep (same_kp sm)) ⟨fun x => ?_, fun x hx => ?_, fun x hx => ?_, fun x hx => ?_, tabs_same sm c.tb⟩ ⟨fun x o e _ _ => sm x o e, fun x hx => ?_, fun _ z => z, fun _ z => .inl z⟩
      · show S' x + S2 x ≤ 1
        cases Nat.eq_zero_or_pos (S2 x) with
        | inl z => rw [z]; exact le x
        | inr z =>
          have l : S1 x + S2 x ≤ 1 := c.le x
          rw [old x (show 0 < S1 x + S2 x by omega)]; omega
      · have hx' : 0 < S' x + S2 x := hx
        cases Nat.eq_zero_or_pos (S2 x) with
        | inl z =>
          have := (fr x (by omega)).1
          exact fun w => c.fr x w (.inl this)
        | inr z => exact c.nf x (show 0 < S1 x + S2 x by omega)
      · have hx' : 0 < S' x + S2 x := hx
        cases Nat.eq_zero_or_pos (S2 x) with
        | inl z => exact (fr x (by omega)).2
        | inr z =>
          have m := c.mu x (show 0 < S1 x + S2 x by omega)
          obtain ⟨o, e⟩ := Mut.some m
          rw [sm x o e, ← e]
          exact m
      · exact nfre_same sm (c.fr x hx)
      · have hx' : 0 < S' x + S2 x := hx
        cases Nat.eq_zero_or_pos (S2 x) with
        | inl z => exact .inr (.inl (fr x (by omega)).1)
        | inr z => exact .inl (show 0 < S1 x + S2 x by omega)
/-- a method: the receiver is looked at ahead of the arguments -/
def iMt (chk : PV → Bool) (f : List PV → Option PV) (o : Opd) (os : List Opd) : IE := fun vw => match o with
  | .v n => match vw[n]? with
    | some (some p0) => if chk p0 = true then (evO os vw).bind fun ods vw' => fin f (.bor n :: ods) vw' else .no
    | _ => .no
  | .e i => (i vw).bind fun p vw1 => if chk p = true then (evO os vw1).bind fun ods vw' => fin f (.val p :: ods) vw' else .no
theorem imt_ok {X : Cx} {W : WX} {σ : St} {H : Hp} {Q : VK} {r : List V → Hp → VK → Prop} {f : List PV → Option PV} {chk : PV → Bool} {C : V → Hp → Prop} {o : Opd} {os : List Opd} (hC : ∀ H F p v S, Rp X.K H F p v S → chk p = true → C v H) (ho : OpS X r f)
    (h : tE X.K (iMt chk f o os) W σ H Q) : tO X.K o W σ H fun x H1 => C x H1 ∧ tOs X.K os W σ H1 fun vs H2 => r (x :: vs) H2 Q := by
  obtain ⟨F, vw, S, hv, g, h⟩ := h
  cases o with
  | v n =>
    unfold iMt at h
    simp only at h
    cases e : vw[n]? with
    | none => rw [e] at h; exact h.elim
    | some x =>
      cases x with
      | none => rw [e] at h; exact h.elim
      | some p0 =>
        rw [e] at h
        simp only at h
        cases ec : chk p0 with
        | false => rw [ec, if_neg Bool.false_ne_true] at h; exact h.elim
        | true =>
          rw [ec, if_pos rfl] at h
          obtain ⟨v, S1, S2, hσ, _, r1, _⟩ := hv.focus e
          refine ⟨v, hσ, hC H F p0 v S1 r1 ec, ?_⟩
          refine runO (T := f0) (oblX (rlE X.K) X.K σ W Q) hv (gd_zero g) (by rw [fz_add]; exact h) fun ods vw' vs H' F' S1 S2 a b c _ q => ?_
          rw [fz_add] at c q
          exact os_fin (ods := .bor n :: ods) (S1 := S1) ho ⟨v, vs, rfl, hσ, a⟩ b c q
  | e i =>
    refine run (T := f0) (rlE X.K) (oblX (rlE X.K) X.K σ W Q) hv (gd_zero g) (by rw [fz_add]; exact h) fun p vw1 v H1 F1 T1 T2 a b c _ q => ?_
    rw [fz_add] at c q
    cases ec : chk p with
    | false =>
      simp only [ec] at q
      exact q.elim
    | true =>
      have q' : Po (rlE X.K) X.K σ W Q ((evO os vw1).bind fun ods vw' => fin f (.val p :: ods) vw') H1 F1 (fadd T1 T2) := by
        have q2 : Po (rlE X.K) X.K σ W Q (if chk p = true then (evO os vw1).bind fun ods vw' => fin f (.val p :: ods) vw' else .no) H1 F1 (fadd T1 T2) := q
        rw [if_pos ec] at q2
        exact q2
      refine ⟨hC H1 F1 p v T1 a ec, ?_⟩
      refine runO (T := T1) (oblX (rlE X.K) X.K σ W Q) b c q' fun ods vw' vs H' F' S1 S2 a2 b2 c2 d2 q2 => ?_
      rw [← fadd_assoc] at c2 q2
      have kp : Rp X.K H' F' p v T1 := Rp.keep a d2
      exact os_fin (ods := .val p :: ods) (S1 := fadd T1 S1) ho ⟨v, vs, T1, S1, rfl, fun _ => rfl, kp, a2⟩ b2 c2 q2
/-! ### keys, dicts that are read -/
def toKey : PV → Option Key
  | .int i => some (.inl i)
  | .str x => some (.inr x)
  | _ => none
def toKeys : List PV → Option (List Key)
  | [] => some []
  | x :: xs => match toKey x with
    | some k => match toKeys xs with
      | some ks => some (k :: ks)
      | none => none
    | none => none
def dget {κ : Type} [DecidableEq κ] : List κ → List PV → κ → Option PV
  | k :: ks, x :: xs, j => if k = j then some x else dget ks xs j
  | _, _, _ => none
theorem toKey_v {K : PySem.W.Frag} {H : Hp} {F : Fz} {p : PV} {v : V} {S : Fp} {k : Key} (r : Rp K H F p v S) (e : toKey p = some k) : v = kV k := by
  cases p with
  | int i => cases e; exact r.1
  | str i => cases e; exact r.1
  | _ => cases e
theorem toKeys_v {K : PySem.W.Frag} {H : Hp} {F : Fz} : ∀ {p : List PV} {v : List V} {S : Fp} {k : List Key}, Rps K H F p v S → toKeys p = some k → v = k.map kV
  | [], _, _, _, h, e => by
    simp only [toKeys, Option.some.injEq] at e; subst e; exact h.1
  | x :: xs, _, _, _, h, e => by
    obtain ⟨v, vs', S1, S2, rfl, _, h1, h2⟩ := h
    rw [toKeys] at e
    cases e1 : toKey x with
    | none => rw [e1] at e; cases e
    | some k1 =>
      rw [e1] at e
      simp only at e
      cases e2 : toKeys xs with
      | none => rw [e2] at e; cases e
      | some ks =>
        rw [e2] at e; cases e
        rw [toKey_v h1 e1, toKeys_v h2 e2]; rfl
/-- what a dict holds -/
def RpO (K : PySem.W.Frag) (H : Hp) (F : Fz) : Option PV → Option V → Prop
  | some p, some v => ∃ S, Rp K H F p v S
  | none, none => True
  | _, _ => False
theorem dget_v {κ : Type} [DecidableEq κ] {K : PySem.W.Frag} {H : Hp} {F : Fz} : ∀ {ks : List κ} {xs : List PV} {vs : List V} {S : Fp} (j : κ), Rps K H F xs vs S → RpO K H F (dget ks xs j) (valV (ks.zip vs) j)
  | [], _, _, _, j, _ => by simp [dget, valV, RpO]
  | k :: ks, [], _, _, j, h => by
    obtain ⟨e, _⟩ := h
    subst e
    simp [dget, valV, RpO]
  | k :: ks, x :: xs, _, _, j, h => by
    obtain ⟨v, vs', S1, S2, rfl, _, h1, h2⟩ := h
    rw [dget, List.zip_cons_cons]
    by_cases e : k = j
    · rw [if_pos e, valV_pos (p := (k, v)) e]
      exact ⟨S1, h1⟩
    · rw [if_neg e, valV_neg (p := (k, v)) e]
      exact dget_v j h2
/-- the look-up of a key in a dict: what it holds there (some none: not there) -/
def look : PV → PV → Option (Option PV)
  | .nd (.dk ks) _ xs, p => match toKey p with
    | some k => some (dget ks xs k)
    | none => none
  | .nd (.dt ks) _ xs, .nd .tup _ ys => match toKeys ys with
    | some k => some (dget ks xs k)
    | none => none
  | _, _ => none
theorem look_ok {K : PySem.W.Frag} {H : Hp} {F : Fz} {d p : PV} {v u : V} {S S' : Fp} {r : Option PV} (rd : Rp K H F d v S) (rp : Rp K H F p u S') (e : look d p = some r) : ∃ a o, v = .ref a ∧ DGet H a u o ∧ RpO K H F r o := by
  unfold look at e
  split at e
  · rename_i ks o xs
    cases e1 : toKey p with
    | none => rw [e1] at e; cases e
    | some k =>
      rw [e1] at e; cases e
      obtain ⟨a, vs, S1, rfl, ⟨hl, hh⟩, h2, _⟩ := rd
      have hh' : Rd H a (.dK (ks.zip vs)) := by
        cases o with
        | true => exact .inl hh
        | false => exact hh
      refine ⟨a, _, rfl, .inl ⟨_, k, hh', toKey_v rp e1, rfl⟩, dget_v k h2⟩
  · rename_i ks o xs o2 ys
    cases e1 : toKeys ys with
    | none => rw [e1] at e; cases e
    | some k =>
      rw [e1] at e; cases e
      obtain ⟨a, vs, S1, rfl, ⟨hl, hh⟩, h2, _⟩ := rd
      have hh' : Rd H a (.dT (ks.zip vs)) := by
        cases o with
        | true => exact .inl hh
        | false => exact hh
      obtain ⟨b, us, S2, rfl, hb, h3, _⟩ := rp
      refine ⟨a, _, rfl, .inr ⟨_, k, b, hh', rfl, ?_, rfl⟩, dget_v k h2⟩
      rw [← toKeys_v h3 e1]
      exact hb
  · cases e
/-! ### subscripts -/
section
variable {X : Cx}
def rIxD : R2 := fun x y H Q => ∃ a v, x = .ref a ∧ DGet H a y (some v) ∧ Q v H
theorem ix_dict (hu : X.A.units + 1 < cLine) : IxR X rIxD := by
  intro value slice pins s σ H x y v u Q I rx ry ⟨a, z, ex, g, q⟩ hs
  subst ex
  cases (show v = Value.ref a from rx)
  exact tail_any (dict_typeIs I g) PySem.F.slot_dict_getitem.lookup (d_getItem hu I g ry fun w' s' I' rw' => ⟨z, H, I', rw', q⟩) hs
def rIxAll (K : PySem.W.Frag) : R2 := fun x y H Q => rIx K x y H Q ∨ rIxD x y H Q
theorem ix_all (hu : X.A.units + 1 < cLine) : IxR X (rIxAll X.K) := ix_seq.or (ix_dict hu)
end
def opIx : List PV → Option PV
  | [.nd .tup _ xs, .int i] => match atI xs i with
    | some p => if p.pure = true then some p else none
    | none => none
  | [.nd .lst _ xs, .int i] => match atI xs i with
    | some p => if p.pure = true then some p else none
    | none => none
  | [.nd .frl _ xs, .int i] => match atI xs i with
    | some p => if p.pure = true then some p else none
    | none => none
  | [.str z, .int i] => if z.length ≤ sizeLine then match atI z.cps.toList i with
    | some c => some (.str ⟨#[c]⟩)
    | none => none else none
  | [d, p] => match look d p with
    | some (some q) => if q.pure = true then some q else none
    | _ => none
  | _ => none
theorem rps_at {K : PySem.W.Frag} {H : Hp} {F : Fz} : ∀ {xs : List PV} {vs : List V} {S : Fp} {j : Nat} {p : PV}, Rps K H F xs vs S → xs[j]? = some p → ∃ v S', vs[j]? = some v ∧ Rp K H F p v S'
  | [], _, _, j, p, _, e => by simp at e
  | x :: xs, _, _, 0, p, h, e => by
    obtain ⟨v, vs', S1, S2, rfl, _, h1, h2⟩ := h
    simp at e; subst e
    exact ⟨v, S1, by simp, h1⟩
  | x :: xs, _, _, j + 1, p, h, e => by
    obtain ⟨v, vs', S1, S2, rfl, _, h1, h2⟩ := h
    obtain ⟨w, S', e1, e2⟩ := rps_at h2 (j := j) (p := p) (by simpa using e)
    exact ⟨w, S', by simpa using e1, e2⟩
theorem atI_at {K : PySem.W.Frag} {H : Hp} {F : Fz} {xs : List PV} {vs : List V} {S : Fp} {i : Int} {p : PV} (r : Rps K H F xs vs S) (e : atI xs i = some p) : ∃ v S', atI vs i = some v ∧ Rp K H F p v S' := by
  unfold atI at e ⊢
  rw [← r.length]
  cases ej : ixN xs.length i with
  | none => rw [ej] at e; cases e
  | some j =>
    rw [ej] at e
    obtain ⟨v, S', e1, e2⟩ := rps_at r (j := j) (p := p) e
    exact ⟨v, S', e1, e2⟩
theorem strOk_one {z : Str} {c : Nat} (h : PyData.strOk z = true) (hc : c ∈ z.cps.toList) : PyData.strOk ⟨#[c]⟩ = true := by
  have h' : z.cps.all (· < 0x110000) = true := h
  rw [Array.all_eq_true_iff_forall_mem] at h'
  have := h' c (by simpa using hc)
  show (#[c] : Array Nat).all _ = true
  simpa using this
section
variable {X : Cx}
theorem atI_mem {α : Type} {xs : List α} {i : Int} {c : α} (e : atI xs i = some c) : c ∈ xs := by
  unfold atI at e
  cases ej : ixN xs.length i with
  | none => rw [ej] at e; cases e
  | some j => rw [ej] at e; exact List.mem_of_getElem? e
theorem os_ix : OpS X (r2l (rIxAll X.K)) opIx := by
  intro ps vs p H F Q rq e k
  unfold opIx at e
  split at e
  · rename_i o xs i
    cases e1 : atI xs i with
    | none => rw [e1] at e; cases e
    | some p1 =>
      rw [e1] at e
      simp only at e
      split at e
      · rename_i hp
        cases e
        obtain ⟨v, u, S, S', rfl, ⟨a, as, Sa, rfl, ha, ra, oa⟩, rfl, _⟩ := rq2 rq
        obtain ⟨w, S3, e2, e3⟩ := atI_at ra e1
        exact .inl (.inr (.inl ⟨a, as, i, w, rfl, rfl, SqT.of ha, e2, k0 k (rp_zero e3 hp)⟩))
      · cases e
  · rename_i o xs i
    cases e1 : atI xs i with
    | none => rw [e1] at e; cases e
    | some p1 =>
      rw [e1] at e
      simp only at e
      split at e
      · rename_i hp
        cases e
        obtain ⟨v, u, S, S', rfl, ⟨a, as, Sa, rfl, ha, ra, oa⟩, rfl, _⟩ := rq2 rq
        obtain ⟨w, S3, e2, e3⟩ := atI_at ra e1
        exact .inl (.inl ⟨a, as, i, w, rfl, rfl, SqL.of ha, e2, k0 k (rp_zero e3 hp)⟩)
      · cases e
  · rename_i o xs i
    cases e1 : atI xs i with
    | none => rw [e1] at e; cases e
    | some p1 =>
      rw [e1] at e
      simp only at e
      split at e
      · rename_i hp
        cases e
        obtain ⟨v, u, S, S', rfl, ⟨a, as, Sa, rfl, ha, ra, oa⟩, rfl, _⟩ := rq2 rq
        obtain ⟨w, S3, e2, e3⟩ := atI_at ra e1
        exact .inl (.inl ⟨a, as, i, w, rfl, rfl, FrL.sq ha, e2, k0 k (rp_zero e3 hp)⟩)
      · cases e
  · rename_i z i
    split at e
    · rename_i hz
      cases e1 : atI z.cps.toList i with
      | none => rw [e1] at e; cases e
      | some c =>
        rw [e1] at e
        cases e
        obtain ⟨v, u, S, S', rfl, ⟨rfl, hs, _⟩, rfl, _⟩ := rq2 rq
        exact .inl (.inr (.inr ⟨z, i, c, rfl, rfl, hz, e1, kstr k (strOk_one hs (atI_mem e1))⟩))
    · cases e
  · rename_i d q _ _ _ _
    cases e1 : look d q with
    | none => rw [e1] at e; cases e
    | some r =>
      cases r with
      | none => rw [e1] at e; cases e
      | some q1 =>
        rw [e1] at e
        simp only at e
        split at e
        · rename_i hp
          cases e
          obtain ⟨v, u, S, S', rfl, r1, r2⟩ := rq2 rq
          obtain ⟨a, o, rfl, g, ro⟩ := look_ok r1 r2 e1
          cases o with
          | none => exact (show False from ro).elim
          | some w =>
            obtain ⟨S3, r3⟩ : ∃ S, Rp X.K H F p w S := ro
            exact .inr ⟨a, w, rfl, g, k0 k (rp_zero r3 hp)⟩
        · cases e
  · cases e
theorem se_ix {a b : Expr} {oa ob : Opd} {pos : Pos} (hu : X.A.units + 1 < cLine) (ha : SO X a oa) (hb : SO X b ob) (hs : PlainIx b := by exact fun _ _ => rfl) : SE X (.Subscript a b pos) (iOp opIx [oa, ob]) := fun W tk =>
  (pe_ix (ix_all hu) (ha W tk) (hb W tk) hs).imp fun σ H Q q => iop_ok os_ix q
/-! ### in, not in -/
def strIn (x z : Str) : Bool := match x.cps.toList with
  | [c] => decide (c ∈ z.cps.toList)
  | _ => !(Builtin.Str.occurrences z x 0 z.length 1).isEmpty
def opInB : PV → PV → Option Bool
  | .str x, .str z => some (strIn x z)
  | p, .nd .tup _ xs => match p.dat, dats xs with
    | some d, some ds => if min (PyData.depthAll ds) d.depth ≤ 63 then some (ds.any fun y => PyData.eqv y d) else none
    | _, _ => none
  | p, .nd .lst _ xs => match p.dat, dats xs with
    | some d, some ds => if min (PyData.depthAll ds) d.depth ≤ 63 then some (ds.any fun y => PyData.eqv y d) else none
    | _, _ => none
  | p, d => match look d p with
    | some r => some r.isSome
    | none => none
def opIn : List PV → Option PV
  | [p, q] => (opInB p q).map PV.bl
  | _ => none
def opNotIn : List PV → Option PV
  | [p, q] => (opInB p q).map fun b => PV.bl (!b)
  | _ => none
/-- the neg: what is answered of the bool -/
def rInAll (K : PySem.W.Frag) (f : Bool → Bool) : R2 := fun x y H Q =>
  (∃ i j, x = .str i ∧ y = .str j ∧ Q (.bl (f (strIn i j))) H) ∨
  (∃ d ds, Dp K H x d ∧ (Dp K H y (.list ds) ∨ Dp K H y (.tuple ds)) ∧ d.canLay0 = true ∧ PyData.canLayAll0 ds = true ∧ min (PyData.depthAll ds) d.depth ≤ 63 ∧ Q (.bl (f (ds.any fun z => PyData.eqv z d))) H) ∨
  (∃ a o, y = .ref a ∧ DGet H a x o ∧ Q (.bl (f o.isSome)) H)
theorem str_sing {x : Str} {c : Nat} (h : x.cps.toList = [c]) : x = ⟨#[c]⟩ := by
  cases x with
  | mk a =>
    simp only at h
    congr
    exact Array.toList_inj.mp (by rw [h])
theorem or_in (hu : X.A.units + 65 < cLine) : OpR X (compareOp .In) (rInAll X.K id) := by
  intro pins s σ H x y v u Q I rx ry h
  rcases h with ⟨i, j, rfl, rfl, q⟩ | ⟨d, ds, hd, hy, ld, lds, hm, q⟩ | ⟨a, o, rfl, g, q⟩
  · unfold strIn at q
    split at q
    · rename_i c hc
      have := str_sing hc
      subst this
      exact op_in_sign pins s σ H _ _ v u Q I rx ry ⟨c, j, rfl, rfl, q⟩
    · exact op_in_str pins s σ H _ _ v u Q I rx ry ⟨i, j, rfl, rfl, q⟩
  · obtain ⟨as, r1⟩ := Dp.reads I d x v hd rx
    rcases hy with hy | hy
    · obtain ⟨bs, r2⟩ := Dp.reads I _ y u hy ry
      exact SeqAt.in_list_reads r2 r1 lds ld (by omega) ⟨.bl _, H, I, rfl, q⟩
    · obtain ⟨bs, r2⟩ := Dp.reads I _ y u hy ry
      exact SeqAt.in_tuple_reads r2 r1 lds ld (by omega) ⟨.bl _, H, I, rfl, q⟩
  · cases (show u = Value.ref a from ry)
    exact d_in (by omega) I g rx fun s' I' => ⟨.bl o.isSome, H, I', rfl, q⟩
theorem or_notIn (hu : X.A.units + 65 < cLine) : OpR X (compareOp .NotIn) (rInAll X.K not) := by
  intro pins s σ H x y v u Q I rx ry h
  rcases h with ⟨i, j, rfl, rfl, q⟩ | ⟨d, ds, hd, hy, ld, lds, hm, q⟩ | ⟨a, o, rfl, g, q⟩
  · unfold strIn at q
    split at q
    · rename_i c hc
      have := str_sing hc
      subst this
      exact op_notIn_sign pins s σ H _ _ v u Q I rx ry ⟨c, j, rfl, rfl, q⟩
    · exact op_notin_str pins s σ H _ _ v u Q I rx ry ⟨i, j, rfl, rfl, q⟩
  · obtain ⟨as, r1⟩ := Dp.reads I d x v hd rx
    rcases hy with hy | hy
    · obtain ⟨bs, r2⟩ := Dp.reads I _ y u hy ry
      exact SeqAt.notIn_list_reads r2 r1 lds ld (by omega) ⟨.bl _, H, I, rfl, q⟩
    · obtain ⟨bs, r2⟩ := Dp.reads I _ y u hy ry
      exact SeqAt.notIn_tuple_reads r2 r1 lds ld (by omega) ⟨.bl _, H, I, rfl, q⟩
  · cases (show u = Value.ref a from ry)
    exact d_notIn (by omega) I g rx fun s' I' => ⟨.bl (!o.isSome), H, I', rfl, q⟩
theorem inB_ok {H : Hp} {F : Fz} {p q : PV} {v u : V} {S S' : Fp} {b : Bool} {f : Bool → Bool} {Q : VK} (r1 : Rp X.K H F p v S) (r2 : Rp X.K H F q u S') (e : opInB p q = some b) (k : Q (.bl (f b)) H) : rInAll X.K f v u H Q := by
  unfold opInB at e
  split at e
  · cases e
    obtain ⟨rfl, _⟩ := r1
    obtain ⟨rfl, _⟩ := r2
    exact .inl ⟨_, _, rfl, rfl, k⟩
  · rename_i p0 o xs
    cases e1 : p.dat with
    | none => rw [e1] at e; cases e
    | some d =>
      cases e2 : dats xs with
      | none => rw [e1, e2] at e; cases e
      | some ds =>
        rw [e1, e2] at e
        simp only at e
        split at e
        · cases e
          obtain ⟨h1, h2⟩ := r1.dp e1
          obtain ⟨a, vs, S3, rfl, h3, h4, _⟩ := r2
          obtain ⟨h5, h6⟩ := h4.dp e2
          exact .inr (.inl ⟨d, ds, h1, .inr (.tup (SqT.of h3) h5), h2, h6, by assumption, k⟩)
        · cases e
  · rename_i p0 o xs
    cases e1 : p.dat with
    | none => rw [e1] at e; cases e
    | some d =>
      cases e2 : dats xs with
      | none => rw [e1, e2] at e; cases e
      | some ds =>
        rw [e1, e2] at e
        simp only at e
        split at e
        · cases e
          obtain ⟨h1, h2⟩ := r1.dp e1
          obtain ⟨a, vs, S3, rfl, h3, h4, _⟩ := r2
          obtain ⟨h5, h6⟩ := h4.dp e2
          exact .inr (.inl ⟨d, ds, h1, .inl (.lst (SqL.of h3) h5), h2, h6, by assumption, k⟩)
        · cases e
  · cases e1 : look q p with
    | none => rw [e1] at e; cases e
    | some r =>
      rw [e1] at e
      cases e
      obtain ⟨a, o, rfl, g, ro⟩ := look_ok r2 r1 e1
      have : o.isSome = r.isSome := by
        cases r <;> cases o <;> first | rfl | exact (show False from ro).elim
      exact .inr (.inr ⟨a, o, rfl, g, by rw [this]; exact k⟩)
theorem os_in : OpS X (r2l (rInAll X.K id)) opIn := by
  intro ps vs p H F Q rq e k
  unfold opIn at e
  split at e
  · obtain ⟨v, u, S, S', rfl, r1, r2⟩ := rq2 rq
    obtain ⟨b, e1, rfl⟩ := Option.map_eq_some_iff.mp e
    exact inB_ok r1 r2 e1 (kbl k)
  · cases e
theorem os_notIn : OpS X (r2l (rInAll X.K not)) opNotIn := by
  intro ps vs p H F Q rq e k
  unfold opNotIn at e
  split at e
  · obtain ⟨v, u, S, S', rfl, r1, r2⟩ := rq2 rq
    obtain ⟨b, e1, rfl⟩ := Option.map_eq_some_iff.mp e
    exact inB_ok r1 r2 e1 (kbl k)
  · cases e
end
end Bx
set_option Elab.async false
set_option linter.all false
set_option maxRecDepth 100000
set_option maxHeartbeats 4000000
/-! L2d: calls of built-ins, methods of texts and lists, slices, displays. -/
namespace Bx
open PySem PySem.Spec PyProof.Rows L2
variable [Tbs]
/-! ### argument lists of operands -/
def SOs (X : Cx) (es : List Expr) (os : List Opd) : Prop := ∀ W, Takes X W → PA X es (tOs X.K os W)
section
variable {X : Cx} {e : Expr} {es : List Expr} {o : Opd} {os : List Opd} {pos : Pos}
theorem sos_nil : SOs X [] [] := fun W tk => pa_nil
theorem sos_cons (h : SO X e o) (hs : SOs X es os) (hst : starEach (e :: es) X.env = (false, eval e X.env) :: starEach es X.env := by rfl) : SOs X (e :: es) (o :: os) := fun W tk => pa_cons (h W tk) (hs W tk) hst
theorem se_callB {x : Str} {p : Pos} {id : String} {r : List V → Hp → VK → Prop} {f : List PV → Option PV} (hc : CallR X (.builtin id) r) (hf : OpS X r f) (hs : SOs X (e :: es) os) (hm : X.mg x = none) (hg : Gl X x := by rfl) (hv : bootBuiltins x = some (.builtin id) := by decide +kernel)
    (hn : x ≠ "__name__" := by decide) (hdb : (x == ("__debug__" : Str)) = false := by decide)
    (he : starEach (e :: es) X.env = (false, eval e X.env) :: starEach es X.env := by rfl) (hpl : (backTo pos (starEach es X.env)).any (·.1) = false := by rfl) : SE X (.Call (.Name x p) (e :: es) [] pos) (iOp f os) := fun W tk =>
  (pe_callB hc hg hm hv (hs W tk) hn hdb he hpl).imp fun σ H Q q => iop_ok hf q
theorem se_callTy {x : Str} {p : Pos} {id : String} {r : List V → Hp → VK → Prop} {f : List PV → Option PV} (hc : CallR X (.type id) r) (hf : OpS X r f) (hs : SOs X (e :: es) os) (hm : X.mg x = none) (hg : Gl X x := by rfl) (hv : bootBuiltins x = some (.type id) := by decide +kernel)
    (hn : x ≠ "__name__" := by decide) (hdb : (x == ("__debug__" : Str)) = false := by decide)
    (he : starEach (e :: es) X.env = (false, eval e X.env) :: starEach es X.env := by rfl) (hpl : (backTo pos (starEach es X.env)).any (·.1) = false := by rfl) : SE X (.Call (.Name x p) (e :: es) [] pos) (iOp f os) := fun W tk =>
  (pe_callTy hc hg hm hv (hs W tk) hn hdb he hpl).imp fun σ H Q q => iop_ok hf q
/-! ### len -/
def lenB : PV → Option Nat
  | .str x => if x.length ≤ sizeLine then some x.length else none
  | .nd .tup _ xs => some xs.length
  | .nd .lst _ xs => some xs.length
  | .nd .frl _ xs => some xs.length
  | .nd (.dk ks) true _ => some ks.length
  | .nd (.dt ks) true _ => some ks.length
  | _ => none
def opLen : List PV → Option PV
  | [p] => (lenB p).map fun n => PV.int n
  | _ => none
def rLenAll (K : PySem.W.Frag) : List V → Hp → VK → Prop := fun xs H Q => (∃ x n, xs = [x] ∧ LenV K x H n ∧ Q (.int n) H) ∨ (∃ a kvs, xs = [V.ref a] ∧ H a = some (.dK kvs) ∧ Q (.int kvs.length) H) ∨ rLenT xs H Q
theorem cr_len : CallR X (.builtin "len") (rLenAll X.K) := CallR.or call_len (CallR.or call_lenD call_len_dT)
theorem os_len : OpS X (rLenAll X.K) opLen := by
  intro ps vs p H F Q rq e k
  unfold opLen at e
  split at e
  · rename_i p0
    obtain ⟨n, e1, rfl⟩ := Option.map_eq_some_iff.mp e
    obtain ⟨v, S, rfl, r⟩ := rq1 (ps := []) rq
    unfold lenB at e1
    split at e1
    · split at e1
      · cases e1
        obtain ⟨rfl, _⟩ := r
        exact .inl ⟨_, _, rfl, ⟨by assumption, rfl⟩, kint k⟩
      · cases e1
    · cases e1
      obtain ⟨a, as, Sa, rfl, ha, ra, _⟩ := r
      exact .inl ⟨_, _, rfl, .inr ⟨as, SqT.of ha, ra.length⟩, kint k⟩
    · cases e1
      obtain ⟨a, as, Sa, rfl, ha, ra, _⟩ := r
      exact .inl ⟨_, _, rfl, .inl ⟨as, SqL.of ha, ra.length⟩, kint k⟩
    · cases e1
      obtain ⟨a, as, Sa, rfl, ha, ra, _⟩ := r
      exact .inl ⟨_, _, rfl, .inl ⟨as, FrL.sq ha, ra.length⟩, kint k⟩
    · rename_i ks xs
      cases e1
      obtain ⟨a, as, Sa, rfl, ⟨hl, ha⟩, ra, _⟩ := r
      refine .inr (.inl ⟨a, _, rfl, ha, ?_⟩)
      have : (ks.zip as).length = ks.length := by rw [List.length_zip, hl, Nat.min_self]
      rw [this]
      exact kint k
    · rename_i ks xs
      cases e1
      obtain ⟨a, as, Sa, rfl, ⟨hl, ha⟩, ra, _⟩ := r
      refine .inr (.inr ⟨a, _, rfl, ha, ?_⟩)
      have : (ks.zip as).length = ks.length := by rw [List.length_zip, hl, Nat.min_self]
      rw [this]
      exact kint k
    · cases e1
  · cases e
/-! ### isinstance: kit t c tells whether the class t is c or below it -/
def tyOf : PV → Option Value
  | .non => some (.type "NoneType")
  | .bl _ => some (.type "bool")
  | .int _ => some (.type "int")
  | .str _ => some (.type "str")
  | .nd .tup _ _ => some (.type "tuple")
  | .nd .lst _ _ => some (.type "list")
  | .nd (.dk _) _ _ => some (.type "dict")
  | .nd (.dt _) true _ => some (.type "dict")
  | .nd (.ins C _) _ _ => some (.ref C)
  | _ => none
def clsOf : PV → Option Value
  | .ty n => some (.type n)
  | .ref C => some (.ref C)
  | _ => none
def clsAll : List PV → Option (List Value)
  | [] => some []
  | x :: xs => match clsOf x with
    | some c => match clsAll xs with
      | some cs => some (c :: cs)
      | none => none
    | none => none
def kitAll (kit : Value → Value → Option Bool) (t : Value) : List Value → Option Bool
  | [] => none
  | [c] => kit t c
  | c :: c' :: r => match kit t c with
    | some true => some true
    | some false => kitAll kit t (c' :: r)
    | none => none
def opIsi (kit : Value → Value → Option Bool) : List PV → Option PV
  | [p, .nd .tup _ cs] => match tyOf p, clsAll cs with
    | some t, some us => (kitAll kit t us).map PV.bl
    | _, _ => none
  | [p, c] => match tyOf p, clsOf c with
    | some t, some u => (kit t u).map PV.bl
    | _, _ => none
  | _ => none
/-- what is known of a class whose instances are looked at -/
def InsK (K : PySem.W.Frag) (C : Addr) : Prop := ∀ (H : Hp) (a : Addr) (dx : Addr) (fs : List (Str × V)), H a = some (.ins C dx fs) → TyX K H (.ref a) (.ref C)
theorem tyOf_ok {H : Hp} {F : Fz} {p : PV} {v : V} {S : Fp} {t : Value} (hI : ∀ C ns o xs, p = .nd (.ins C ns) o xs → InsK X.K C) (r : Rp X.K H F p v S) (e : tyOf p = some t) : TyX X.K H v t := by
  cases p with
  | non => cases e; obtain ⟨rfl, _⟩ := r; exact .base .non
  | bl b => cases e; obtain ⟨rfl, _⟩ := r; exact .base (.bl b)
  | int b => cases e; obtain ⟨rfl, _⟩ := r; exact .base (.int b)
  | str b => cases e; obtain ⟨rfl, _⟩ := r; exact .base (.str b)
  | ty n => cases e
  | ref n => cases e
  | nd kd o xs =>
    obtain ⟨a, as, Sa, rfl, ha, ra, _⟩ := r
    cases kd with
    | tup => cases e; exact .base (.tup ha)
    | lst => cases e; exact .base (.lst ha)
    | frl => cases e
    | dk ks =>
      cases e
      obtain ⟨_, ha⟩ := ha
      cases o with
      | true => exact .base (.dK ha)
      | false =>
        rcases ha with ha | ⟨ob, ha⟩
        · exact .base (.dK ha)
        · exact .fDict ha
    | dt ks =>
      cases o with
      | true => cases e; exact .base (.dT ha.2)
      | false => cases e
    | ins C ns =>
      cases e
      obtain ⟨_, dx, ha⟩ := ha
      exact hI C ns o xs rfl H a dx _ ha
    | xc x ns => cases e
theorem clsOf_ok {H : Hp} {F : Fz} {p : PV} {v : V} {S : Fp} {t : Value} (r : Rp X.K H F p v S) (e : clsOf p = some t) : ClsV v t := by
  cases p with
  | ty n => cases e; obtain ⟨rfl, _⟩ := r; exact .ty n
  | ref n => cases e; obtain ⟨rfl, _⟩ := r; exact .own n
  | _ => cases e
theorem clsAll_ok {H : Hp} {F : Fz} : ∀ {p : List PV} {v : List V} {S : Fp} {t : List Value}, Rps X.K H F p v S → clsAll p = some t → Paired ClsV v t
  | [], _, _, _, r, e => by
    simp only [clsAll, Option.some.injEq] at e; subst e; obtain ⟨rfl, _⟩ := r; exact .nil
  | x :: xs, _, _, _, r, e => by
    obtain ⟨v, vs', S1, S2, rfl, _, h1, h2⟩ := r
    rw [clsAll] at e
    cases e1 : clsOf x with
    | none => rw [e1] at e; cases e
    | some c =>
      rw [e1] at e
      simp only at e
      cases e2 : clsAll xs with
      | none => rw [e2] at e; cases e
      | some cs =>
        rw [e2] at e; cases e
        exact .cons (clsOf_ok h1 e1) (clsAll_ok h2 e2)
theorem kitAll_ok {kit : Value → Value → Option Bool} (hk : ∀ t c b, kit t c = some b → PySem.W.kitOne X.K t c = some b) {t : Value} : ∀ {cs : List Value} {b : Bool}, kitAll kit t cs = some b → PySem.W.kitAny X.K t cs = some b
  | [], b, e => by cases e
  | [c], b, e => by
    have e1 : kit t c = some b := e
    rw [PySem.W.kitAny, hk t c b e1]
    cases b <;> rfl
  | c :: c' :: r, b, e => by
    rw [kitAll] at e
    rw [PySem.W.kitAny]
    cases e1 : kit t c with
    | none => rw [e1] at e; cases e
    | some k =>
      rw [e1] at e
      rw [hk t c k e1]
      cases k with
      | true => exact e
      | false => exact kitAll_ok hk e
def rIsiAll (K : PySem.W.Frag) : List V → Hp → VK → Prop := fun xs H Q => rIsi K xs H Q ∨ rIsiT K xs H Q
theorem cr_isi : CallR X (.builtin "isinstance") (rIsiAll X.K) := CallR.or call_isi call_isiT
/-- the classes whose instances may be asked -/
structure KitOk (K : PySem.W.Frag) (kit : Value → Value → Option Bool) : Prop where
  ok : ∀ t c b, kit t c = some b → PySem.W.kitOne K t c = some b
  ins : ∀ (C : Addr) c b, kit (.ref C) c = some b → InsK K C
theorem kitAll_ins {kit : Value → Value → Option Bool} (hk : KitOk X.K kit) {C : Addr} : ∀ {cs : List Value} {b : Bool}, kitAll kit (.ref C) cs = some b → InsK X.K C
  | [], _, e => by cases e
  | [c], b, e => hk.ins C c b e
  | c :: c' :: r, b, e => by
    rw [kitAll] at e
    cases e1 : kit (.ref C) c with
    | none => rw [e1] at e; cases e
    | some k => exact hk.ins C c k e1
theorem os_isi {kit : Value → Value → Option Bool} (hk : KitOk X.K kit) : OpS X (rIsiAll X.K) (opIsi kit) := by
  intro ps vs p H F Q rq e k
  unfold opIsi at e
  split at e
  · rename_i p0 o cs
    cases e1 : tyOf p0 with
    | none => rw [e1] at e; cases e
    | some t =>
      cases e2 : clsAll cs with
      | none => rw [e1, e2] at e; cases e
      | some us =>
        rw [e1, e2] at e
        obtain ⟨b, e3, rfl⟩ := Option.map_eq_some_iff.mp e
        obtain ⟨v, u, S, S', rfl, r1, ⟨a, as, Sa, rfl, ha, ra, _⟩⟩ := rq2 rq
        refine .inr ⟨v, a, as, t, us, b, rfl, ha, clsAll_ok ra e2, tyOf_ok (fun C ns o xs h => ?_) r1 e1, kitAll_ok hk.ok e3, kbl k⟩
        subst h
        cases e1
        exact kitAll_ins hk e3
  · rename_i p0 c _
    cases e1 : tyOf p0 with
    | none => rw [e1] at e; cases e
    | some t =>
      cases e2 : clsOf c with
      | none => rw [e1, e2] at e; cases e
      | some u =>
        rw [e1, e2] at e
        obtain ⟨b, e3, rfl⟩ := Option.map_eq_some_iff.mp e
        obtain ⟨v, w, S, S', rfl, r1, r2⟩ := rq2 rq
        refine .inl ⟨v, w, t, u, b, rfl, clsOf_ok r2 e2, tyOf_ok (fun C ns o xs h => ?_) r1 e1, hk.ok t u b e3, kbl k⟩
        subst h
        cases e1
        exact hk.ins C u b e3
  · cases e
end
end Bx
set_option Elab.async false
set_option linter.all false
set_option maxRecDepth 100000
set_option maxHeartbeats 4000000
/-! L2e: tuple, list, int, str, sorted, min, max, sum, all, any; join, split, index, get; slices; displays; fields. -/
namespace Bx
open PySem PySem.Spec PyProof.Rows L2
variable [Tbs]
section
variable {X : Cx}
/-! ### tuple, list -/
def opTuple : List PV → Option PV
  | [.nd .tup _ xs] => if pures xs = true then some (T xs) else none
  | [.nd .lst _ xs] => if pures xs = true then some (T xs) else none
  | _ => none
theorem os_tuple : OpS X (fun xs H Q => ∃ p ys, xs = [.ref p] ∧ ((SqL X.K H p ys ∧ ∀ l, H l = none → Q (.ref l) (upd H l (.tup ys))) ∨ (SqT X.K H p ys ∧ Q (.ref p) H))) opTuple := by
  intro ps vs p H F Q rq e k
  unfold opTuple at e
  split at e
  · split at e
    · rename_i hp
      cases e
      obtain ⟨v, S, rfl, a, as, Sa, rfl, ha, ra, _⟩ := rq1 (ps := []) rq
      exact ⟨a, as, rfl, .inr ⟨SqT.of ha, k0 k ⟨a, as, f0, rfl, ha, rps_zero ra hp, fun _ => rfl⟩⟩⟩
    · cases e
  · split at e
    · rename_i hp
      cases e
      obtain ⟨v, S, rfl, a, as, Sa, rfl, ha, ra, _⟩ := rq1 (ps := []) rq
      exact ⟨a, as, rfl, .inl ⟨SqL.of ha, fun q hq => ktup k hq ra hp⟩⟩
    · cases e
  · cases e
def keyPV : Key → PV
  | .inl i => .int i
  | .inr x => .str x
def strKeys : List Key → Bool
  | [] => true
  | .inl _ :: r => strKeys r
  | .inr x :: r => PyData.strOk x && strKeys r
theorem rps_keys {K : PySem.W.Frag} {H : Hp} {F : Fz} : ∀ {ks : List Key}, strKeys ks = true → Rps K H F (ks.map keyPV) (ks.map kV) f0
  | [], _ => ⟨rfl, fun _ => rfl⟩
  | .inl i :: r, h => ⟨_, _, f0, f0, rfl, fun _ => rfl, ⟨rfl, fun _ => rfl⟩, rps_keys h⟩
  | .inr x :: r, h => by
    rw [strKeys, Bool.and_eq_true] at h
    exact ⟨_, _, f0, f0, rfl, fun _ => rfl, ⟨rfl, h.1, fun _ => rfl⟩, rps_keys h.2⟩
theorem pures_keys : ∀ ks : List Key, pures (ks.map keyPV) = true
  | [] => rfl
  | .inl i :: r => by rw [List.map_cons, pures, pures_keys r]; rfl
  | .inr i :: r => by rw [List.map_cons, pures, pures_keys r]; rfl
def opList : List PV → Option PV
  | [.nd .tup _ xs] => if pures xs = true then some (L xs) else none
  | [.nd .lst _ xs] => if pures xs = true then some (L xs) else none
  | [.nd .frl _ xs] => if pures xs = true then some (L xs) else none
  | [.nd (.dk ks) true _] => if strKeys ks = true then some (L (ks.map keyPV)) else none
  | [.nd (.dt ks) _ _] => if ks.all strKeys = true then some (L (ks.map fun k => T (k.map keyPV))) else none
  | _ => none
def rListAll (K : PySem.W.Frag) : List V → Hp → VK → Prop := fun xs H Q => (∃ p ys, xs = [.ref p] ∧ (SqL K H p ys ∨ SqT K H p ys) ∧ ∀ l, H l = none → Q (.ref l) (upd H l (.lst ys))) ∨ rListD xs H Q ∨
  (∃ d kvs, xs = [V.ref d] ∧ Rd H d (.dT kvs) ∧ ∀ p bs, H p = none → IsKeys H kvs bs → Q (.ref p) (upd H p (.lst (bs.map V.ref))))
theorem cr_list (hc : X.calm = true) : CallR X (.type "list") (rListAll X.K) := CallR.or call_list_of (CallR.or (call_list_dK hc) (call_list_dT hc))
theorem keys_zip {κ : Type} : ∀ {ks : List κ} {vs : List V}, ks.length = vs.length → (ks.zip vs).map (·.1) = ks
  | [], _, _ => by simp
  | k :: ks, [], h => by simp at h
  | k :: ks, v :: vs, h => by
    rw [List.zip_cons_cons, List.map_cons, keys_zip (by simpa using h)]
theorem keys_zipV : ∀ {ks : List Key} {vs : List V}, ks.length = vs.length → ((ks.zip vs).map fun kv => kV kv.1) = ks.map kV
  | [], _, _ => by simp
  | k :: ks, [], h => by simp at h
  | k :: ks, v :: vs, h => by
    rw [List.zip_cons_cons, List.map_cons, List.map_cons, keys_zipV (by simpa using h)]
theorem rps_tkeys {H : Hp} {F : Fz} : ∀ {ks : List (List Key)} {vs : List V} {bs : List Addr}, ks.length = vs.length → ks.all strKeys = true → IsKeys H (ks.zip vs) bs → Rps X.K H F (ks.map fun k => T (k.map keyPV)) (bs.map V.ref) f0
  | [], vs, bs, _, _, h => by
    rw [List.zip_nil_left] at h
    cases h
    exact ⟨rfl, fun _ => rfl⟩
  | k :: ks, [], _, h, _, _ => by simp at h
  | k :: ks, v :: vs, bs, h, hs, hk => by
    rw [List.zip_cons_cons] at hk
    cases hk with
    | @cons _ b _ bs' h1 h2 =>
      rw [List.all_cons, Bool.and_eq_true] at hs
      refine ⟨.ref b, bs'.map V.ref, f0, f0, rfl, fun _ => rfl, ⟨b, k.map kV, f0, rfl, h1, rps_keys hs.1, fun _ => rfl⟩, rps_tkeys (by simpa using h) hs.2 h2⟩
theorem pures_tkeys : ∀ ks : List (List Key), pures (ks.map fun k => T (k.map keyPV)) = true
  | [] => rfl
  | k :: r => by
    rw [List.map_cons, pures, pures_tkeys r, PV.pure, pures_keys k]; rfl
theorem os_list : OpS X (rListAll X.K) opList := by
  intro ps vs p H F Q rq e k
  unfold opList at e
  split at e
  · split at e
    · rename_i hp
      cases e
      obtain ⟨v, S, rfl, a, as, Sa, rfl, ha, ra, _⟩ := rq1 (ps := []) rq
      exact .inl ⟨a, as, rfl, .inr (SqT.of ha), fun q hq => klst k hq ra hp⟩
    · cases e
  · split at e
    · rename_i hp
      cases e
      obtain ⟨v, S, rfl, a, as, Sa, rfl, ha, ra, _⟩ := rq1 (ps := []) rq
      exact .inl ⟨a, as, rfl, .inl (SqL.of ha), fun q hq => klst k hq ra hp⟩
    · cases e
  · split at e
    · rename_i hp
      cases e
      obtain ⟨v, S, rfl, a, as, Sa, rfl, ha, ra, _⟩ := rq1 (ps := []) rq
      exact .inl ⟨a, as, rfl, .inl (FrL.sq ha), fun q hq => klst k hq ra hp⟩
    · cases e
  · split at e
    · rename_i hp
      cases e
      obtain ⟨v, S, rfl, a, as, Sa, rfl, ⟨hl, ha⟩, ra, _⟩ := rq1 (ps := []) rq
      refine .inr (.inl ⟨a, _, rfl, ha, fun q hq => ?_⟩)
      rw [keys_zipV hl]
      exact klst k hq (rps_keys hp) (pures_keys _)
    · cases e
  · rename_i ks o xs
    split at e
    · rename_i hp
      cases e
      obtain ⟨v, S, rfl, a, as, Sa, rfl, ⟨hl, ha⟩, ra, _⟩ := rq1 (ps := []) rq
      have ha' : Rd H a (.dT (ks.zip as)) := by
        cases o with
        | true => exact .inl ha
        | false => exact ha
      exact .inr (.inr ⟨a, _, rfl, ha', fun q bs hq hk => klst k hq (rps_tkeys hl hp hk) (pures_tkeys _)⟩)
    · cases e
  · cases e
/-! ### int, str -/
def opInt : List PV → Option PV
  | [.int i] => some (.int i)
  | [.bl b] => some (.int (if b then 1 else 0))
  | [.str x] => if x.length ≤ 640 then (PySem.intText? x).map PV.int else none
  | _ => none
def rIntAll : List V → Hp → VK → Prop := fun xs H Q => ((∃ i, xs = [.int i] ∧ Q (.int i) H) ∨ ∃ k, xs = [.bl k] ∧ Q (.int (if k then 1 else 0)) H) ∨ (∃ a n, xs = [.str a] ∧ PySem.intText? a = some n ∧ a.length ≤ 640 ∧ Q (.int n) H)
theorem cr_int : CallR X (.type "int") rIntAll := CallR.or call_int1 call_int_str
theorem os_int : OpS X rIntAll opInt := by
  intro ps vs p H F Q rq e k
  unfold opInt at e
  split at e
  · cases e
    obtain ⟨v, S, rfl, rfl, _⟩ := rq1 (ps := []) rq
    exact .inl (.inl ⟨_, rfl, kint k⟩)
  · cases e
    obtain ⟨v, S, rfl, rfl, _⟩ := rq1 (ps := []) rq
    exact .inl (.inr ⟨_, rfl, kint k⟩)
  · split at e
    · obtain ⟨n, e1, rfl⟩ := Option.map_eq_some_iff.mp e
      obtain ⟨v, S, rfl, rfl, _⟩ := rq1 (ps := []) rq
      exact .inr ⟨_, n, rfl, e1, by assumption, kint k⟩
    · cases e
  · cases e
def opStr : List PV → Option PV
  | [.int i] => if i.natAbs.log2 < 1920 ∧ PyData.strOk (toString i : String) = true then some (.str (toString i : String)) else none
  | [.str x] => some (.str x)
  | _ => none
def rStrAll : List V → Hp → VK → Prop := fun xs H Q => (∃ i, xs = [.int i] ∧ i.natAbs.log2 < 1920 ∧ Q (.str (toString i)) H) ∨ (∃ a, xs = [.str a] ∧ Q (.str a) H)
theorem cr_str : CallR X (.type "str") rStrAll := CallR.or call_str_int SkE.call_str_str
theorem os_str : OpS X rStrAll opStr := by
  intro ps vs p H F Q rq e k
  unfold opStr at e
  split at e
  · split at e
    · rename_i hc
      cases e
      obtain ⟨v, S, rfl, rfl, _⟩ := rq1 (ps := []) rq
      exact .inl ⟨_, rfl, hc.1, kstr k hc.2⟩
    · cases e
  · cases e
    obtain ⟨v, S, rfl, rfl, h, _⟩ := rq1 (ps := []) rq
    exact .inr ⟨_, rfl, kstr k h⟩
  · cases e
/-! ### sorted, of a list of data -/
def datD (p : PV) : PyData := p.dat.getD .none
def sortPV (xs : List PV) : List PV := xs.mergeSort (PySem.W.dataLe false datD)
def alikeB (ds : List PyData) : Bool := ds.all fun d => ds.all fun d' => PySem.W.alike d d'
def sortB (ds : List PyData) : Bool := (ds.all fun d => match d with | .tuple (_ :: _) => true | _ => false) || (ds.all fun d => match d with | .none => false | .tuple _ => false | _ => true)
def opSorted : List PV → Option PV
  | [.nd .lst _ xs] => if pures xs = true ∧ (dats xs).isSome = true ∧ alikeB (xs.map datD) = true ∧ sortB (xs.map datD) = true ∧ (xs.all fun x => decide ((datD x).depth ≤ 60)) = true then some (L (sortPV xs)) else none
  | _ => none
theorem alikeB_ok {ds : List PyData} (h : alikeB ds = true) : PySem.W.AllAlike ds := fun d hd d' hd' => by
  unfold alikeB at h
  rw [List.all_eq_true] at h
  have := h d hd
  rw [List.all_eq_true] at this
  exact this d' hd'
theorem sortB_ok {ds : List PyData} (h : sortB ds = true) : PySem.W.Sortable ds := by
  unfold sortB at h
  rw [Bool.or_eq_true] at h
  rcases h with h | h
  · refine .inl fun d hd => ?_
    rw [List.all_eq_true] at h
    have := h d hd
    split at this
    · exact ⟨_, _, rfl⟩
    · cases this
  · refine .inr fun d hd => ?_
    rw [List.all_eq_true] at h
    have := h d hd
    refine ⟨fun z => ?_, fun xs z => ?_⟩ <;> (subst z; cases this)
theorem dats_at : ∀ {xs : List PV} {ds : List PyData}, dats xs = some ds → ds = xs.map datD ∧ ∀ x ∈ xs, ∃ d, x.dat = some d
  | [], ds, e => by simp only [dats, Option.some.injEq] at e; subst e; exact ⟨rfl, fun x h => by cases h⟩
  | x :: xs, ds, e => by
    rw [dats] at e
    cases e1 : x.dat with
    | none => rw [e1] at e; cases e
    | some d =>
      rw [e1] at e
      simp only at e
      cases e2 : dats xs with
      | none => rw [e2] at e; cases e
      | some ds' =>
        rw [e2] at e; cases e
        obtain ⟨h1, h2⟩ := dats_at e2
        refine ⟨by rw [List.map_cons, ← h1, datD, e1]; rfl, fun y hy => ?_⟩
        rcases List.mem_cons.mp hy with rfl | hy
        · exact ⟨d, e1⟩
        · exact h2 y hy
/-- each value stands for its tree, nothing is owned -/
def RE (K : PySem.W.Frag) (H : Hp) (F : Fz) (v : Value) (p : PV) : Prop := ∃ x, RelV x v ∧ Rp K H F p x f0
theorem each_of {K : PySem.W.Frag} {H : Hp} {F : Fz} : ∀ {ps : List PV} {vs : List V} {us : List Value}, Rps K H F ps vs f0 → pures ps = true → Vals vs us → PySem.W.EachIs (RE K H F) us ps
  | [], _, _, r, _, rv => by
    obtain ⟨rfl, _⟩ := r
    cases rv
    exact .nil
  | p :: ps, _, _, r, hp, rv => by
    obtain ⟨v, vs', S1, S2, rfl, es, h1, h2⟩ := r
    rw [pures, Bool.and_eq_true] at hp
    cases rv with
    | cons r1 r2 => exact .cons ⟨v, r1, rp_zero h1 hp.1⟩ (each_of (rps_zero h2 hp.2) hp.2 r2)
theorem of_each {K : PySem.W.Frag} {H : Hp} {F : Fz} : ∀ {ps : List PV} {us : List Value}, PySem.W.EachIs (RE K H F) us ps → ∃ vs, Vals vs us ∧ Rps K H F ps vs f0
  | _, _, .nil => ⟨[], .nil, rfl, fun _ => rfl⟩
  | _, _, .cons ⟨x, h1, h2⟩ t => by
    obtain ⟨vs, r1, r2⟩ := of_each t
    exact ⟨x :: vs, .cons h1 r1, x, vs, f0, f0, rfl, fun _ => rfl, h2, r2⟩
def rSortD (K : PySem.W.Frag) : List V → Hp → VK → Prop := fun vs H Q => ∃ (a : Addr) (xs : List V) (ps : List PV) (F : Fz), vs = [V.ref a] ∧ H a = some (.lst xs) ∧ Rps K H F ps xs f0 ∧ pures ps = true ∧ (dats ps).isSome = true ∧ PySem.W.AllAlike (ps.map datD) ∧ PySem.W.Sortable (ps.map datD) ∧
  (∀ p ∈ ps, (datD p).depth ≤ 60) ∧ ∀ q ys, H q = none → Rps K H F (sortPV ps) ys f0 → Q (.ref q) (upd H q (.lst ys))
theorem cr_sortD (hu : X.A.units + 64 < cLine) : CallR X (.builtin "sorted") (rSortD X.K) := by
  intro pins s σ H vs us Q I r ⟨a, xs, ps, F, ev, ha, rp, hp, hd, hal, hso, hdp, q⟩
  subst ev
  obtain ⟨u, rfl, ru⟩ := vals1 r
  obtain rfl : u = Value.ref a := ru
  obtain ⟨its, rv, pl, hz⟩ := I.list (SqL.of ha)
  have e := each_of rp hp rv
  have hl := rp.length
  have hl2 := rv.length
  refine PySem.W.sorted_data (enc := datD) (R := RE X.K H F) pl.isList e ?_ hal hso (by omega) (fun b hb => by have := hdp b hb; omega) fun out ho eo => ?_
  · obtain ⟨ds, hds⟩ := Option.isSome_iff_exists.mp hd
    obtain ⟨_, hall⟩ := dats_at hds
    have aux : ∀ {ps : List PV} {us : List Value}, PySem.W.EachIs (RE X.K H F) us ps → (∀ p ∈ ps, ∃ d, p.dat = some d) → PySem.W.EachIs (fun v b => ∃ as, Reads s.heap v (datD b) as) us ps := by
      intro ps us e
      induction e with
      | nil => exact fun _ => .nil
      | cons h t ih =>
        intro hh
        obtain ⟨x, r1, r2⟩ := h
        obtain ⟨d, hd⟩ := hh _ List.mem_cons_self
        obtain ⟨h1, _⟩ := r2.dp hd
        obtain ⟨as, h2⟩ := Dp.reads I d x _ h1 r1
        exact .cons ⟨as, by rw [datD, hd]; exact h2⟩ (ih fun p hp => hh p (List.mem_cons_of_mem _ hp))
    exact aux e hall
  · obtain ⟨ys, r1, r2⟩ := of_each eo
    obtain ⟨ep, he'⟩ := PyProof.Rows.sortedAll_at s.heap its out.toArray
    have hly : ys.length ≤ sizeLine := by rw [r1.length, ho]; omega
    exact ⟨.ref _, upd H (s.heap.objs.size + 1) (.lst ys), I.laid (t' := s.toks) (fun _ _ => PyProof.Rows.sortedAll_old) (Nat.le_succ _) ⟨hly, out, ep, r1, he'⟩, rfl, q _ _ (I.hok.fresh (Nat.le_succ _)) r2⟩
theorem pures_mem {xs : List PV} : pures xs = true ↔ ∀ x ∈ xs, x.pure = true := by
  induction xs with
  | nil => simp [pures]
  | cons x xs ih => rw [pures, Bool.and_eq_true, ih]; simp
theorem os_sorted : OpS X (rSortD X.K) opSorted := by
  intro ps vs p H F Q rq e k
  unfold opSorted at e
  split at e
  · rename_i o xs
    split at e
    · rename_i hc
      cases e
      obtain ⟨v, S, rfl, a, as, Sa, rfl, ha, ra, _⟩ := rq1 (ps := []) rq
      obtain ⟨h1, h2, h3, h4, h5⟩ := hc
      refine ⟨a, as, xs, F, rfl, ha, rps_zero ra h1, h1, h2, alikeB_ok h3, sortB_ok h4, fun p hp => ?_, fun q ys hq r => klst k hq r ?_⟩
      · rw [List.all_eq_true] at h5
        exact of_decide_eq_true (h5 p hp)
      · rw [pures_mem] at h1 ⊢
        intro x hx
        exact h1 x ((List.mergeSort_perm _ _).mem_iff.mp hx)
    · cases e
  · cases e
end
end Bx
set_option Elab.async false
set_option linter.all false
set_option maxRecDepth 100000
set_option maxHeartbeats 4000000
/-! L2f: min, max, sum, all, any; methods; slices; displays; fields. -/
namespace Bx
open PySem PySem.Spec PyProof.Rows L2
variable [Tbs]
/-! ### pInts and pBools in a list -/
def pInts : List PV → Option (List Int)
  | [] => some []
  | .int i :: r => match pInts r with
    | some is => some (i :: is)
    | none => none
  | _ => none
def pBools : List PV → Option (List Bool)
  | [] => some []
  | .bl i :: r => match pBools r with
    | some is => some (i :: is)
    | none => none
  | _ => none
def pStrs : List PV → Option (List Str)
  | [] => some []
  | .str i :: r => match pStrs r with
    | some is => some (i :: is)
    | none => none
  | _ => none
section
variable {K : PySem.W.Frag} {H : Hp} {F : Fz}
theorem pIntsV : ∀ {xs : List PV} {vs : List V} {S : Fp} {is : List Int}, Rps K H F xs vs S → pInts xs = some is → vs = is.map V.int
  | [], _, _, _, r, e => by simp only [pInts, Option.some.injEq] at e; subst e; exact r.1
  | x :: xs, _, _, _, r, e => by
    obtain ⟨v, vs', S1, S2, rfl, _, h1, h2⟩ := r
    cases x with
    | int i =>
      rw [pInts] at e
      cases e2 : pInts xs with
      | none => rw [e2] at e; cases e
      | some is => rw [e2] at e; cases e; rw [h1.1, pIntsV h2 e2]; rfl
    | _ => cases e
theorem pBoolsV : ∀ {xs : List PV} {vs : List V} {S : Fp} {is : List Bool}, Rps K H F xs vs S → pBools xs = some is → vs = is.map V.bl
  | [], _, _, _, r, e => by simp only [pBools, Option.some.injEq] at e; subst e; exact r.1
  | x :: xs, _, _, _, r, e => by
    obtain ⟨v, vs', S1, S2, rfl, _, h1, h2⟩ := r
    cases x with
    | bl i =>
      rw [pBools] at e
      cases e2 : pBools xs with
      | none => rw [e2] at e; cases e
      | some is => rw [e2] at e; cases e; rw [h1.1, pBoolsV h2 e2]; rfl
    | _ => cases e
theorem pStrsV : ∀ {xs : List PV} {vs : List V} {S : Fp} {is : List Str}, Rps K H F xs vs S → pStrs xs = some is → vs = is.map V.str ∧ ∀ x ∈ is, PyData.strOk x = true
  | [], _, _, _, r, e => by simp only [pStrs, Option.some.injEq] at e; subst e; exact ⟨r.1, fun x h => by cases h⟩
  | x :: xs, _, _, _, r, e => by
    obtain ⟨v, vs', S1, S2, rfl, _, h1, h2⟩ := r
    cases x with
    | str i =>
      rw [pStrs] at e
      cases e2 : pStrs xs with
      | none => rw [e2] at e; cases e
      | some is =>
        rw [e2] at e; cases e
        obtain ⟨h3, h4⟩ := pStrsV h2 e2
        refine ⟨by rw [h1.1, h3]; rfl, fun y hy => ?_⟩
        rcases List.mem_cons.mp hy with rfl | hy
        · exact h1.2.1
        · exact h4 y hy
    | _ => cases e
theorem rps_strs : ∀ {xs : List Str}, (∀ x ∈ xs, PyData.strOk x = true) → Rps K H F (xs.map PV.str) (xs.map V.str) f0
  | [], _ => ⟨rfl, fun _ => rfl⟩
  | x :: xs, h => ⟨_, _, f0, f0, rfl, fun _ => rfl, ⟨rfl, h x List.mem_cons_self, fun _ => rfl⟩, rps_strs fun y hy => h y (List.mem_cons_of_mem _ hy)⟩
end
theorem pures_strs : ∀ xs : List Str, pures (xs.map PV.str) = true
  | [] => rfl
  | x :: xs => by rw [List.map_cons, pures, pures_strs xs]; rfl
section
variable {X : Cx}
def opSum : List PV → Option PV
  | [.nd .lst _ xs] => (pInts xs).map fun is => .int is.sum
  | _ => none
theorem os_sum : OpS X (rSum X.K) opSum := by
  intro ps vs p H F Q rq e k
  unfold opSum at e
  split at e
  · obtain ⟨is, e1, rfl⟩ := Option.map_eq_some_iff.mp e
    obtain ⟨v, S, rfl, a, as, Sa, rfl, ha, ra, _⟩ := rq1 (ps := []) rq
    have := pIntsV ra e1
    subst this
    exact ⟨a, is, rfl, SqL.of ha, kint k⟩
  · cases e
def opAll : List PV → Option PV
  | [.nd .lst _ xs] => (pBools xs).map fun is => .bl (is.all id)
  | _ => none
theorem os_all : OpS X (rAll X.K) opAll := by
  intro ps vs p H F Q rq e k
  unfold opAll at e
  split at e
  · obtain ⟨is, e1, rfl⟩ := Option.map_eq_some_iff.mp e
    obtain ⟨v, S, rfl, a, as, Sa, rfl, ha, ra, _⟩ := rq1 (ps := []) rq
    have := pBoolsV ra e1
    subst this
    exact ⟨a, is, rfl, SqL.of ha, kbl k⟩
  · cases e
def opAny : List PV → Option PV
  | [.nd .lst _ xs] => (pBools xs).map fun is => .bl (is.any id)
  | _ => none
theorem os_any : OpS X (rAny X.K) opAny := by
  intro ps vs p H F Q rq e k
  unfold opAny at e
  split at e
  · obtain ⟨is, e1, rfl⟩ := Option.map_eq_some_iff.mp e
    obtain ⟨v, S, rfl, a, as, Sa, rfl, ha, ra, _⟩ := rq1 (ps := []) rq
    have := pBoolsV ra e1
    subst this
    exact ⟨a, is, rfl, SqL.of ha, kbl k⟩
  · cases e
/-- the least and the greatest of pInts -/
def leastOf : Int → List Int → Int
  | m, [] => m
  | m, i :: r => leastOf (if i < m then i else m) r
def greatOf : Int → List Int → Int
  | m, [] => m
  | m, i :: r => greatOf (if m < i then i else m) r
theorem leastOf_mem : ∀ (r : List Int) (m : Int), leastOf m r = m ∨ leastOf m r ∈ r
  | [], m => .inl rfl
  | i :: r, m => by
    rw [leastOf]
    rcases leastOf_mem r (if i < m then i else m) with h | h
    · rw [h]; split
      · exact .inr List.mem_cons_self
      · exact .inl rfl
    · exact .inr (List.mem_cons_of_mem _ h)
theorem leastOf_le : ∀ (r : List Int) (m : Int), leastOf m r ≤ m ∧ ∀ j ∈ r, leastOf m r ≤ j
  | [], m => ⟨Int.le_refl _, fun j h => by cases h⟩
  | i :: r, m => by
    rw [leastOf]
    obtain ⟨h1, h2⟩ := leastOf_le r (if i < m then i else m)
    have : (if i < m then i else m) ≤ m ∧ (if i < m then i else m) ≤ i := by split <;> omega
    refine ⟨by omega, fun j hj => ?_⟩
    rcases List.mem_cons.mp hj with rfl | hj
    · omega
    · exact h2 j hj
theorem greatOf_mem : ∀ (r : List Int) (m : Int), greatOf m r = m ∨ greatOf m r ∈ r
  | [], m => .inl rfl
  | i :: r, m => by
    rw [greatOf]
    rcases greatOf_mem r (if m < i then i else m) with h | h
    · rw [h]; split
      · exact .inr List.mem_cons_self
      · exact .inl rfl
    · exact .inr (List.mem_cons_of_mem _ h)
theorem greatOf_ge : ∀ (r : List Int) (m : Int), m ≤ greatOf m r ∧ ∀ j ∈ r, j ≤ greatOf m r
  | [], m => ⟨Int.le_refl _, fun j h => by cases h⟩
  | i :: r, m => by
    rw [greatOf]
    obtain ⟨h1, h2⟩ := greatOf_ge r (if m < i then i else m)
    have : m ≤ (if m < i then i else m) ∧ i ≤ (if m < i then i else m) := by split <;> omega
    refine ⟨by omega, fun j hj => ?_⟩
    rcases List.mem_cons.mp hj with rfl | hj
    · omega
    · exact h2 j hj
def opMin : List PV → Option PV
  | [.int i, .int j] => some (.int (if j < i then j else i))
  | [.nd .lst _ xs] => match pInts xs with
    | some (i :: r) => some (.int (leastOf i r))
    | _ => none
  | _ => none
def opMax : List PV → Option PV
  | [.int i, .int j] => some (.int (if j > i then j else i))
  | [.nd .lst _ xs] => match pInts xs with
    | some (i :: r) => some (.int (greatOf i r))
    | _ => none
  | _ => none
def rMinAll (K : PySem.W.Frag) : List V → Hp → VK → Prop := fun xs H Q => (∃ i j, xs = [.int i, .int j] ∧ Q (.int (if j < i then j else i)) H) ∨ rMin K xs H Q
def rMaxAll (K : PySem.W.Frag) : List V → Hp → VK → Prop := fun xs H Q => (∃ i j, xs = [.int i, .int j] ∧ Q (.int (if j > i then j else i)) H) ∨ rMax K xs H Q
theorem cr_minAll (hc : X.calm = true) : CallR X (.builtin "min") (rMinAll X.K) := CallR.or (call_min2 hc) (cr_min hc)
theorem cr_maxAll (hc : X.calm = true) : CallR X (.builtin "max") (rMaxAll X.K) := CallR.or (call_max2 hc) (cr_max hc)
theorem os_min : OpS X (rMinAll X.K) opMin := by
  intro ps vs p H F Q rq e k
  unfold opMin at e
  split at e
  · cases e
    obtain ⟨v, u, S, S', rfl, ⟨rfl, _⟩, rfl, _⟩ := rq2 rq
    exact .inl ⟨_, _, rfl, kint k⟩
  · split at e
    · rename_i i r e1
      cases e
      obtain ⟨v, S, rfl, a, as, Sa, rfl, ha, ra, _⟩ := rq1 (ps := []) rq
      have := pIntsV ra e1
      subst this
      refine .inr ⟨a, i :: r, rfl, SqL.of ha, by simp, fun m hm hle => ?_⟩
      have h1 := leastOf_mem r i
      have h2 := leastOf_le r i
      have : m = leastOf i r := by
        have a1 : m ≤ leastOf i r := hle _ (by rcases h1 with h | h; rw [h]; exact List.mem_cons_self; exact List.mem_cons_of_mem _ h)
        have a2 : leastOf i r ≤ m := by
          rcases List.mem_cons.mp hm with rfl | hm
          · exact h2.1
          · exact h2.2 _ hm
        omega
      rw [this]
      exact kint k
    · cases e
  · cases e
theorem os_max : OpS X (rMaxAll X.K) opMax := by
  intro ps vs p H F Q rq e k
  unfold opMax at e
  split at e
  · cases e
    obtain ⟨v, u, S, S', rfl, ⟨rfl, _⟩, rfl, _⟩ := rq2 rq
    exact .inl ⟨_, _, rfl, kint k⟩
  · split at e
    · rename_i i r e1
      cases e
      obtain ⟨v, S, rfl, a, as, Sa, rfl, ha, ra, _⟩ := rq1 (ps := []) rq
      have := pIntsV ra e1
      subst this
      refine .inr ⟨a, i :: r, rfl, SqL.of ha, by simp, fun m hm hle => ?_⟩
      have h1 := greatOf_mem r i
      have h2 := greatOf_ge r i
      have : m = greatOf i r := by
        have a1 : greatOf i r ≤ m := hle _ (by rcases h1 with h | h; rw [h]; exact List.mem_cons_self; exact List.mem_cons_of_mem _ h)
        have a2 : m ≤ greatOf i r := by
          rcases List.mem_cons.mp hm with rfl | hm
          · exact h2.1
          · exact h2.2 _ hm
        omega
      rw [this]
      exact kint k
    · cases e
  · cases e
/-! ### methods of texts -/
def isStr : PV → Bool
  | .str _ => true
  | _ => false
theorem isStr_ok {H : Hp} {F : Fz} {p : PV} {v : V} {S : Fp} (r : Rp X.K H F p v S) (e : isStr p = true) : ∃ a, v = .str a := by
  cases p with
  | str x => exact ⟨x, r.1⟩
  | _ => cases e
theorem joinL_mem (y : Str) : ∀ {parts : List Str} {c : Nat}, c ∈ (Str.join y parts).cps → c ∈ y.cps ∨ ∃ p ∈ parts, c ∈ p.cps
  | [], c, h => by simp [Str.join, Str.empty] at h
  | [x], c, h => .inr ⟨x, List.mem_cons_self, h⟩
  | x :: x' :: r, c, h => by
    have h' : c ∈ x.cps ++ y.cps ++ (Str.join y (x' :: r)).cps := h
    rw [Array.mem_append, Array.mem_append] at h'
    rcases h' with (h' | h') | h'
    · exact .inr ⟨x, List.mem_cons_self, h'⟩
    · exact .inl h'
    · rcases joinL_mem y h' with h2 | ⟨p, hp, h2⟩
      · exact .inl h2
      · exact .inr ⟨p, List.mem_cons_of_mem _ hp, h2⟩
theorem mem_joinL (y : Str) : ∀ {parts : List Str} {p : Str} {c : Nat}, p ∈ parts → c ∈ p.cps → c ∈ (Str.join y parts).cps
  | [], _, _, h, _ => by cases h
  | [x], p, c, h, hc => by
    rcases List.mem_cons.mp h with rfl | h
    · exact hc
    · cases h
  | x :: x' :: r, p, c, h, hc => by
    show c ∈ x.cps ++ y.cps ++ (Str.join y (x' :: r)).cps
    rw [Array.mem_append, Array.mem_append]
    rcases List.mem_cons.mp h with rfl | h
    · exact .inl (.inl hc)
    · exact .inr (mem_joinL y h hc)
theorem strOk_iff {x : Str} : PyData.strOk x = true ↔ ∀ c ∈ x.cps, c < 0x110000 := by
  show x.cps.all _ = true ↔ _
  rw [Array.all_eq_true_iff_forall_mem]
  simp
theorem strOk_join {y : Str} {parts : List Str} (hy : PyData.strOk y = true) (hp : ∀ p ∈ parts, PyData.strOk p = true) : PyData.strOk (Txt.join y parts) = true := by
  rw [TL.join_eq, strOk_iff]
  intro c hc
  rcases joinL_mem y hc with h | ⟨p, h1, h2⟩
  · exact strOk_iff.mp hy c h
  · exact strOk_iff.mp (hp p h1) c h2
theorem strOk_split {x y : Str} (hx : PyData.strOk x = true) : ∀ p ∈ Txt.split x y, PyData.strOk p = true := fun p hp => by
  rw [strOk_iff] at hx ⊢
  intro c hc
  have := mem_joinL y hp hc
  rw [StrLaws.join_split] at this
  exact hx c this
def opJoin : List PV → Option PV
  | [.str y, .nd .tup _ xs] => match pStrs xs with
    | some l => if (l.map (·.length)).sum + l.length * y.length ≤ 16777216 then some (.str (Txt.join y l)) else none
    | none => none
  | [.str y, .nd .lst _ xs] => match pStrs xs with
    | some l => if (l.map (·.length)).sum + l.length * y.length ≤ 16777216 then some (.str (Txt.join y l)) else none
    | none => none
  | _ => none
theorem os_join : OpS X (fun vs H Q => match vs with
    | x :: xs => ∃ a p, ∃ ys : List Str, x = .str a ∧ xs = [.ref p] ∧ (SqL X.K H p (ys.map V.str) ∨ SqT X.K H p (ys.map V.str)) ∧ (ys.map (·.length)).sum + ys.length * a.length ≤ 16777216 ∧ Q (.str (Txt.join a ys)) H
    | _ => False) opJoin := by
  intro ps vs p H F Q rq e k
  unfold opJoin at e
  split at e
  · rename_i y o xs
    cases e1 : pStrs xs with
    | none => rw [e1] at e; cases e
    | some l =>
      rw [e1] at e
      simp only at e
      split at e
      · cases e
        obtain ⟨v, u, S, S', rfl, ⟨rfl, h1, _⟩, a, as, Sa, rfl, ha, ra, _⟩ := rq2 rq
        obtain ⟨h2, h3⟩ := pStrsV ra e1
        subst h2
        exact ⟨_, _, l, rfl, rfl, .inr (SqT.of ha), by assumption, kstr k (strOk_join h1 h3)⟩
      · cases e
  · rename_i y o xs
    cases e1 : pStrs xs with
    | none => rw [e1] at e; cases e
    | some l =>
      rw [e1] at e
      simp only at e
      split at e
      · cases e
        obtain ⟨v, u, S, S', rfl, ⟨rfl, h1, _⟩, a, as, Sa, rfl, ha, ra, _⟩ := rq2 rq
        obtain ⟨h2, h3⟩ := pStrsV ra e1
        subst h2
        exact ⟨_, _, l, rfl, rfl, .inl (SqL.of ha), by assumption, kstr k (strOk_join h1 h3)⟩
      · cases e
  · cases e
def opSplit : List PV → Option PV
  | [.str x, .str y] => if (y.length == 0) = false ∧ x.length + 2 ≤ sizeLine then some (L ((Txt.split x y).map PV.str)) else none
  | _ => none
theorem os_split : OpS X (fun vs H Q => match vs with
    | x :: xs => ∃ a b, x = .str a ∧ xs = [.str b] ∧ (b.length == 0) = false ∧ a.length + 2 ≤ sizeLine ∧ rNewStrs (Txt.split a b) H Q
    | _ => False) opSplit := by
  intro ps vs p H F Q rq e k
  unfold opSplit at e
  split at e
  · split at e
    · rename_i hc
      cases e
      obtain ⟨v, u, S, S', rfl, ⟨rfl, h1, _⟩, rfl, h2, _⟩ := rq2 rq
      exact ⟨_, _, rfl, rfl, hc.1, hc.2, fun q hq => klst k hq (rps_strs (strOk_split h1)) (pures_strs _)⟩
    · cases e
  · cases e
/-- s.m(e) for a text s -/
theorem se_m1 {o e : Expr} {oo oe : Opd} {name : Str} {apos pos : Pos} {id : String} {r : V → List V → Hp → VK → Prop} {f : List PV → Option PV} (slot : Slot "str" name id) (ty : typeOf (.builtin id) = pure (.type "method_descriptor")) (rule : MtR X id r)
    (hf : OpS X (fun vs H Q => match vs with | x :: xs => r x xs H Q | _ => False) f) (ho : SO X o oo) (he : SO X e oe) (hs : starEach [e] X.env = [(false, eval e X.env)] := by rfl)
    (hbase : attributeBase o name X.env (eval o X.env) = eval o X.env := by rfl) (hline : (apos.endLine == pos.line) = true := by rfl) : SE X (.Call (.Attribute o name apos) [e] [] pos) (iMt isStr f oo [oe]) := fun W tk =>
  (pe_m1 slot ty rule (ho W tk) (he W tk) hs hbase hline).imp fun σ H Q q => imt_ok (C := fun x _ => ∃ a, x = .str a) (fun _ _ _ _ _ r e => isStr_ok r e) hf q
end
end Bx
set_option Elab.async false
set_option linter.all false
set_option maxRecDepth 100000
set_option maxHeartbeats 4000000
/-! L2g: slices; displays; fields; dict.get; index. -/
namespace Bx
open PySem PySem.Spec PyProof.Rows L2
variable [Tbs]
/-! ### the parts of a slice -/
def rlI : RL Int Int := ⟨fun _ _ p v S => p = v ∧ ∀ b, S b = 0, fun h _ => h, fun h e => ⟨h.1, fun b => by rw [← e b]; exact h.2 b⟩⟩
abbrev II := Vw → R Int
def iI (i : IE) : II := fun vw => (i vw).bind fun p vw' => match p with
  | .int n => .ok n vw'
  | _ => .no
def tPt (K : PySem.W.Frag) (lo : Option II) (W : WX) : TO := match lo with
  | none => tNoPart
  | some i => fun σ H Q => tX rlI K i W σ H (fun n H' => Q (some n) H')
def SP2 (X : Cx) (e : Option Expr) (lo : Option II) : Prop := ∀ W, Takes X W → PO X e (tPt X.K lo W)
def evP (lo : Option II) : Vw → R (Option Int) := fun vw => match lo with
  | none => .ok none vw
  | some i => (i vw).bind fun n vw' => .ok (some n) vw'
theorem _root_.L2.PO.imp {X : Cx} {e : Option Expr} {t t' : TO} (h : PO X e t) (m : ∀ σ H Q, t' σ H Q → t σ H Q) : PO X e t' := ⟨fun pins s σ H Q I q => h.run pins s σ H Q I (m _ _ _ q)⟩
section
variable {X : Cx}
theorem sp_none : SP2 X none none := fun W tk => po_none
theorem sp_some {e : Expr} {i : IE} (h : SE X e i) : SP2 X (some e) (some (iI i)) := fun W tk => (po_some (h W tk)).imp fun σ H Q ⟨F, vw, S, hv, g, h⟩ => by
  refine run (T := f0) (rlE X.K) (oblX rlI X.K σ W (fun n H' => Q (some n) H')) hv (gd_zero g) (by rw [fz_add]; exact h) fun p vw' v H' F' S1 S2 a b c _ q => ?_
  rw [fz_add] at c q
  cases p with
  | int n =>
    obtain ⟨rfl, z⟩ := a
    have q' : Po rlI X.K σ W (fun n H' => Q (some n) H') (.ok n vw') H' F' (fadd S1 S2) := q
    rw [f0_eq z, fz_add] at c q'
    exact ⟨n, rfl, q' n H' F' f0 S2 ⟨rfl, fun _ => rfl⟩ b (gd_zero c) (by rw [fz_add]; exact Step.refl)⟩
  | _ => exact False.elim q
theorem runP {γ : Type} {W : WX} {σ : St} {H : Hp} {F : Fz} {vw : Vw} {S T : Fp} {lo : Option II} {f : Option Int → Vw → R γ} (O : Obl X.K W σ γ) {Q' : Option Int → Hp → Prop} (hv : Rvw X.K H F vw σ S) (g : Gd H F (fadd T S)) (h : O.p ((evP lo vw).bind f) H F (fadd T S))
    (k : ∀ n vw' H' F' S2, Rvw X.K H' F' vw' σ S2 → Gd H' F' (fadd T S2) → Kp H F H' F' T → O.p (f n vw') H' F' (fadd T S2) → Q' n H') : tPt X.K lo W σ H Q' := by
  cases lo with
  | none => exact k none vw H F S hv g ⟨fun a o e _ _ => e, fun a z => z⟩ h
  | some i =>
    unfold evP at h
    simp only at h
    rw [R.bind_assoc] at h
    refine run rlI O hv g h fun p vw' v H' F' S1 S2 a b c d q => ?_
    obtain ⟨rfl, z⟩ := a
    rw [f0_eq z, fz_add] at c q
    exact k (some p) vw' H' F' S2 b c d q
/-- one operand is run -/
theorem run1 {γ : Type} {W : WX} {σ : St} {o : Opd} {H : Hp} {F : Fz} {vw : Vw} {S T : Fp} {f : List Od → Vw → R γ} (O : Obl X.K W σ γ) {Q' : V → Hp → Prop} (hv : Rvw X.K H F vw σ S) (g : Gd H F (fadd T S)) (h : O.p ((evO [o] vw).bind f) H F (fadd T S))
    (k : ∀ ods vw' v H' F' S1 S2, Ros X.K H' F' σ ods [v] S1 → Rvw X.K H' F' vw' σ S2 → Gd H' F' (fadd T (fadd S1 S2)) → Kp H F H' F' T → O.p (f ods vw') H' F' (fadd T (fadd S1 S2)) → Q' v H') : tO X.K o W σ H Q' := by
  cases o with
  | v n =>
    unfold evO at h
    cases e : vw[n]? with
    | none => rw [e] at h; exact (O.no h).elim
    | some x =>
      cases x with
      | none => rw [e] at h; exact (O.no h).elim
      | some p =>
        rw [e] at h
        obtain ⟨v, _, _, hσ, _⟩ := hv.focus e
        exact ⟨v, hσ, k [.bor n] vw v H F f0 S ⟨v, [], rfl, hσ, rfl, fun _ => rfl⟩ hv (by rw [fz_add]; exact g) ⟨fun a o e _ _ => e, fun a z => z⟩ (by rw [fz_add]; exact h)⟩
  | e i =>
    unfold evO at h
    rw [R.bind_assoc] at h
    refine run (rlE X.K) O hv g h fun p vw1 v H1 F1 S1 S2 a b c d q => ?_
    exact k [.val p] vw1 v H1 F1 S1 S2 ⟨v, [], S1, f0, rfl, fun _ => rfl, a, rfl, fun _ => rfl⟩ b c d q
/-- what a slice makes -/
def opSl (ps : List PV) (lo hi : Option Int) : Option PV := match ps with
  | [.nd .tup _ xs] => if pures xs = true then some (T ((xs.drop (HT.sIx xs.length 0 lo)).take (HT.sIx xs.length xs.length hi - HT.sIx xs.length 0 lo))) else none
  | [.nd .lst _ xs] => if pures xs = true then some (L ((xs.drop (HT.sIx xs.length 0 lo)).take (HT.sIx xs.length xs.length hi - HT.sIx xs.length 0 lo))) else none
  | [.str z] => if z.length ≤ sizeLine then some (.str (cutS z lo hi)) else none
  | _ => none
def iSl (o : Opd) (lo hi : Option II) : IE := fun vw => (evO [o] vw).bind fun ods vw1 => (evP lo vw1).bind fun l vw2 => (evP hi vw2).bind fun h vw3 => fin (fun ps => opSl ps l h) ods vw3
def rSlAll (K : PySem.W.Frag) : V → Option Int → Option Int → Hp → VK → Prop := fun x lo hi H Q => rSlL K x lo hi H Q ∨ rSlA K x lo hi H Q ∨ rSlS x lo hi H Q
theorem sl_all : SlR X (rSlAll X.K) := SlR.or sl_list (SlR.or sl_tupA sl_str)
theorem pures_sub {xs ys : List PV} (h : pures xs = true) (s : ∀ y ∈ ys, y ∈ xs) : pures ys = true := by
  rw [pures_mem] at h ⊢
  exact fun y hy => h y (s y hy)
theorem Rps.drop {K : PySem.W.Frag} {H : Hp} {F : Fz} : ∀ {xs : List PV} {vs : List V} (n : Nat), Rps K H F xs vs f0 → pures xs = true → Rps K H F (xs.drop n) (vs.drop n) f0
  | xs, vs, 0, r, _ => r
  | [], _, n + 1, r, _ => by obtain ⟨rfl, _⟩ := r; exact ⟨rfl, fun _ => rfl⟩
  | x :: xs, _, n + 1, r, hp => by
    obtain ⟨v, vs', S1, S2, rfl, _, h1, h2⟩ := r
    rw [pures, Bool.and_eq_true] at hp
    exact Rps.drop n (rps_zero h2 hp.2) hp.2
theorem Rps.take {K : PySem.W.Frag} {H : Hp} {F : Fz} : ∀ {xs : List PV} {vs : List V} (n : Nat), Rps K H F xs vs f0 → pures xs = true → Rps K H F (xs.take n) (vs.take n) f0
  | xs, vs, 0, r, _ => ⟨rfl, fun _ => rfl⟩
  | [], _, n + 1, r, _ => by obtain ⟨rfl, _⟩ := r; exact ⟨rfl, fun _ => rfl⟩
  | x :: xs, _, n + 1, r, hp => by
    obtain ⟨v, vs', S1, S2, rfl, _, h1, h2⟩ := r
    rw [pures, Bool.and_eq_true] at hp
    exact ⟨v, vs'.take n, f0, f0, rfl, fun _ => rfl, rp_zero h1 hp.1, Rps.take n (rps_zero h2 hp.2) hp.2⟩
theorem rps_cut {K : PySem.W.Frag} {H : Hp} {F : Fz} {xs : List PV} {vs : List V} {lo hi : Option Int} (r : Rps K H F xs vs f0) (hp : pures xs = true) :
    Rps K H F ((xs.drop (HT.sIx xs.length 0 lo)).take (HT.sIx xs.length xs.length hi - HT.sIx xs.length 0 lo)) (cutV vs lo hi) f0 := by
  unfold cutV
  rw [← r.length]
  exact Rps.take _ (Rps.drop _ r hp) (pures_sub hp fun y hy => List.mem_of_mem_drop hy)
theorem pures_cut {xs : List PV} {n m : Nat} (hp : pures xs = true) : pures ((xs.drop n).take m) = true := pures_sub hp fun y hy => List.mem_of_mem_drop (List.mem_of_mem_take hy)
theorem strOk_cut {z : Str} {lo hi : Option Int} (h : PyData.strOk z = true) : PyData.strOk (cutS z lo hi) = true := by
  rw [strOk_iff] at h ⊢
  intro c hc
  unfold cutS at hc
  simp only [List.mem_toArray] at hc
  exact h c (by simpa using List.mem_of_mem_drop (List.mem_of_mem_take hc))
theorem os_sl {lo hi : Option Int} : OpS X (fun vs H Q => match vs with | [x] => rSlAll X.K x lo hi H Q | _ => False) (fun ps => opSl ps lo hi) := by
  intro ps vs p H F Q rq e k
  have e : opSl ps lo hi = some p := e
  unfold opSl at e
  split at e
  · split at e
    · rename_i hp
      cases e
      obtain ⟨v, S, rfl, a, as, Sa, rfl, ha, ra, _⟩ := rq1 (ps := []) rq
      have r0 := rps_zero ra hp
      refine .inr (.inl ⟨a, as, rfl, SqT.of ha, fun hw => ?_, fun hw q hq => ktup k hq (rps_cut r0 hp) (pures_cut hp)⟩)
      refine k0 k ⟨a, as, f0, rfl, ha, ?_, fun _ => rfl⟩
      have e1 := rps_cut (lo := lo) (hi := hi) r0 hp
      unfold cutV at e1
      rw [hw.1, hw.2] at e1
      simpa using e1
    · cases e
  · split at e
    · rename_i hp
      cases e
      obtain ⟨v, S, rfl, a, as, Sa, rfl, ha, ra, _⟩ := rq1 (ps := []) rq
      exact .inl ⟨a, as, rfl, SqL.of ha, fun q hq => klst k hq (rps_cut (rps_zero ra hp) hp) (pures_cut hp)⟩
    · cases e
  · split at e
    · cases e
      obtain ⟨v, S, rfl, rfl, h, _⟩ := rq1 (ps := []) rq
      exact .inr (.inr ⟨_, rfl, by assumption, kstr k (strOk_cut h)⟩)
    · cases e
  · cases e
theorem se_sl {e : Expr} {lo hi : Option Expr} {o : Opd} {il ih : Option II} {p2 pos : Pos} (ho : SO X e o) (hl : SP2 X lo il) (hh : SP2 X hi ih) : SE X (.Subscript e (.Slice lo hi none p2) pos) (iSl o il ih) := fun W tk =>
  (pe_slice sl_all (ho W tk) (hl W tk) (hh W tk)).imp fun σ H Q ⟨F, vw, S, hv, g, h⟩ => by
    refine run1 (T := f0) (oblX (rlE X.K) X.K σ W Q) hv (gd_zero g) (by rw [fz_add]; exact h) fun ods vw1 x H1 F1 S1 S2 a b c _ q => ?_
    rw [fz_add] at c q
    refine runP (oblX (rlE X.K) X.K σ W Q) b c q fun l vw2 H2 F2 S3 b2 c2 d2 q2 => ?_
    refine runP (oblX (rlE X.K) X.K σ W Q) b2 c2 q2 fun u vw3 H3 F3 S4 b3 c3 d3 q3 => ?_
    exact os_fin (os_sl (lo := l) (hi := u)) ((a.keep d2).keep d3) b3 c3 q3
end
end Bx
set_option Elab.async false
set_option linter.all false
set_option maxRecDepth 100000
set_option maxHeartbeats 4000000
/-! L2h: lists of values, displays, fields, dict.get, index. -/
namespace Bx
open PySem PySem.Spec PyProof.Rows L2
variable [Tbs]
/-! ### values one behind the other -/
def evA : List IE → Vw → R (List PV)
  | [], vw => .ok [] vw
  | i :: is, vw => (i vw).bind fun p vw1 => (evA is vw1).bind fun l vw' => .ok (p :: l) vw'
def tAs (K : PySem.W.Frag) : List IE → WX → TA
  | [], _ => tNil
  | i :: is, W => tCons (tE K i W) (tAs K is W)
def SAs (X : Cx) (es : List Expr) (is : List IE) : Prop := ∀ W, Takes X W → PA X es (tAs X.K is W)
section
variable {X : Cx} {e : Expr} {es : List Expr} {i : IE} {is : List IE} {pos : Pos}
theorem sas_nil : SAs X [] [] := fun W tk => pa_nil
theorem sas_cons (h : SE X e i) (hs : SAs X es is) (hst : starEach (e :: es) X.env = (false, eval e X.env) :: starEach es X.env := by rfl) : SAs X (e :: es) (i :: is) := fun W tk => pa_cons (h W tk) (hs W tk) hst
theorem runA {W : WX} {σ : St} {γ : Type} (O : Obl X.K W σ γ) : ∀ {is : List IE} {H : Hp} {F : Fz} {vw : Vw} {S T : Fp} {f : List PV → Vw → R γ} {Q' : List V → Hp → Prop}, Rvw X.K H F vw σ S → Gd H F (fadd T S) →
    O.p ((evA is vw).bind f) H F (fadd T S) →
    (∀ ps vw' vs H' F' S1 S2, Rps X.K H' F' ps vs S1 → Rvw X.K H' F' vw' σ S2 → Gd H' F' (fadd T (fadd S1 S2)) → Kp H F H' F' T → O.p (f ps vw') H' F' (fadd T (fadd S1 S2)) → Q' vs H') → tAs X.K is W σ H Q'
  | [], H, F, vw, S, T, f, Q', hv, g, h, k => k [] vw [] H F f0 S ⟨rfl, fun _ => rfl⟩ hv (by rw [fz_add]; exact g) ⟨fun a o e _ _ => e, fun a z => z⟩ (by rw [fz_add]; exact h)
  | i :: is, H, F, vw, S, T, f, Q', hv, g, h, k => by
    unfold evA at h
    rw [R.bind_assoc] at h
    refine run (rlE X.K) O hv g h fun p vw1 v H1 F1 S1 S2 a b c d q => ?_
    rw [← fadd_assoc] at c q
    rw [R.bind_assoc] at q
    refine runA O b c q fun ps vw' vs H' F' T1 T2 a' b' c' d' q' => ?_
    have kt : Kp H1 F1 H' F' T := d'.mono fun b => Nat.le_add_right _ _
    have ks1 : Rp X.K H' F' p v S1 := Rp.keep a (d'.mono fun b => Nat.le_add_left _ _)
    have e : fadd (fadd T S1) (fadd T1 T2) = fadd T (fadd (fadd S1 T1) T2) := by rw [fadd_assoc, fadd_assoc]
    rw [e] at c' q'
    refine k (p :: ps) vw' (v :: vs) H' F' (fadd S1 T1) T2 ⟨v, vs, S1, T1, rfl, fun _ => rfl, ks1, a'⟩ b' c' ⟨fun x o hx z n => ?_, fun x z => d'.2 x (d.2 x z)⟩ q'
    refine kt.1 x o (d.1 x o hx z n) ?_ n
    rcases z with z | z | z
    · exact .inl z
    · exact .inr (.inl (d.2 x z))
    · exact .inr (.inr z)
/-! ### displays: a tuple, a list -/
def iTup (is : List IE) : IE := fun vw => (evA is vw).bind fun ps vw' => if ps.length ≤ sizeLine then .ok (T ps) vw' else .no
def iLst (is : List IE) : IE := fun vw => (evA is vw).bind fun ps vw' => if ps.length ≤ sizeLine then .ok (L ps) vw' else .no
theorem kp_upd {H : Hp} {F : Fz} {S : Fp} {q : Addr} {o : HO} (hq : H q = none) : Kp H F (upd H q o) F S := same_kp (same_upd hq)
/-- a new thing at q: with its parts' footprint S1 -/
theorem new_gd {H : Hp} {F : Fz} {S1 S2 : Fp} {q : Addr} {o : HO} (hq : H q = none) (g : Gd H F (fadd S1 S2)) : Gd (upd H q o) F (fadd S1 S2) :=
  ⟨g.le, g.nf, fun a z => by
    have m := g.mu a z
    have : a ≠ q := fun e => by subst e; rw [hq] at m; exact m
    rw [upd_ne this]; exact m, fun a z => nfre_same (same_upd hq) (g.fr a z), tabs_same (same_upd hq) g.tb⟩
theorem new_gd1 {H : Hp} {F : Fz} {S1 S2 : Fp} {q : Addr} {o : HO} (hq : H q = none) (hm : Mut (some o)) (g : Gd H F (fadd S1 S2)) : Gd (upd H q o) F (fadd (fadd (one q) S1) S2) := by
  have z1 : S1 q = 0 ∧ S2 q = 0 := by
    have : ¬ 0 < fadd S1 S2 q := fun z => by have := g.mu q z; rw [hq] at this; exact this
    have h : ¬ 0 < S1 q + S2 q := this
    omega
  refine ⟨fun a => ?_, fun a z => ?_, fun a z => ?_, (new_gd (o := o) hq g).fr, (new_gd (o := o) hq g).tb⟩
  · show one q a + S1 a + S2 a ≤ 1
    unfold one
    have l : S1 a + S2 a ≤ 1 := g.le a
    split
    · rename_i h; subst h; omega
    · omega
  · by_cases h : a = q
    · subst h; exact fun f => g.fr _ f (.inl hq)
    · refine g.nf a ?_
      have z' : 0 < one q a + S1 a + S2 a := z
      unfold one at z'
      rw [if_neg h] at z'
      show 0 < S1 a + S2 a
      omega
  · by_cases h : a = q
    · subst h; rw [upd_same]; exact hm
    · rw [upd_ne h]
      refine g.mu a ?_
      have z' : 0 < one q a + S1 a + S2 a := z
      unfold one at z'
      rw [if_neg h] at z'
      show 0 < S1 a + S2 a
      omega
theorem new_step {H : Hp} {F : Fz} {S S' : Fp} {q : Addr} {o : HO} (hq : H q = none) (h : ∀ a, 0 < S' a → 0 < S a ∨ a = q) : Step H F S (upd H q o) F S' :=
  ⟨fun a u e _ _ => same_upd hq a u e, fun a z => (h a z).imp id fun e => by subst e; exact .inl hq, fun _ z => z, fun _ z => .inl z⟩
theorem se_tup {x1} (h : SAs X es is) : SE X (.Tuple es x1 pos) (iTup is) := fun W tk => (pe_tup (h W tk)).imp fun σ H Q ⟨F, vw, S, hv, g, h⟩ => by
  refine runA (T := f0) (oblX (rlE X.K) X.K σ W Q) hv (gd_zero g) (by rw [fz_add]; exact h) fun ps vw' vs H' F' S1 S2 a b c _ q => ?_
  rw [fz_add] at c q
  have q' : Po (rlE X.K) X.K σ W Q (if ps.length ≤ sizeLine then .ok (T ps) vw' else .no) H' F' (fadd S1 S2) := q
  by_cases hl : ps.length ≤ sizeLine
  · rw [if_pos hl] at q'
    refine ⟨by rw [← a.length]; exact hl, fun d hd => ?_⟩
    exact q' _ _ F' S1 S2 ⟨d, vs, S1, rfl, upd_same, a.keep (kp_upd hd), fun _ => rfl⟩ (b.keep (kp_upd hd)) (new_gd hd c) (new_step hd fun x z => .inl z)
  · rw [if_neg hl] at q'; exact q'.elim
theorem se_lst (h : SAs X es is) : SE X (.List es pos) (iLst is) := fun W tk => (pe_lst (h W tk)).imp fun σ H Q ⟨F, vw, S, hv, g, h⟩ => by
  refine runA (T := f0) (oblX (rlE X.K) X.K σ W Q) hv (gd_zero g) (by rw [fz_add]; exact h) fun ps vw' vs H' F' S1 S2 a b c _ q => ?_
  rw [fz_add] at c q
  have q' : Po (rlE X.K) X.K σ W Q (if ps.length ≤ sizeLine then .ok (L ps) vw' else .no) H' F' (fadd S1 S2) := q
  by_cases hl : ps.length ≤ sizeLine
  · rw [if_pos hl] at q'
    refine ⟨by rw [← a.length]; exact hl, fun d hd => ?_⟩
    refine q' _ _ F' (fadd (one d) S1) S2 ⟨d, vs, S1, rfl, upd_same, a.keep (kp_upd hd), fun _ => rfl⟩ (b.keep (kp_upd hd)) (new_gd1 hd True.intro c) (new_step hd fun x z => ?_)
    have z' : 0 < one d x + S1 x + S2 x := z
    by_cases hx : x = d
    · exact .inr hx
    · refine .inl ?_
      unfold one at z'
      rw [if_neg hx] at z'
      show 0 < S1 x + S2 x
      omega
  · rw [if_neg hl] at q'; exact q'.elim
/-! ### fields -/
def opFld (cls : Addr → Bool) (f : Str) : List PV → Option PV
  | [.nd (.ins C ns) _ xs] => if cls C = true then match dget ns xs f with
    | some p => if p.pure = true then some p else none
    | none => none else none
  | _ => none
/-- what is known of classes whose field f is read -/
def FldOk (K : PySem.W.Frag) (cls : Addr → Bool) (f : Str) : Prop := ∀ C, cls C = true → Cls K C ∧ NoAttr K C f
theorem lookup_val : ∀ {ns : List Str} {vs : List V} (f : Str), (ns.zip vs).lookup f = valV (ns.zip vs) f
  | [], _, f => rfl
  | n :: ns, [], f => rfl
  | n :: ns, v :: vs, f => by
    rw [List.zip_cons_cons]
    by_cases e : n = f
    · subst e
      rw [valV_pos (p := (n, v)) rfl, List.lookup_cons_self]
    · rw [valV_neg (p := (n, v)) e, List.lookup_cons, (by simpa using fun h => e h.symm : (f == n) = false)]
      exact lookup_val f
def rFld (K : PySem.W.Frag) (f : Str) : List V → Hp → VK → Prop := fun vs H Q => match vs with
  | [x] => ∃ a C dx fs v, x = .ref a ∧ H a = some (.ins C dx fs) ∧ Cls K C ∧ NoAttr K C f ∧ fs.lookup f = some v ∧ Q v H
  | _ => False
theorem os_fld {cls : Addr → Bool} {f : Str} (hc : FldOk X.K cls f) : OpS X (rFld X.K f) (opFld cls f) := by
  intro ps vs p H F Q rq e k
  unfold opFld at e
  split at e
  · rename_i C ns o xs
    split at e
    · rename_i hC
      cases e1 : dget ns xs f with
      | none => rw [e1] at e; cases e
      | some p1 =>
        rw [e1] at e
        simp only at e
        split at e
        · rename_i hp
          cases e
          obtain ⟨v, S, rfl, a, as, Sa, rfl, ⟨hl, dx, ha⟩, ra, _⟩ := rq1 (ps := []) rq
          have h1 := dget_v (ks := ns) f ra
          rw [e1] at h1
          cases e2 : valV (ns.zip as) f with
          | none => rw [e2] at h1; exact (show False from h1).elim
          | some w =>
            rw [e2] at h1
            obtain ⟨S3, r3⟩ : ∃ S, Rp X.K H F p w S := h1
            exact ⟨a, C, dx, _, w, rfl, ha, (hc C hC).1, (hc C hC).2, by rw [lookup_val]; exact e2, k0 k (rp_zero r3 hp)⟩
        · cases e
    · cases e
  · cases e
theorem se_fld {o : Opd} {cls : Addr → Bool} {f : Str} (ho : SO X e o) (hc : FldOk X.K cls f) (hb : attributeBase e f X.env (eval e X.env) = eval e X.env := by rfl) : SE X (.Attribute e f pos) (iOp (opFld cls f) [o]) := fun W tk =>
  (pe_fld (ho W tk) hb).imp fun σ H Q q => iop_ok (os := [o]) (r := rFld X.K f) (os_fld hc) q
/-! ### dict.get -/
def isDct : PV → Bool
  | .nd (.dk _) _ _ => true
  | .nd (.dt _) _ _ => true
  | _ => false
theorem isDct_ok {H : Hp} {F : Fz} {p : PV} {v : V} {S : Fp} (r : Rp X.K H F p v S) (e : isDct p = true) : ∃ a, v = .ref a ∧ IsD H a := by
  cases p with
  | nd kd o xs =>
    obtain ⟨a, as, Sa, rfl, ha, ra, _⟩ := r
    cases kd with
    | dk ks =>
      obtain ⟨_, ha⟩ := ha
      cases o with
      | true => exact ⟨a, rfl, .inl ⟨_, .inl ha⟩⟩
      | false => exact ⟨a, rfl, .inl ⟨_, ha⟩⟩
    | dt ks =>
      obtain ⟨_, ha⟩ := ha
      cases o with
      | true => exact ⟨a, rfl, .inr ⟨_, .inl ha⟩⟩
      | false => exact ⟨a, rfl, .inr ⟨_, ha⟩⟩
    | _ => cases e
  | _ => cases e
def opGet1 : List PV → Option PV
  | [d, p] => match look d p with
    | some (some q) => if q.pure = true then some q else none
    | some none => some .non
    | none => none
  | _ => none
def opGet2 : List PV → Option PV
  | [d, p, q] => match look d p with
    | some (some r) => if r.pure = true then some r else none
    | some none => if q.pure = true then some q else none
    | none => none
  | _ => none
theorem os_get1 : OpS X (fun vs H Q => match vs with | [x, y] => ∃ a o, x = .ref a ∧ DGet H a y o ∧ Q (o.getD .non) H | _ => False) opGet1 := by
  intro ps vs p H F Q rq e k
  unfold opGet1 at e
  split at e
  · rename_i d p0
    obtain ⟨v, u, S, S', rfl, r1, r2⟩ := rq2 rq
    cases e1 : look d p0 with
    | none => rw [e1] at e; cases e
    | some r =>
      rw [e1] at e
      obtain ⟨a, o, rfl, g, ro⟩ := look_ok r1 r2 e1
      cases r with
      | none =>
        cases e
        cases o with
        | none => exact ⟨a, none, rfl, g, knon k⟩
        | some w => exact (show False from ro).elim
      | some q1 =>
        simp only at e
        split at e
        · rename_i hp
          cases e
          cases o with
          | none => exact (show False from ro).elim
          | some w =>
            obtain ⟨S3, r3⟩ : ∃ S, Rp X.K H F p w S := ro
            exact ⟨a, some w, rfl, g, k0 k (rp_zero r3 hp)⟩
        · cases e
  · cases e
theorem os_get2 : OpS X (fun vs H Q => match vs with | [x, y, z] => ∃ a o, x = .ref a ∧ DGet H a y o ∧ Q (o.getD z) H | _ => False) opGet2 := by
  intro ps vs p H F Q rq e k
  unfold opGet2 at e
  split at e
  · rename_i d p0 p2
    obtain ⟨v, u, w, S, S', S'', rfl, r1, r2, r3⟩ := rq3 rq
    cases e1 : look d p0 with
    | none => rw [e1] at e; cases e
    | some r =>
      rw [e1] at e
      obtain ⟨a, o, rfl, g, ro⟩ := look_ok r1 r2 e1
      cases r with
      | none =>
        simp only at e
        split at e
        · rename_i hp
          cases e
          cases o with
          | none => exact ⟨a, none, rfl, g, k0 k (rp_zero r3 hp)⟩
          | some w => exact (show False from ro).elim
        · cases e
      | some q1 =>
        simp only at e
        split at e
        · rename_i hp
          cases e
          cases o with
          | none => exact (show False from ro).elim
          | some w =>
            obtain ⟨S3, r3⟩ : ∃ S, Rp X.K H F p w S := ro
            exact ⟨a, some w, rfl, g, k0 k (rp_zero r3 hp)⟩
        · cases e
  · cases e
theorem se_get1 {d k : Expr} {od ok : Opd} {apos cpos : Pos} (hu : X.A.units + 1 < cLine) (hd : SO X d od) (hk : SO X k ok) (m : M1 X d "get" apos k cpos := by exact ⟨rfl, rfl, rfl, rfl⟩) : SE X (.Call (.Attribute d "get" apos) [k] [] cpos) (iMt isDct opGet1 od [ok]) := fun W tk =>
  (pe_dget1 hu (hd W tk) (hk W tk) m).imp fun σ H Q q => by
    have := imt_ok (C := fun x H => ∃ a, x = .ref a ∧ IsD H a) (fun _ _ _ _ _ r e => isDct_ok r e) os_get1 q
    refine tO_imp this fun x H1 ⟨⟨a, ex, hd⟩, q1⟩ => ⟨a, ex, hd, ?_⟩
    refine tO_imp (o := ok) q1 fun y H2 ⟨a2, o, ex2, g, q2⟩ => ⟨o, ?_, q2⟩
    subst ex
    cases ex2
    exact g
where
  tO_imp {o : Opd} {W : WX} {σ : St} {H : Hp} {Q Q' : VK} (h : tO X.K o W σ H Q) (m : ∀ v H', Q v H' → Q' v H') : tO X.K o W σ H Q' := by
    cases o with
    | v n => obtain ⟨v, e, q⟩ := h; exact ⟨v, e, m _ _ q⟩
    | e i => exact tX.imp h m
end
end Bx
set_option Elab.async false
set_option linter.all false
set_option maxRecDepth 100000
set_option maxHeartbeats 4000000
/-! L3a: what a name owns is changed in place. -/
namespace Bx
open PySem PySem.Spec PyProof.Rows L2
variable [Tbs]
def isMk : Kd → Bool
  | .tup => false
  | .frl => false
  | _ => true
section
variable {K : PySem.W.Frag} {H H' : Hp} {F F' : Fz}
theorem Ow.own {k : Kd} {a : Addr} {S' S : Fp} (hk : isMk k = true) (h : Ow F k true a S' S) : ∀ b, S b = one a b + S' b := by
  cases k with
  | tup => cases hk
  | frl => cases hk
  | _ => exact h
theorem Ow.mk {k : Kd} {a : Addr} {S' : Fp} (hk : isMk k = true) : Ow F k true a S' (fadd (one a) S') := by
  cases k with
  | tup => cases hk
  | frl => cases hk
  | _ => exact fun b => rfl
theorem one_self {a : Addr} : one a a = 1 := if_pos rfl
theorem one_ne {a b : Addr} (h : b ≠ a) : one a b = 0 := if_neg h
/-- it is neither a table nor a code object -/
def Ntab (H : Hp) (a : Addr) : Prop := (∀ ps, H a ≠ some (.tbl ps)) ∧ ∀ φ, H a ≠ some (.ext φ)
theorem tabs_upd {o : HO} {a : Addr} (n : Ntab H a) (t : LamX.Tabs Tbs.l H) : LamX.Tabs Tbs.l (upd H a o) := fun p hp => by
  obtain ⟨ps, h1, h2, h3⟩ := t p hp
  refine ⟨ps, ?_, h2, fun pos cv hc => ?_⟩
  · rw [upd_ne (fun e => n.1 ps (by rw [← e]; exact h1))]
    exact h1
  · obtain ⟨c, e1, e2⟩ := h3 pos cv hc
    refine ⟨c, e1, ?_⟩
    rw [upd_ne (fun e => n.2 _ (by rw [← e]; exact e2))]
    exact e2
theorem nfre_upd {o : HO} {a b : Addr} (ho : Mut (some o)) (h : ¬ Fre H b) : ¬ Fre (upd H a o) b := fun z => by
  by_cases e : b = a
  · subst e
    exact z.no (by rw [upd_same]; exact ho)
  · unfold Fre at z h
    rw [upd_ne e] at z
    exact h z
theorem Has.ntab {k : Kd} {a : Addr} {vs : List V} (hk : isMk k = true) (h : Has K H true k a vs) : Ntab H a := by
  have e : ∃ u, H a = some u ∧ (∀ ps, u ≠ .tbl ps) ∧ ∀ φ, u ≠ .ext φ := by
    cases k with
    | tup => cases hk
    | frl => cases hk
    | lst => exact ⟨_, h, (fun _ z => by cases z), (fun _ z => by cases z)⟩
    | dk ks => exact ⟨_, h.2, (fun _ z => by cases z), (fun _ z => by cases z)⟩
    | dt ks => exact ⟨_, h.2, (fun _ z => by cases z), (fun _ z => by cases z)⟩
    | ins C ns => obtain ⟨_, dx, h⟩ := h; exact ⟨_, h, (fun _ z => by cases z), (fun _ z => by cases z)⟩
    | xc x ns => cases h.1
  obtain ⟨u, e, n1, n2⟩ := e
  exact ⟨fun ps z => n1 ps (by rw [e] at z; cases z; rfl), fun φ z => n2 φ (by rw [e] at z; cases z; rfl)⟩
/-- what a name owns is written otherwise: S1 goes in, T comes out -/
theorem mut_at {vw : Vw} {σ : St} {S1 S2 : Fp} {n : Nat} {k : Kd} {xs : List PV} (hv : Rvw K H F vw σ S2) (g : Gd H F (fadd S1 S2)) (e : vw[n]? = some (some (.nd k true xs))) (hk : isMk k = true) :
    ∃ a vs Sx, σ[n]? = some (some (.ref a)) ∧ Has K H true k a vs ∧ Rps K H F xs vs Sx ∧ Mut (H a) ∧ (∀ b, Sx b ≤ S2 b) ∧ (∀ b, 0 < fadd S1 Sx b → b ≠ a) ∧
      ∀ k' xs' vs' S' T o, isMk k' = true → Rps K H F xs' vs' S' → (∀ b, S' b + T b ≤ S1 b + Sx b) → Mut (some o) → Has K (upd H a o) true k' a vs' →
        Kp H F (upd H a o) F T ∧ ∃ S2', (∀ b, T b + S2' b ≤ S1 b + S2 b) ∧ Rvw K (upd H a o) F (vw.set n (some (.nd k' true xs'))) σ S2' ∧ Gd (upd H a o) F (fadd T S2') ∧ Step H F (fadd S1 S2) (upd H a o) F (fadd T S2') := by
  obtain ⟨v, Sp, Sr, hσ, es, r, hr⟩ := hv.focus e
  obtain ⟨a, vs, Sx, rfl, hh, hx, ow⟩ := r
  have hs := Ow.own hk ow
  have hSa : Sp a = 1 + Sx a := by rw [hs a, one_self]
  have tot : ∀ b, fadd S1 S2 b = S1 b + (one a b + Sx b + Sr b) := fun b => by show S1 b + S2 b = _; rw [es b, hs b]
  have la := g.le a
  rw [tot a, one_self] at la
  have pa : 0 < fadd S1 S2 a := by rw [tot a, one_self]; omega
  have ha : S1 a = 0 ∧ Sx a = 0 ∧ Sr a = 0 := by omega
  have mu : Mut (H a) := g.mu a pa
  have nf : ¬ F a := g.nf a pa
  refine ⟨a, vs, Sx, hσ, hh, hx, mu, fun b => ?_, fun b z c => ?_, ?_⟩
  · rw [es b, hs b]; omega
  · subst c
    have : 0 < S1 b + Sx b := z
    omega
  intro k' xs' vs' S' T o hk' hx' hle hm hh'
  have hT : S' a = 0 ∧ T a = 0 := by have := hle a; omega
  have tbs : LamX.Tabs Tbs.l (upd H a o) := tabs_upd (Has.ntab hk hh) g.tb
  have kp : ∀ U : Fp, U a = 0 → Kp H F (upd H a o) F U := fun U hU => ⟨fun b u hb z _ => by
    have : b ≠ a := fun c => by
      subst c
      rcases z with z | z | z
      · omega
      · exact nf z
      · rw [hb] at mu; exact z mu
    rw [upd_ne this]; exact hb, fun _ z => z⟩
  refine ⟨kp T hT.2, fadd (fadd (one a) S') Sr, fun b => ?_, ?_, ?_, ?_⟩
  · have e1 := tot b
    have e2 : S1 b + S2 b = fadd S1 S2 b := rfl
    have := hle b
    show T b + (one a b + S' b + Sr b) ≤ S1 b + S2 b
    omega
  · have h1 := (hr.keep (kp Sr ha.2.2)).put (n := n) (p := .nd k' true xs') (v := .ref a) (S1 := fadd (one a) S') (by
      rw [List.getElem?_set_self (List.getElem?_eq_some_iff.mp e).1]) hσ ⟨a, vs', S', rfl, hh', hx'.keep (kp S' hT.1), Ow.mk hk'⟩
    rw [List.set_set] at h1
    exact h1
  · refine ⟨fun b => ?_, fun b z => ?_, fun b z => ?_, fun b z => ?_, tbs⟩
    · show T b + (one a b + S' b + Sr b) ≤ 1
      have e1 := tot b
      have := hle b
      have := g.le b
      omega
    · refine g.nf b ?_
      have z' : 0 < T b + (one a b + S' b + Sr b) := z
      have := hle b
      rw [tot b]; omega
    · by_cases c : b = a
      · subst c; rw [upd_same]; exact hm
      · rw [upd_ne c]
        refine g.mu b ?_
        have z' : 0 < T b + (one a b + S' b + Sr b) := z
        have := hle b
        rw [tot b]; omega
    · exact nfre_upd hm (g.fr b z)
  · refine ⟨fun b u hb z _ => ?_, fun b z => ?_, fun _ z => z, fun _ z => .inl z⟩
    · have : b ≠ a := fun c => by subst c; omega
      rw [upd_ne this]; exact hb
    · have z' : 0 < T b + (one a b + S' b + Sr b) := z
      have := hle b
      refine .inl ?_
      rw [tot b]; omega
end
/-- a method that changes its receiver: what it asks, what it makes of the receiver, what it tells -/
def MuS (X : Cx) (r : V → List V → Hp → VK → Prop) (f : Kd → List PV → List PV → Option (Kd × List PV × PV)) : Prop :=
  ∀ (k : Kd) (xs ps : List PV) (k' : Kd) (xs' : List PV) (q : PV) (a : Addr) (vs us : List V) (Sx S1 : Fp) (H : Hp) (F : Fz) (Q : VK), Has X.K H true k a vs → Rps X.K H F xs vs Sx → Rps X.K H F ps us S1 → f k xs ps = some (k', xs', q) → (∀ b, 0 < fadd S1 Sx b → b ≠ a) →
    (∀ v o vs' S' T, isMk k' = true → Mut (some o) → Has X.K (upd H a o) true k' a vs' → Rps X.K H F xs' vs' S' → Rp X.K H F q v T → (∀ b, S' b + T b ≤ S1 b + Sx b) → Q v (upd H a o)) → r (.ref a) us H Q
def muFin (f : Kd → List PV → List PV → Option (Kd × List PV × PV)) (n : Nat) (ps : List PV) (vw : Vw) : R PV := match vw[n]? with
  | some (some (.nd k true xs)) => match isMk k, f k xs ps with
    | true, some (k', xs', q) => .ok q (vw.set n (some (.nd k' true xs')))
    | _, _ => .no
  | _ => .no
theorem mu_fin {X : Cx} {W : WX} {σ : St} {H : Hp} {F : Fz} {vw : Vw} {S1 S2 : Fp} {n : Nat} {ps : List PV} {us : List V} {γ : Type} {r : V → List V → Hp → VK → Prop} {f : Kd → List PV → List PV → Option (Kd × List PV × PV)} (hm : MuS X r f) (O : Obl X.K W σ γ) {f2 : PV → Vw → R γ} {Q : VK}
    (rp : Rps X.K H F ps us S1) (hv : Rvw X.K H F vw σ S2) (g : Gd H F (fadd S1 S2)) (h : O.p ((muFin f n ps vw).bind f2) H F (fadd S1 S2))
    (k : ∀ q vw' v H' S1' S2', Rp X.K H' F q v S1' → Rvw X.K H' F vw' σ S2' → Gd H' F (fadd S1' S2') → O.p (f2 q vw') H' F (fadd S1' S2') → Q v H') : ∃ a, σ[n]? = some (some (.ref a)) ∧ r (.ref a) us H Q := by
  unfold muFin at h
  split at h
  · rename_i kd xs e
    split at h
    · rename_i k' xs' q hk hf
      obtain ⟨a, vs, Sx, hσ, hh, hx, mu, lx, nx, go⟩ := mut_at hv g e hk
      refine ⟨a, hσ, hm kd xs ps k' xs' q a vs us Sx S1 H F Q hh hx rp hf nx fun v o vs' S' T hk' hm' hh' hx' hq hle => ?_⟩
      obtain ⟨kp, S2', l2, rv, g', st⟩ := go k' xs' vs' S' T o hk' hx' hle hm' hh'
      exact k q _ v _ T S2' (hq.keep kp) rv g' (O.stp st h)
    · exact (O.no h).elim
  · exact (O.no h).elim
/-- the name owns a thing of a kind -/
def hasK (ok : Kd → Bool) (n : Nat) (vw : Vw) : Bool := match vw[n]? with
  | some (some (.nd k true _)) => ok k
  | _ => false
def isLK : Kd → Bool
  | .lst => true
  | _ => false
def isDK : Kd → Bool
  | .dk _ => true
  | .dt _ => true
  | _ => false
/-- x.m(args), x a name that owns a changeable thing -/
def iMu (f : Kd → List PV → List PV → Option (Kd × List PV × PV)) (ok : Kd → Bool) (n : Nat) (is : List IE) : IE := fun vw => match hasK ok n vw with
  | true => (evA is vw).bind (muFin f n)
  | false => .no
theorem hasK_ok {K : PySem.W.Frag} {H : Hp} {F : Fz} {vw : Vw} {σ : St} {S : Fp} {ok : Kd → Bool} {n : Nat} (hv : Rvw K H F vw σ S) (e : hasK ok n vw = true) : ∃ k a vs, ok k = true ∧ σ[n]? = some (some (.ref a)) ∧ Has K H true k a vs := by
  unfold hasK at e
  split at e
  · rename_i k xs e1
    obtain ⟨v, S1, S2, hσ, _, ⟨a, vs, Sx, rfl, hh, _, _⟩, _⟩ := hv.focus e1
    exact ⟨k, a, vs, e, hσ, hh⟩
  · cases e
theorem imu_ok {X : Cx} {W : WX} {σ : St} {H : Hp} {Q : VK} {r : V → List V → Hp → VK → Prop} {f : Kd → List PV → List PV → Option (Kd × List PV × PV)} {ok : Kd → Bool} {n : Nat} {is : List IE} {C : V → Hp → Prop} (hC : ∀ H k a vs, ok k = true → Has X.K H true k a vs → C (.ref a) H)
    (hm : MuS X r f) (h : tE X.K (iMu f ok n is) W σ H Q) : tVar n σ H fun x H1 => C x H1 ∧ tAs X.K is W σ H1 fun vs H2 => r x vs H2 Q := by
  obtain ⟨F, vw, S, hv, g, h⟩ := h
  unfold iMu at h
  cases e : hasK ok n vw with
  | false => rw [e] at h; exact h.elim
  | true =>
    rw [e] at h
    obtain ⟨k, a, vs, hk, hσ, hh⟩ := hasK_ok hv e
    refine ⟨.ref a, hσ, hC H k a vs hk hh, ?_⟩
    refine runA (T := f0) (oblX (rlE X.K) X.K σ W Q) hv (gd_zero g) (by rw [fz_add]; exact h) fun ps vw' us H' F' S1 S2 a1 b c _ q => ?_
    rw [fz_add] at c q
    have q' : (oblX (rlE X.K) X.K σ W Q).p ((muFin f n ps vw').bind fun p vw2 => .ok p vw2) H' F' (fadd S1 S2) := by
      cases em : muFin f n ps vw' with
      | no => rw [em] at q; exact q
      | ok p vw2 => rw [em] at q; exact q
      | exc x vw2 => rw [em] at q; exact q
    obtain ⟨a2, hσ2, q2⟩ := mu_fin hm (oblX (rlE X.K) X.K σ W Q) a1 b c q' fun q vw2 v H2 T1 T2 rq rv gg qq => qq v H2 F' T1 T2 rq rv gg Step.refl
    rw [hσ] at hσ2
    cases hσ2
    exact q2
section
variable {X : Cx} {pos : Pos}
theorem Has.lst {K : PySem.W.Frag} {H : Hp} {k : Kd} {a : Addr} {vs : List V} (e : isLK k = true) (h : Has K H true k a vs) : H a = some (.lst vs) := by
  cases k with
  | lst => exact h
  | _ => cases e
/-- a list's method that changes it, as a value -/
theorem se_muL {e : Expr} {es : List Expr} {x name : Str} {p0 apos cpos : Pos} {id : String} {r : V → List V → Hp → VK → Prop} {f : Kd → List PV → List PV → Option (Kd × List PV × PV)} {is : List IE} (n : Nat) (slot : Slot "list" name id) (ty : typeOf (.builtin id) = pure (.type "method_descriptor")) (mt : MtR X id r) (hf : MuS X r f)
    (hs : SAs X (e :: es) is) (hN : X.N[n]? = some x := by rfl) (hv : Vis X.env.scope x := by first | exact Or.inl rfl | exact Or.inr (Or.inl rfl) | exact Or.inr (Or.inr rfl)) (hd : (x == ("__debug__" : Str)) = false := by decide)
    (hcd : (x == ("__classdict__" : Str)) = false := by decide)
    (hbase : attributeBase (.Name x p0) name X.env (eval (.Name x p0) X.env) = eval (.Name x p0) X.env := by rfl)
    (hfew : ((backTo cpos (starEach (e :: es) X.env)).all (fun x => !x.1) && (backToKw cpos (keywordEach [] X.env)).all (fun x => x.1.isSome)
      && decide ((e :: es).length + ([] : List Keyword).length + (if ([] : List Keyword).isEmpty then 0 else 1) < 30)) = true := by rfl)
    (hline : (apos.endLine == cpos.line) = true := by rfl) (hst : starEach (e :: es) X.env = (false, eval e X.env) :: starEach es X.env := by rfl) (hplain : (backTo cpos (starEach es X.env)).any (·.1) = false := by rfl) :
    SE X (.Call (.Attribute (.Name x p0) name apos) (e :: es) [] cpos) (iMu f isLK n is) := fun W tk =>
  (pe_bm PySem.F.plainAttrs_list slot ty mt (pe_var hN hv hd hcd) (hs W tk) hbase hfew hline hst hplain).imp fun σ H Q q =>
    imu_ok (C := fun x H => tyV X.K "list" x H) (fun H k a vs hk hh => .inl ⟨rfl, _, SqL.of (Has.lst hk hh)⟩) hf q
theorem se_mu0L {x name : Str} {p0 apos cpos : Pos} {id : String} {r : V → List V → Hp → VK → Prop} {f : Kd → List PV → List PV → Option (Kd × List PV × PV)} (n : Nat) (slot : Slot "list" name id) (ty : typeOf (.builtin id) = pure (.type "method_descriptor")) (mt : MtR X id r) (hf : MuS X r f)
    (hN : X.N[n]? = some x := by rfl) (hv : Vis X.env.scope x := by first | exact Or.inl rfl | exact Or.inr (Or.inl rfl) | exact Or.inr (Or.inr rfl)) (hd : (x == ("__debug__" : Str)) = false := by decide)
    (hcd : (x == ("__classdict__" : Str)) = false := by decide)
    (hbase : attributeBase (.Name x p0) name X.env (eval (.Name x p0) X.env) = eval (.Name x p0) X.env := by rfl) (hline : (apos.endLine == cpos.line) = true := by rfl) :
    SE X (.Call (.Attribute (.Name x p0) name apos) [] [] cpos) (iMu f isLK n []) := fun W tk =>
  (pe_bm0 PySem.F.plainAttrs_list slot ty mt (pe_var hN hv hd hcd) hbase hline).imp fun σ H Q q =>
    imu_ok (is := []) (C := fun x H => tyV X.K "list" x H) (fun H k a vs hk hh => .inl ⟨rfl, _, SqL.of (Has.lst hk hh)⟩) hf q
/-! ### the lists' methods -/
def muAppend : Kd → List PV → List PV → Option (Kd × List PV × PV)
  | .lst, xs, [p] => if xs.length < sizeLine then some (.lst, xs ++ [p], .non) else none
  | _, _, _ => none
theorem Rps.one {K : PySem.W.Frag} {H : Hp} {F : Fz} {p : PV} {us : List V} {S : Fp} (h : Rps K H F [p] us S) : ∃ u, us = [u] ∧ Rp K H F p u S := by
  obtain ⟨v, vs', S1, S2, rfl, es, h1, h2, z⟩ := h
  subst h2
  exact ⟨v, rfl, h1.congr fun b => by rw [es b, z b]; omega⟩
theorem Rps.sing {K : PySem.W.Frag} {H : Hp} {F : Fz} {p : PV} {u : V} {S : Fp} (h : Rp K H F p u S) : Rps K H F [p] [u] S :=
  ⟨u, [], S, f0, rfl, fun b => (Nat.add_zero _).symm, h, rfl, fun _ => rfl⟩
theorem ms_append : MuS X rAppend muAppend := by
  intro k xs ps k' xs' q a vs us Sx S1 H F Q hh hx hp hf nx go
  unfold muAppend at hf
  split at hf
  · rename_i xs p
    split at hf
    · rename_i hl
      cases hf
      obtain ⟨u, rfl, rp⟩ := hp.one
      refine ⟨a, vs, u, rfl, rfl, hh, by rw [← hx.length]; exact hl, ?_⟩
      exact go .non (.lst (vs ++ [u])) (vs ++ [u]) (fadd Sx S1) f0 rfl True.intro upd_same (hx.append (Rps.sing rp)) ⟨rfl, fun _ => rfl⟩ fun b => by show Sx b + S1 b + 0 ≤ _; omega
    · cases hf
  · cases hf
theorem Rps.sub {K : PySem.W.Frag} {H : Hp} {F : Fz} {k : Kd} {o : Bool} {xs : List PV} {v : V} {S : Fp} (h : Rp K H F (.nd k o xs) v S) : ∃ a vs S', v = .ref a ∧ Has K H o k a vs ∧ Rps K H F xs vs S' ∧ ∀ b, S' b ≤ S b := by
  obtain ⟨a, vs, S', rfl, h1, h2, h3⟩ := h
  refine ⟨a, vs, S', rfl, h1, h2, fun b => ?_⟩
  cases k with
  | tup => rw [show S b = S' b from h3 b]; exact Nat.le_refl _
  | frl => rw [show S b = S' b from h3 b]; exact Nat.le_refl _
  | _ =>
    cases o with
    | true => rw [show S b = (if b = a then 1 else 0) + S' b from h3 b]; exact Nat.le_add_left _ _
    | false => rw [(show (∀ b, S b = 0) ∧ (∀ b, S' b = 0) ∧ F a from h3).2.1 b]; exact Nat.zero_le _
def muExtend : Kd → List PV → List PV → Option (Kd × List PV × PV)
  | .lst, xs, [.nd .lst _ ys] => if xs.length + ys.length ≤ sizeLine then some (.lst, xs ++ ys, .non) else none
  | _, _, _ => none
theorem ms_extend : MuS X rExtend muExtend := by
  intro k xs ps k' xs' q a vs us Sx S1 H F Q hh hx hp hf nx go
  unfold muExtend at hf
  split at hf
  · rename_i xs o ys
    split at hf
    · rename_i hl
      cases hf
      obtain ⟨u, rfl, rp⟩ := hp.one
      obtain ⟨b, ws, Sy, rfl, hb, hy, ly⟩ := Rps.sub rp
      refine ⟨a, b, vs, ws, rfl, rfl, hh, hb, by rw [← hx.length, ← hy.length]; exact hl, ?_⟩
      exact go .non (.lst (vs ++ ws)) (vs ++ ws) (fadd Sx Sy) f0 rfl True.intro upd_same (hx.append hy) ⟨rfl, fun _ => rfl⟩ fun b => by show Sx b + Sy b + 0 ≤ _; have := ly b; omega
    · cases hf
  · cases hf
/-- an item, the others -/
theorem Rps.out {K : PySem.W.Frag} {H : Hp} {F : Fz} : ∀ {xs : List PV} {vs : List V} {S : Fp} {i : Nat} {p : PV}, Rps K H F xs vs S → xs[i]? = some p → ∃ v T S', vs[i]? = some v ∧ Rp K H F p v T ∧ Rps K H F (xs.eraseIdx i) (vs.eraseIdx i) S' ∧ ∀ b, S' b + T b = S b
  | [], _, _, i, _, _, e => by simp at e
  | x :: xs, _, S, 0, p, h, e => by
    obtain ⟨v, vs', S1, S2, rfl, es, h1, h2⟩ := h
    simp at e
    subst e
    exact ⟨v, S1, S2, rfl, h1, h2, fun b => by rw [es b]; omega⟩
  | x :: xs, _, S, i + 1, p, h, e => by
    obtain ⟨v, vs', S1, S2, rfl, es, h1, h2⟩ := h
    obtain ⟨w, T, S', g1, g2, g3, g4⟩ := Rps.out h2 (i := i) (by simpa using e)
    exact ⟨w, T, fadd S1 S', by simpa using g1, g2, ⟨v, _, S1, S', rfl, fun _ => rfl, h1, g3⟩, fun b => by rw [es b, ← g4 b]; show S1 b + S' b + T b = _; omega⟩
/-- an item is exchanged -/
theorem Rps.swap {K : PySem.W.Frag} {H : Hp} {F : Fz} : ∀ {xs : List PV} {vs : List V} {S T : Fp} {i : Nat} {p : PV} {v : V}, Rps K H F xs vs S → Rp K H F p v T → i < xs.length → ∃ S', Rps K H F (xs.set i p) (vs.set i v) S' ∧ ∀ b, S' b ≤ S b + T b
  | [], _, _, _, i, _, _, _, _, e => by simp at e
  | x :: xs, _, S, T, 0, p, w, h, r, e => by
    obtain ⟨v, vs', S1, S2, rfl, es, h1, h2⟩ := h
    exact ⟨fadd T S2, ⟨w, vs', T, S2, rfl, fun _ => rfl, r, h2⟩, fun b => by rw [es b]; show T b + S2 b ≤ _; omega⟩
  | x :: xs, _, S, T, i + 1, p, w, h, r, e => by
    obtain ⟨v, vs', S1, S2, rfl, es, h1, h2⟩ := h
    obtain ⟨S', g1, g2⟩ := Rps.swap h2 r (i := i) (by simpa using e)
    exact ⟨fadd S1 S', ⟨v, _, S1, S', rfl, fun _ => rfl, h1, g1⟩, fun b => by rw [es b]; have := g2 b; show S1 b + S' b ≤ _; omega⟩
def muPop : Kd → List PV → List PV → Option (Kd × List PV × PV)
  | .lst, xs, [] => match xs[xs.length - 1]? with
    | some p => some (.lst, xs.eraseIdx (xs.length - 1), p)
    | none => none
  | _, _, _ => none
theorem erase_last {α : Type} : ∀ xs : List α, xs.eraseIdx (xs.length - 1) = xs.dropLast := fun xs => by rw [List.eraseIdx_length_sub_one]
theorem ms_pop : MuS X rPop muPop := by
  intro k xs ps k' xs' q a vs us Sx S1 H F Q hh hx hp hf nx go
  unfold muPop at hf
  split at hf
  · rename_i xs
    split at hf
    · rename_i p e
      cases hf
      obtain ⟨rfl, z⟩ := hp
      obtain ⟨v, T, S', e1, r1, r2, es⟩ := hx.out e
      rw [hx.length] at e1
      refine ⟨a, vs, v, rfl, rfl, hh, e1, ?_⟩
      rw [← erase_last, ← hx.length]
      exact go v (.lst _) _ S' T rfl True.intro upd_same r2 r1 fun b => by rw [es b]; omega
    · cases hf
  · cases hf
def muPopAt : Kd → List PV → List PV → Option (Kd × List PV × PV)
  | .lst, xs, [.int i] => match ixN xs.length i with
    | some j => match xs[j]? with
      | some p => if -(2 ^ 63) ≤ i ∧ i < 2 ^ 63 then some (.lst, xs.eraseIdx j, p) else none
      | none => none
    | none => none
  | _, _, _ => none
theorem ms_popAt : MuS X rPopAt muPopAt := by
  intro k xs ps k' xs' q a vs us Sx S1 H F Q hh hx hp hf nx go
  unfold muPopAt at hf
  split at hf
  · rename_i xs i
    split at hf
    · rename_i j ej
      split at hf
      · rename_i p e
        split at hf
        · rename_i hb
          cases hf
          obtain ⟨u, rfl, rp⟩ := hp.one
          obtain ⟨rfl, _⟩ := rp
          obtain ⟨v, T, S', e1, r1, r2, es⟩ := hx.out e
          refine ⟨a, vs, i, j, v, rfl, rfl, hh, hb.1, hb.2, by rw [← hx.length]; exact (ixN_seq ej).1, e1, ?_⟩
          exact go v (.lst _) _ S' T rfl True.intro upd_same r2 r1 fun b => by rw [es b]; omega
        · cases hf
      · cases hf
    · cases hf
  · cases hf
def muReverse : Kd → List PV → List PV → Option (Kd × List PV × PV)
  | .lst, xs, [] => some (.lst, xs.reverse, .non)
  | _, _, _ => none
theorem Rps.rev {K : PySem.W.Frag} {H : Hp} {F : Fz} : ∀ {xs : List PV} {vs : List V} {S : Fp}, Rps K H F xs vs S → Rps K H F xs.reverse vs.reverse S
  | [], _, _, h => by obtain ⟨rfl, z⟩ := h; exact ⟨rfl, z⟩
  | x :: xs, _, _, h => by
    obtain ⟨v, vs', S1, S2, rfl, es, h1, h2⟩ := h
    rw [List.reverse_cons, List.reverse_cons]
    exact (h2.rev.append (Rps.sing h1)).congr fun b => by rw [es b]; show S2 b + S1 b = _; omega
theorem ms_reverse : MuS X rReverse muReverse := by
  intro k xs ps k' xs' q a vs us Sx S1 H F Q hh hx hp hf nx go
  unfold muReverse at hf
  split at hf
  · cases hf
    obtain ⟨rfl, z⟩ := hp
    exact ⟨a, vs, rfl, rfl, hh, go .non (.lst _) _ Sx f0 rfl True.intro upd_same hx.rev ⟨rfl, fun _ => rfl⟩ fun b => by show Sx b + 0 ≤ _; omega⟩
  · cases hf
def muClear : Kd → List PV → List PV → Option (Kd × List PV × PV)
  | .lst, _, [] => some (.lst, [], .non)
  | _, _, _ => none
theorem ms_clear : MuS X rClear muClear := by
  intro k xs ps k' xs' q a vs us Sx S1 H F Q hh hx hp hf nx go
  unfold muClear at hf
  split at hf
  · cases hf
    obtain ⟨rfl, z⟩ := hp
    exact ⟨a, vs, rfl, rfl, hh, go .non (.lst _) [] f0 f0 rfl True.intro upd_same ⟨rfl, fun _ => rfl⟩ ⟨rfl, fun _ => rfl⟩ fun b => Nat.zero_le _⟩
  · cases hf
end
end Bx
set_option Elab.async false
set_option linter.all false
set_option maxRecDepth 100000
set_option maxHeartbeats 4000000
/-! L3b: stores: x[i] = e, x.f = e, their augmented forms, x op= e, a, b = e. -/
namespace Bx
open PySem PySem.Spec PyProof.Rows L2
variable [Tbs]
section
variable {X : Cx} {pos : Pos}
theorem PS_obl {K : PySem.W.Frag} {fx : Nat → Bool} {D : Ends} {σ : St} {W : WX} {vw' : Vw} {H' : Hp} {F' : Fz} {S2 : Fp} (b : Rvw K H' F' vw' σ S2) (c : Gd H' F' S2) (q : PoS K fx D σ W (.ok .nx vw') H' F' S2) : D.nx σ H' :=
  q σ H' F' S2 b Fix.refl c Step.refl
/-! ### what is stored -/
/-- a dict gets a value: in its place, or at the end -/
def dput {κ : Type} [DecidableEq κ] (ks : List κ) (xs : List PV) (j : κ) (p : PV) : List κ × List PV :=
  if j ∈ ks then (ks, List.zipWith (fun k x => if k = j then p else x) ks xs) else (ks ++ [j], xs ++ [p])
theorem zipW_rps {κ : Type} [DecidableEq κ] {K : PySem.W.Frag} {H : Hp} {F : Fz} {p : PV} {v : V} {j : κ} (r : Rp K H F p v f0) : ∀ {ks : List κ} {xs : List PV} {vs : List V} {S : Fp}, Rps K H F xs vs S →
    ∃ S', Rps K H F (List.zipWith (fun k x => if k = j then p else x) ks xs) (List.zipWith (fun k x => if k = j then v else x) ks vs) S' ∧ ∀ b, S' b ≤ S b
  | [], xs, vs, S, h => ⟨f0, ⟨rfl, fun _ => rfl⟩, fun b => Nat.zero_le _⟩
  | k :: ks, [], vs, S, h => by obtain ⟨rfl, z⟩ := h; exact ⟨f0, ⟨rfl, fun _ => rfl⟩, fun b => Nat.zero_le _⟩
  | k :: ks, x :: xs, vs, S, h => by
    obtain ⟨w, vs', S1, S2, rfl, es, h1, h2⟩ := h
    obtain ⟨S', g1, g2⟩ := zipW_rps r h2 (ks := ks)
    rw [List.zipWith_cons_cons, List.zipWith_cons_cons]
    by_cases e : k = j
    · rw [if_pos e, if_pos e]
      exact ⟨fadd f0 S', ⟨v, _, f0, S', rfl, fun _ => rfl, r, g1⟩, fun b => by rw [es b]; have := g2 b; show 0 + S' b ≤ _; omega⟩
    · rw [if_neg e, if_neg e]
      exact ⟨fadd S1 S', ⟨w, _, S1, S', rfl, fun _ => rfl, h1, g1⟩, fun b => by rw [es b]; have := g2 b; show S1 b + S' b ≤ _; omega⟩
theorem putK_zip {κ : Type} [DecidableEq κ] {j : κ} {v : V} : ∀ {ks : List κ} {vs : List V}, ks.length = vs.length →
    putK (ks.zip vs) j v = if j ∈ ks then ks.zip (List.zipWith (fun k x => if k = j then v else x) ks vs) else (ks ++ [j]).zip (vs ++ [v]) := by
  intro ks vs hl
  have ha : ∀ {ks : List κ} {vs : List V}, ks.length = vs.length → ((ks.zip vs).any fun kv => decide (kv.1 = j)) = decide (j ∈ ks) := by
    intro ks
    induction ks with
    | nil => intro vs _; simp
    | cons k ks ih =>
      intro vs hl
      cases vs with
      | nil => cases hl
      | cons w vs =>
        rw [List.zip_cons_cons, List.any_cons, ih (by simpa using hl)]
        by_cases e : k = j
        · simp [e]
        · have : ¬ j = k := fun z => e z.symm
          simp [e, this]
  have hm : ∀ {ks : List κ} {vs : List V}, (ks.zip vs).map (fun kv => if kv.1 = j then (kv.1, v) else kv) = ks.zip (List.zipWith (fun k x => if k = j then v else x) ks vs) := by
    intro ks
    induction ks with
    | nil => intro vs; rfl
    | cons k ks ih =>
      intro vs
      cases vs with
      | nil => rfl
      | cons w vs =>
        rw [List.zip_cons_cons, List.map_cons, ih, List.zipWith_cons_cons, List.zip_cons_cons]
        by_cases e : k = j
        · simp [e]
        · simp [e]
  unfold putK
  rw [ha hl]
  by_cases e : j ∈ ks
  · rw [if_pos (by simpa using e), if_pos e, hm]
  · rw [if_neg (by simpa using e), if_neg e, List.zip_append hl]; rfl
theorem dput_ok {κ : Type} [DecidableEq κ] {K : PySem.W.Frag} {H : Hp} {F : Fz} {ks : List κ} {xs : List PV} {vs : List V} {S S1 : Fp} {j : κ} {p : PV} {v : V} (h : Rps K H F xs vs S) (r : Rp K H F p v S1) (hl : ks.length = vs.length) (hp : j ∈ ks → p.pure = true) :
    ∃ vs' S', putK (ks.zip vs) j v = (dput ks xs j p).1.zip vs' ∧ (dput ks xs j p).1.length = vs'.length ∧ Rps K H F (dput ks xs j p).2 vs' S' ∧ ∀ b, S' b ≤ S1 b + S b := by
  unfold dput
  rw [putK_zip hl]
  by_cases e : j ∈ ks
  · obtain ⟨S', g1, g2⟩ := zipW_rps (j := j) (rp_zero r (hp e)) h (ks := ks)
    rw [if_pos e, if_pos e]
    exact ⟨_, S', rfl, by rw [List.length_zipWith, hl, Nat.min_self], g1, fun b => by have := g2 b; omega⟩
  · rw [if_neg e, if_neg e]
    exact ⟨_, fadd S S1, rfl, by rw [List.length_append, List.length_append, hl]; rfl, h.append (Rps.sing r), fun b => by show S b + S1 b ≤ _; omega⟩
def memK {κ : Type} [DecidableEq κ] (k : κ) (ks : List κ) : Bool := decide (k ∈ ks)
theorem memK_false {κ : Type} [DecidableEq κ] {k : κ} {ks : List κ} (h : memK k ks = false) : k ∉ ks := of_decide_eq_false h
def muPut : Kd → List PV → List PV → Option (Kd × List PV × PV)
  | .lst, xs, [.int i, p] => match ixN xs.length i with
    | some j => some (.lst, xs.set j p, .non)
    | none => none
  | .dk ks, xs, [kp, p] => match toKey kp with
    | some k => if ks.length < sizeLine ∧ (memK k ks = false ∨ p.pure = true) then some (.dk (dput ks xs k p).1, (dput ks xs k p).2, .non) else none
    | none => none
  | .dt ks, xs, [.nd .tup _ ys, p] => match toKeys ys with
    | some k => if ks.length < sizeLine ∧ (memK k ks = false ∨ p.pure = true) then some (.dt (dput ks xs k p).1, (dput ks xs k p).2, .non) else none
    | none => none
  | _, _, _ => none
def rSetA : TSet := fun o i v H Q => rSetL o i v H Q ∨ rSetD o i v H Q
theorem set_any (hu : X.A.units + 1 < cLine) : PSet X rSetA := by
  intro pins s σ H o i v ov iv u Q I ro ri rv h
  rcases h with h | h
  · exact set_list pins s σ H o i v ov iv u Q I ro ri rv h
  · exact set_dict hu pins s σ H o i v ov iv u Q I ro ri rv h
def rPutA : V → List V → Hp → VK → Prop := fun x us H Q => match us with
  | [i, v] => rSetA x i v H fun H' => Q .non H'
  | _ => False
theorem Rps.two {K : PySem.W.Frag} {H : Hp} {F : Fz} {p q : PV} {us : List V} {S : Fp} (h : Rps K H F [p, q] us S) : ∃ u v S1 S2, us = [u, v] ∧ (∀ b, S b = S1 b + S2 b) ∧ Rp K H F p u S1 ∧ Rp K H F q v S2 := by
  obtain ⟨v, vs', S1, S2, rfl, es, h1, h2⟩ := h
  obtain ⟨u, e, h3⟩ := h2.one
  subst e
  exact ⟨v, u, S1, S2, rfl, es, h1, h3⟩
theorem ms_put : MuS X rPutA muPut := by
  intro k xs ps k' xs' q a vs us Sx S1 H F Q hh hx hp hf nx go
  unfold muPut at hf
  split at hf
  · split at hf
    · rename_i j ej
      cases hf
      obtain ⟨u, v, T1, T2, rfl, es, ⟨rfl, _⟩, r2⟩ := hp.two
      obtain ⟨S', g1, g2⟩ := hx.swap r2 (i := j) (ixN_seq ej).2.1
      refine .inl ⟨a, vs, _, j, rfl, rfl, hh, by rw [← hx.length]; exact ej, ?_⟩
      exact go .non (.lst _) _ S' f0 rfl True.intro upd_same g1 ⟨rfl, fun _ => rfl⟩ fun b => by have := g2 b; have := es b; show S' b + 0 ≤ _; omega
    · cases hf
  · rename_i ks xs kp p
    split at hf
    · rename_i k e
      split at hf
      · rename_i hc
        cases hf
        obtain ⟨u, v, T1, T2, rfl, es, r1, r2⟩ := hp.two
        obtain ⟨hl, hh⟩ := hh
        obtain ⟨vs', S', e1, e2, g1, g2⟩ := dput_ok hx r2 hl fun hj => hc.2.resolve_left fun z => memK_false z hj
        refine .inr ⟨a, _, rfl, .inl ⟨_, k, hh, toKey_v r1 e, by rw [List.length_zip, ← hl, Nat.min_self]; exact hc.1, rfl⟩, ?_⟩
        rw [e1]
        exact go .non (.dK _) vs' S' f0 rfl True.intro ⟨e2, upd_same⟩ g1 ⟨rfl, fun _ => rfl⟩ fun b => by have := g2 b; have := es b; show S' b + 0 ≤ _; omega
      · cases hf
    · cases hf
  · rename_i ks xs o ys p
    split at hf
    · rename_i k e
      split at hf
      · rename_i hc
        cases hf
        obtain ⟨u, v, T1, T2, rfl, es, ⟨b, bs, Sb, rfl, hb, rb, _⟩, r2⟩ := hp.two
        obtain ⟨hl, hh⟩ := hh
        obtain ⟨vs', S', e1, e2, g1, g2⟩ := dput_ok hx r2 hl fun hj => hc.2.resolve_left fun z => memK_false z hj
        have hb' : H b = some (.tup bs) := hb
        rw [toKeys_v rb e] at hb'
        refine .inr ⟨a, _, rfl, .inr ⟨_, k, b, hh, rfl, hb', by rw [List.length_zip, ← hl, Nat.min_self]; exact hc.1, rfl⟩, ?_⟩
        rw [e1]
        exact go .non (.dT _) vs' S' f0 rfl True.intro ⟨e2, upd_same⟩ g1 ⟨rfl, fun _ => rfl⟩ fun b => by have := g2 b; have := es b; show S' b + 0 ≤ _; omega
      · cases hf
    · cases hf
  · cases hf
/-- the name n owns something that may be changed -/
def atK {α : Type} (n : Nat) (f : Vw → R α) : Vw → R α := fun vw => match hasK isMk n vw with
  | true => f vw
  | false => .no
theorem atK_ok {K : PySem.W.Frag} {W : WX} {σ : St} {γ : Type} (O : Obl K W σ γ) {H : Hp} {F : Fz} {vw : Vw} {S T : Fp} {n : Nat} {f : Vw → R γ} (hv : Rvw K H F vw σ S) (h : O.p (atK n f vw) H F T) : ∃ k a vs, isMk k = true ∧ σ[n]? = some (some (.ref a)) ∧ Has K H true k a vs ∧ O.p (f vw) H F T := by
  unfold atK at h
  cases e : hasK isMk n vw with
  | false => rw [e] at h; exact (O.no h).elim
  | true =>
    rw [e] at h
    obtain ⟨k, a, vs, hk, hσ, hh⟩ := hasK_ok hv e
    exact ⟨k, a, vs, hk, hσ, hh, h⟩
/-- x[i] = e -/
def jPut (n : Nat) (ii iv : IE) : IS := fun vw => (iv vw).bind fun p => atK n fun vw1 => (ii vw1).bind fun q vw2 => (muFin muPut n [q, p] vw2).bind fun _ vw3 => .ok .nx vw3
theorem ss_put {x : Str} {e i : Expr} {ie ii : IE} {p0 pos' : Pos} (hu : X.A.units + 1 < cLine) (n : Nat) (hi : SE X i ii) (he : SE X e ie) (hN : X.N[n]? = some x := by rfl) (hv : Vis X.env.scope x := by first | exact Or.inl rfl | exact Or.inr (Or.inl rfl) | exact Or.inr (Or.inr rfl)) (hd : (x == ("__debug__" : Str)) = false := by decide)
    (hcd : (x == ("__classdict__" : Str)) = false := by decide)
    (hs : swapsWithSole [.Subscript (.Name x p0) i pos'] e pos.line X.env = pure false := by rfl) (hw : swappedStores [.Subscript (.Name x p0) i pos'] e X.env = pure none := by rfl)
    (h1 : (assignEach [.Subscript (.Name x p0) i pos'] X.env).map (·.2) = [assign (.Subscript (.Name x p0) i pos') X.env] := by rfl)
    (ha : ∀ v, assign (.Subscript (.Name x p0) i pos') X.env v = (do
      let ov ← holding [v] (eval (.Name x p0) X.env)
      let iv ← holding [v, ov] (eval i X.env)
      standAt pos'
      holding [v, ov, iv] (setItem ov iv v)
      release [v, ov, iv] []) := by intro _; rfl) {fx : Nat → Bool} : SS X fx (.Assign [.Subscript (.Name x p0) i pos'] e pos) (jPut n ii ie) := fun W tk =>
  (ps_asg (he W tk) (pg_sub (pe_var hN hv hd hcd) (hi W tk) (set_any hu) ha) hs hw h1).imp fun D σ H ⟨F, vw, S, hv, g, h⟩ => by
    refine run (T := f0) (rlE X.K) (oblS X.K fx D σ W) hv (gd_zero g) (by rw [fz_add]; exact h) fun p vw1 v H1 F1 S1 S2 r1 v1 g1 _ q1 => ?_
    rw [fz_add] at g1 q1
    obtain ⟨k, a, vs, hk, hσ, hh, q1⟩ := atK_ok (oblS X.K fx D σ W) v1 q1
    refine ⟨.ref a, hσ, ?_⟩
    refine run (T := S1) (rlE X.K) (oblS X.K fx D σ W) v1 g1 q1 fun q vw2 u H2 F2 T1 T2 r2 v2 g2 k2 q2 => ?_
    have r1' := Rp.keep r1 k2
    have e3 : fadd S1 (fadd T1 T2) = fadd (fadd T1 S1) T2 := by rw [← fadd_assoc, fadd_comm S1 T1]
    rw [e3] at g2 q2
    obtain ⟨a2, hσ2, q3⟩ := mu_fin (us := [u, v]) ms_put (oblS X.K fx D σ W) (Rps.cons r2 (Rps.sing r1')) v2 g2 q2 (Q := fun _ H => D.nx σ H) fun q vw2 v H2 U1 U2 rq rv gg qq =>
      PS_obl (W := W) rv (gg.sub fun _ => Nat.le_add_left _ _) ((oblS X.K fx D σ W).stp (Step.refl.sub fun _ => Nat.le_add_left _ _) qq)
    rw [hσ] at hσ2
    cases hσ2
    exact q3
/-! ### x.f = e -/
def fput (f : Str) (p : PV) : List Str → List PV → List Str × List PV
  | g :: ns, x :: xs => if g = f then (g :: ns, p :: xs) else (g :: (fput f p ns xs).1, x :: (fput f p ns xs).2)
  | _, _ => ([f], [p])
theorem fput_ok {K : PySem.W.Frag} {H : Hp} {F : Fz} {f : Str} {p : PV} {v : V} {S1 : Fp} (r : Rp K H F p v S1) : ∀ {ns : List Str} {xs : List PV} {vs : List V} {S : Fp}, Rps K H F xs vs S → ns.length = vs.length →
    ∃ vs' S', putF f v (ns.zip vs) = (fput f p ns xs).1.zip vs' ∧ (fput f p ns xs).1.length = vs'.length ∧ Rps K H F (fput f p ns xs).2 vs' S' ∧ ∀ b, S' b ≤ S1 b + S b
  | [], xs, vs, S, h, hl => by
    have : vs = [] := List.length_eq_zero_iff.mp hl.symm
    subst this
    refine ⟨[v], S1, rfl, rfl, ?_, fun b => by omega⟩
    exact Rps.sing r
  | g :: ns, [], vs, S, h, hl => by
    obtain ⟨rfl, _⟩ := h
    cases hl
  | g :: ns, x :: xs, vs, S, h, hl => by
    obtain ⟨w, vs', T1, T2, rfl, es, h1, h2⟩ := h
    rw [fput, List.zip_cons_cons]
    by_cases e : g = f
    · rw [if_pos e, putF, if_pos e]
      exact ⟨v :: vs', fadd S1 T2, rfl, hl, ⟨v, vs', S1, T2, rfl, fun _ => rfl, r, h2⟩, fun b => by rw [es b]; show S1 b + T2 b ≤ _; omega⟩
    · obtain ⟨us, S', g1, g2, g3, g4⟩ := fput_ok r h2 (ns := ns) (by simpa using hl)
      rw [if_neg e, putF, if_neg e, g1]
      exact ⟨w :: us, fadd T1 S', rfl, by simp [g2], ⟨w, us, T1, S', rfl, fun _ => rfl, h1, g3⟩, fun b => by rw [es b]; have := g4 b; show T1 b + S' b ≤ _; omega⟩
def muFld (cls : Addr → Bool) (f : Str) : Kd → List PV → List PV → Option (Kd × List PV × PV)
  | .ins C ns, xs, [p] => if cls C = true ∧ ns.length < 1000 then some (.ins C (fput f p ns xs).1, (fput f p ns xs).2, .non) else none
  | _, _, _ => none
def rPutF (K : PySem.W.Frag) (cls : Addr → Bool) (f : Str) : V → List V → Hp → VK → Prop := fun x us H Q => ∃ y a C dx fs, cls C = true ∧ us = [y] ∧ x = .ref a ∧ H a = some (.ins C dx fs) ∧ Cls K C ∧ NoAttr K C f ∧ fs.length < 1000 ∧ Q .non (upd H a (.ins C dx (putF f y fs)))
theorem ms_fld {cls : Addr → Bool} {f : Str} (hc : FldOk X.K cls f) : MuS X (rPutF X.K cls f) (muFld cls f) := by
  intro k xs ps k' xs' q a vs us Sx S1 H F Q hh hx hp hf nx go
  unfold muFld at hf
  split at hf
  · split at hf
    · rename_i hb
      cases hf
      obtain ⟨u, rfl, rp⟩ := hp.one
      obtain ⟨hl, dx, hh⟩ := hh
      obtain ⟨h1, h2⟩ := hc _ hb.1
      obtain ⟨vs', S', e1, e2, e3, e4⟩ := fput_ok (f := f) rp hx hl
      refine ⟨u, a, _, dx, _, hb.1, rfl, rfl, hh, h1, h2, by rw [List.length_zip, hl, Nat.min_self, ← hl]; exact hb.2, ?_⟩
      rw [e1]
      exact go .non _ vs' S' f0 rfl True.intro ⟨e2, dx, upd_same⟩ e3 ⟨rfl, fun _ => rfl⟩ fun b => by have := e4 b; show S' b + 0 ≤ _; omega
    · cases hf
  · cases hf
/-- x.f = e -/
def jFld (cls : Addr → Bool) (f : Str) (n : Nat) (iv : IE) : IS := fun vw => (iv vw).bind fun p vw1 => (muFin (muFld cls f) n [p] vw1).bind fun _ vw3 => .ok .nx vw3
theorem ss_fld {x f : Str} {e : Expr} {ie : IE} {p0 pos' : Pos} {cls : Addr → Bool} (hc : FldOk X.K cls f) (n : Nat) (he : SE X e ie) (hN : X.N[n]? = some x := by rfl) (hv : Vis X.env.scope x := by first | exact Or.inl rfl | exact Or.inr (Or.inl rfl) | exact Or.inr (Or.inr rfl)) (hd : (x == ("__debug__" : Str)) = false := by decide)
    (hcd : (x == ("__classdict__" : Str)) = false := by decide) (hs : swapsWith e (some (.Attribute (.Name x p0) f pos')) pos.line X.env = pure false := by rfl) {fx : Nat → Bool} : SS X fx (.Assign [.Attribute (.Name x p0) f pos'] e pos) (jFld cls f n ie) := fun W tk =>
  (ps_fld (pe_var hN hv hd hcd) (he W tk) hs).imp fun D σ H ⟨F, vw, S, hv, g, h⟩ => by
    refine run (T := f0) (rlE X.K) (oblS X.K fx D σ W) hv (gd_zero g) (by rw [fz_add]; exact h) fun p vw1 v H1 F1 S1 S2 r1 v1 g1 _ q1 => ?_
    rw [fz_add] at g1 q1
    obtain ⟨a2, hσ2, y, a, C, dx, fs, _, e1, e2, e3, e4, e5, e6, q3⟩ := mu_fin (us := [v]) (ms_fld hc) (oblS X.K fx D σ W) (Rps.sing r1) v1 g1 q1 (Q := fun _ H => D.nx σ H) fun q vw2 v H2 U1 U2 rq rv gg qq =>
      PS_obl (W := W) rv (gg.sub fun _ => Nat.le_add_left _ _) ((oblS X.K fx D σ W).stp (Step.refl.sub fun _ => Nat.le_add_left _ _) qq)
    cases e1
    exact ⟨.ref a2, hσ2, a, C, dx, fs, e2, e3, e4, e5, e6, q3⟩
/-! ### augmented stores: ints and texts -/
/-- an operator in place, on ints and texts -/
def InS (rd : V → V → Hp → VK → Prop) (g : PV → PV → Option PV) : Prop := ∀ (K : PySem.W.Frag) (p q r : PV) (v u : V) (Ha H : Hp) (Fa F : Fz) (S S' : Fp) (Q : VK), Rp K Ha Fa p v S → Rp K H F q u S' → g p q = some r → (∀ w, (∀ H F, Rp K H F r w f0) → Q w H) → rd v u H Q
def auAdd : PV → PV → Option PV
  | .int i, .int j => some (.int (i + j))
  | .str x, .str y => if x.length + y.length ≤ sizeLine then some (.str (x ++ y)) else none
  | _, _ => none
def auSub : PV → PV → Option PV
  | .int i, .int j => some (.int (i - j))
  | _, _ => none
def rInAdd : V → V → Hp → VK → Prop := fun x y H Q => rAdd x y H Q ∨ (∃ i j, x = .str i ∧ y = .str j ∧ i.length + j.length ≤ sizeLine ∧ Q (.str (i ++ j)) H)
theorem in_addA : InOp X .Add rInAdd := by
  intro pins s σ H x y u v Q I rx ry h
  rcases h with h | h
  · exact in_add pins s σ H x y u v Q I rx ry h
  · exact iop_add_str pins s σ H x y u v Q I rx ry h
theorem is_add : InS rInAdd auAdd := by
  intro K p q r v u Ha H Fa F S S' Q r1 r2 e k
  unfold auAdd at e
  split at e
  · cases e
    obtain ⟨rfl, _⟩ := r1
    obtain ⟨rfl, _⟩ := r2
    exact .inl ⟨_, _, rfl, rfl, k _ fun _ _ => ⟨rfl, fun _ => rfl⟩⟩
  · split at e
    · cases e
      obtain ⟨rfl, h1, _⟩ := r1
      obtain ⟨rfl, h2, _⟩ := r2
      exact .inr ⟨_, _, rfl, rfl, by assumption, k _ fun _ _ => ⟨rfl, strOk_append h1 h2, fun _ => rfl⟩⟩
    · cases e
  · cases e
theorem is_sub : InS rSub auSub := by
  intro K p q r v u Ha H Fa F S S' Q r1 r2 e k
  unfold auSub at e
  split at e
  · cases e
    obtain ⟨rfl, _⟩ := r1
    obtain ⟨rfl, _⟩ := r2
    exact ⟨_, _, rfl, rfl, k _ fun _ _ => ⟨rfl, fun _ => rfl⟩⟩
  · cases e
/-- x op= e -/
def jAug (g : PV → PV → Option PV) (n : Nat) (iv : IE) : IS := fun vw => match vw[n]? with
  | some (some _) => (iv vw).bind fun q vw' => match vw'[n]? with
    | some (some p) => match g p q with
      | some r => .ok .nx (vw'.set n (some r))
      | none => .no
    | _ => .no
  | _ => .no
theorem ss_aug {x : Str} {e : Expr} {ie : IE} {p0 : Pos} {op : Operator} {rd : V → V → Hp → VK → Prop} {g : PV → PV → Option PV} {fx : Nat → Bool} (hop : InOp X op rd) (hg : InS rd g) (n : Nat) (he : SE X e ie) (hN : X.N.Nodup) (hi : X.N[n]? = some x := by rfl) (hx : Loc X.env.scope x := by first | exact Or.inl rfl | exact Or.inr rfl) (hfx : fx n = false := by rfl)
    (hf : X.fn x = true ∨ X.env.scope.names.lookup x = some .local := by first | exact .inl rfl | exact .inr rfl | assumption) : SS X fx (.AugAssign (.Name x p0) op e pos) (jAug g n ie) := fun W tk =>
  (ps_aug hN hi hx (he W tk) hop hf).imp fun D σ H ⟨F, vw, S, hv, gd, h⟩ => by
    unfold jAug at h
    cases e1 : vw[n]? with
    | none => rw [e1] at h; exact h.elim
    | some o =>
      cases o with
      | none => rw [e1] at h; exact h.elim
      | some p0 =>
        rw [e1] at h
        obtain ⟨v0, _, _, hσ, _⟩ := hv.focus e1
        refine ⟨v0, hσ, ?_⟩
        refine run (T := f0) (rlE X.K) (oblS X.K fx D σ W) hv (gd_zero gd) (by rw [fz_add]; exact h) fun q vw1 v H1 F1 S1 S2 r1 v1 g1 _ q1 => ?_
        rw [fz_add] at g1 q1
        have q2 : PoS X.K fx D σ W (match vw1[n]? with
          | some (some p) => match g p q with
            | some r => .ok .nx (vw1.set n (some r))
            | none => .no
          | _ => .no) H1 F1 (fadd S1 S2) := q1
        cases e2 : vw1[n]? with
        | none => rw [e2] at q2; exact q2.elim
        | some o =>
          cases o with
          | none => rw [e2] at q2; exact q2.elim
          | some p =>
            rw [e2] at q2
            simp only at q2
            cases e3 : g p q with
            | none => rw [e3] at q2; exact q2.elim
            | some r =>
              rw [e3] at q2
              obtain ⟨v', T1, T2, hσ', _, r2, _⟩ := v1.focus e2
              rw [hσ] at hσ'
              cases hσ'
              refine hg X.K p q r v0 v H1 H1 F1 F1 T1 S1 _ r2 r1 e3 fun w rw' => ?_
              obtain ⟨S3, l, rv⟩ := v1.store (List.getElem?_eq_some_iff.mp e2).1 (rw' H1 F1)
              rw [fz_add] at rv
              have lt : ∀ b, S3 b ≤ fadd S1 S2 b := fun b => Nat.le_trans (l b) (Nat.le_add_left _ _)
              exact q2 _ H1 F1 _ rv (Fix.set hfx) (g1.sub lt) (Step.refl.sub lt)
/-- x.f op= e -/
def fget (cls : Addr → Bool) (f : Str) (n : Nat) (vw : Vw) : Option (Addr × PV) := match vw[n]? with
  | some (some (.nd (.ins C ns) true xs)) => if cls C = true then (dget ns xs f).map fun p => (C, p) else none
  | _ => none
def jFldAug (cls : Addr → Bool) (f : Str) (g : PV → PV → Option PV) (n : Nat) (iv : IE) : IS := fun vw => match fget cls f n vw with
  | some (C, old) => (iv vw).bind fun q vw' => match g old q with
    | some r => (muFin (muFld (fun D => decide (D = C)) f) n [r] vw').bind fun _ vw3 => .ok .nx vw3
    | none => .no
  | none => .no
theorem ss_fldaug {x f : Str} {e : Expr} {ie : IE} {p0 tpos : Pos} {op : Operator} {rd : V → V → Hp → VK → Prop} {g : PV → PV → Option PV} {fx : Nat → Bool} {cls : Addr → Bool} (hc : FldOk X.K cls f) (hop : InOp X op rd) (hg : InS rd g) (n : Nat) (he : SE X e ie) (hN : X.N[n]? = some x := by rfl) (hv : Vis X.env.scope x := by first | exact Or.inl rfl | exact Or.inr (Or.inl rfl) | exact Or.inr (Or.inr rfl)) (hd : (x == ("__debug__" : Str)) = false := by decide)
    (hcd : (x == ("__classdict__" : Str)) = false := by decide) : SS X fx (.AugAssign (.Attribute (.Name x p0) f tpos) op e pos) (jFldAug cls f g n ie) := fun W tk =>
  (ps_fldaug (pe_var hN hv hd hcd) (he W tk) hop).imp fun D σ H ⟨F, vw, S, hv, gd, h⟩ => by
    unfold jFldAug at h
    cases e1 : fget cls f n vw with
    | none => rw [e1] at h; exact h.elim
    | some co =>
      obtain ⟨C, old⟩ := co
      rw [e1] at h
      unfold fget at e1
      split at e1
      · rename_i C0 ns xs e0
        split at e1
        · rename_i hC
          obtain ⟨p1, e1', e1''⟩ := Option.map_eq_some_iff.mp e1
          cases e1''
          obtain ⟨v0, T1, T2, hσ, es, ⟨a, vs, Sx, rfl, ⟨hl, dx, hh⟩, hx, _⟩, _⟩ := hv.focus e0
          refine ⟨.ref a, hσ, ?_⟩
          have h1 := dget_v (ks := ns) f hx
          rw [e1'] at h1
          cases e2 : valV (ns.zip vs) f with
          | none => rw [e2] at h1; exact (show False from h1).elim
          | some w =>
            rw [e2] at h1
            obtain ⟨S0, r0⟩ : ∃ S, Rp X.K H F old w S := h1
            refine ⟨a, C, dx, _, w, rfl, hh, (hc C hC).1, (hc C hC).2, by rw [lookup_val]; exact e2, ?_⟩
            refine run (T := f0) (rlE X.K) (oblS X.K fx D σ W) hv (gd_zero gd) (by rw [fz_add]; exact h) fun q vw1 v H1 F1 S1 S2 r1 v1 g1 _ q1 => ?_
            rw [fz_add] at g1 q1
            have q2 : PoS X.K fx D σ W (match g old q with
              | some r => (muFin (muFld (fun D => decide (D = C)) f) n [r] vw1).bind fun _ vw3 => .ok .nx vw3
              | none => .no) H1 F1 (fadd S1 S2) := q1
            cases e3 : g old q with
            | none => rw [e3] at q2; exact q2.elim
            | some r =>
              rw [e3] at q2
              refine hg X.K old q r w v H H1 F F1 S0 S1 _ r0 r1 e3 fun w' rw' => ?_
              have lt : ∀ b, fadd f0 S2 b ≤ fadd S1 S2 b := fun b => by show 0 + S2 b ≤ S1 b + S2 b; omega
              obtain ⟨a2, hσ2, y, a3, C3, dx3, fs3, ec, e1', e2', e3', e4, e5, e6, q3⟩ := mu_fin (us := [w']) (ms_fld (fun D hD => by rw [of_decide_eq_true hD]; exact hc C hC)) (oblS X.K fx D σ W) (Rps.sing (rw' H1 F1)) v1 (g1.sub lt) ((oblS X.K fx D σ W).stp (Step.refl.sub lt) q2) (Q := fun _ H => D.nx σ H) fun q vw2 v H2 U1 U2 rq rv gg qq =>
                PS_obl (W := W) rv (gg.sub fun _ => Nat.le_add_left _ _) ((oblS X.K fx D σ W).stp (Step.refl.sub fun _ => Nat.le_add_left _ _) qq)
              cases e1'
              rw [hσ] at hσ2
              cases hσ2
              cases e2'
              have ec' : C3 = C := of_decide_eq_true ec
              subst ec'
              exact ⟨dx3, fs3, e3', e6, q3⟩
        · cases e1
      · cases e1
end
end Bx
set_option Elab.async false
set_option linter.all false
set_option maxRecDepth 100000
set_option maxHeartbeats 4000000
/-! L3c: what is frozen; targets; for; while. -/
namespace Bx
open PySem PySem.Spec PyProof.Rows L2
variable [Tbs]
section
variable {X : Cx} {pos : Pos}
theorem freeze {K : PySem.W.Frag} {H : Hp} {F : Fz} {p : PV} {v : V} {vw : Vw} {σ : St} {S1 S2 : Fp} (r : Rp K H F p v S1) (hv : Rvw K H F vw σ S2) (g : Gd H F (fadd S1 S2)) :
    ∃ F', Rp K H F' p.shr v f0 ∧ Rvw K H F' vw σ S2 ∧ Gd H F' S2 ∧ Step H F (fadd S1 S2) H F' S2 := by
  refine ⟨fun a => F a ∨ 0 < S1 a, r.frz _ (fun _ z => .inl z) (fun _ z => .inr z), hv.keep ⟨fun a o e _ _ => e, fun _ z => .inl z⟩, ⟨fun a => ?_, fun a z w => ?_, fun a z => g.mu a (by show 0 < S1 a + S2 a; omega), fun a z => ?_, g.tb⟩, ⟨fun _ _ e _ _ => e, fun a z => .inl (by show 0 < S1 a + S2 a; omega), fun _ z => .inl z, fun a z => ?_⟩⟩
  · have l : S1 a + S2 a ≤ 1 := g.le a
    omega
  · rcases w with w | w
    · exact g.nf a (by show 0 < S1 a + S2 a; omega) w
    · have l : S1 a + S2 a ≤ 1 := g.le a
      omega
  · rcases z with z | z
    · exact g.fr a z
    · exact g.nfre (show 0 < fadd S1 S2 a by show 0 < S1 a + S2 a; omega)
  · rcases z with z | z
    · exact .inl z
    · exact .inr (.inl (by show 0 < S1 a + S2 a; omega))
/-- the value, of which nobody may change anything from here on -/
def iShr (i : IE) : IE := fun vw => (i vw).bind fun p vw' => .ok p.shr vw'
theorem se_shr {e : Expr} {i : IE} (h : SE X e i) : SE X e (iShr i) := fun W tk => (h W tk).imp fun σ H Q ⟨F, vw, S, hv, g, q⟩ => by
  refine run (T := f0) (rlE X.K) (oblX (rlE X.K) X.K σ W Q) hv (gd_zero g) (by rw [fz_add]; exact q) fun p vw' v H' F' S1 S2 a b c _ q => ?_
  rw [fz_add] at c q
  obtain ⟨F2, r2, v2, g2, st⟩ := freeze a b c
  exact (show Po (rlE X.K) X.K σ W Q (.ok p.shr vw') H' F' (fadd S1 S2) from q) v H' F2 f0 S2 r2 v2 (gd_zero g2) (by rw [fz_add]; exact st)
/-! ### targets -/
abbrev TgF := PV → Vw → Option Vw
def tG (K : PySem.W.Frag) (fx : Nat → Bool) (f : TgF) : TG := fun v σ H Q => ∃ F vw S1 S2 p vw', Rvw K H F vw σ S2 ∧ Rp K H F p v S1 ∧ f p vw = some vw' ∧ ∀ σ' S2', Rvw K H F vw' σ' S2' → Fix fx σ σ' → (∀ b, S2' b ≤ S1 b + S2 b) → Q σ' H
def SG (X : Cx) (fx : Nat → Bool) (tg : Expr) (f : TgF) : Prop := PG X tg (tG X.K fx f)
abbrev TgsF := List PV → Vw → Option Vw
def tGs (K : PySem.W.Frag) (fx : Nat → Bool) (f : TgsF) : TGs := fun vs σ H Q => ∃ F vw S1 S2 ps vw', Rvw K H F vw σ S2 ∧ Rps K H F ps vs S1 ∧ f ps vw = some vw' ∧ ∀ σ' S2', Rvw K H F vw' σ' S2' → Fix fx σ σ' → (∀ b, S2' b ≤ S1 b + S2 b) → Q σ' H
def SGs (X : Cx) (fx : Nat → Bool) (tg : List Expr) (f : TgsF) : Prop := PGs X tg (tGs X.K fx f)
theorem _root_.L2.PG.imp {X : Cx} {e : Expr} {t t' : TG} (h : PG X e t) (m : ∀ v σ H Q, t' v σ H Q → t v σ H Q) : PG X e t' := ⟨fun pins s σ H v u Q I r q => h.run pins s σ H v u Q I r (m _ _ _ _ q)⟩
theorem _root_.L2.PGs.imp {X : Cx} {e : List Expr} {t t' : TGs} (h : PGs X e t) (m : ∀ v σ H Q, t' v σ H Q → t v σ H Q) : PGs X e t' := ⟨fun pins s σ H v u Q I r q => h.run pins s σ H v u Q I r (m _ _ _ _ q)⟩
def gN (n : Nat) : TgF := fun p vw => if n < vw.length then some (vw.set n (some p)) else none
def gNil : TgsF := fun ps vw => match ps with | [] => some vw | _ => none
def gCons (f : TgF) (g : TgsF) : TgsF := fun ps vw => match ps with
  | p :: r => match f p vw with
    | some vw' => g r vw'
    | none => none
  | [] => none
def gT (n : Nat) (g : TgsF) : TgF := fun p vw => match p with
  | .nd .tup _ ps => if ps.length = n then g ps vw else none
  | _ => none
theorem sg_n {fx : Nat → Bool} {x : Str} (n : Nat) (hN : X.N.Nodup) (hi : X.N[n]? = some x := by rfl) (hx : Loc X.env.scope x := by first | exact Or.inl rfl | exact Or.inr rfl) (hfx : fx n = false := by rfl) (hf : X.fn x = true ∨ X.env.scope.names.lookup x = some .local := by first | exact .inl rfl | exact .inr rfl | assumption) : SG X fx (.Name x pos) (gN n) :=
  (pg_name hN hi hx hf).imp fun v σ H Q ⟨F, vw, S1, S2, p, vw', hv, r, e, k⟩ => by
    unfold gN at e
    split at e
    · rename_i hl
      cases e
      obtain ⟨S3, l, rv⟩ := hv.store hl r
      exact k _ _ rv (Fix.set hfx) fun b => by show S1 b + S3 b ≤ _; have := l b; omega
    · cases e
theorem sgs_nil {fx : Nat → Bool} : SGs X fx [] gNil := pgs_nil.imp fun v σ H Q ⟨F, vw, S1, S2, ps, vw', hv, r, e, k⟩ => by
  cases ps with
  | nil => cases e; exact ⟨r.1, k σ S2 hv Fix.refl fun b => by omega⟩
  | cons p r => cases e
theorem sgs_cons {fx : Nat → Bool} {e : Expr} {es : List Expr} {f : TgF} {g : TgsF} (h1 : SG X fx e f) (h2 : SGs X fx es g) (hs : (assignEach (e :: es) X.env).map (·.2) = assign e X.env :: (assignEach es X.env).map (·.2) := by rfl) : SGs X fx (e :: es) (gCons f g) :=
  (pgs_cons h1 h2 hs).imp fun v σ H Q ⟨F, vw, S1, S2, ps, vw', hv, r, e, k⟩ => by
    cases ps with
    | nil => cases e
    | cons p ps =>
      obtain ⟨w, vs', T1, T2, rfl, es, r1, r2⟩ := r
      unfold gCons at e
      simp only at e
      cases e1 : f p vw with
      | none => rw [e1] at e; cases e
      | some vw1 =>
        rw [e1] at e
        refine ⟨w, vs', rfl, F, vw, T1, S2, p, vw1, hv, r1, e1, fun σ1 S3 v1 f1 l1 => ⟨F, vw1, T2, S3, ps, vw', v1, r2, e, fun σ2 S4 v2 f2 l2 => k σ2 S4 v2 (f1.trans f2) fun b => ?_⟩⟩
        have := l1 b; have := l2 b; have := es b; omega
theorem sg_t {fx : Nat → Bool} {es : List Expr} {k : Nat} {g : TgsF} {n : Nat} (hc : X.calm = true) (h : SGs X fx es g) (hn : (assignEach es X.env).length = n := by rfl) (hst : (assignEach es X.env).findIdx? (·.1) = none := by rfl) : SG X fx (.Tuple es k pos) (gT n g) :=
  (pg_tup hc h hn hst).imp fun v σ H Q ⟨F, vw, S1, S2, p, vw', hv, r, e, k⟩ => by
    unfold gT at e
    split at e
    · rename_i o ps
      split at e
      · rename_i hl
        obtain ⟨a, vs, S', rfl, hh, hx, ow⟩ := r
        refine ⟨a, vs, rfl, SqT.of hh, by rw [← hx.length]; exact hl, F, vw, S', S2, ps, vw', hv, hx, e, fun σ' S2' v' f' l' => k σ' S2' v' f' fun b => ?_⟩
        have := l' b
        rw [show S1 b = S' b from ow b]
        exact this
      · cases e
    · cases e
/-- target = e -/
def jAsgT (f : TgF) (i : IE) : IS := fun vw => (i vw).bind fun p vw' => match f p vw' with
  | some vw2 => .ok .nx vw2
  | none => .no
theorem ss_asgT {fx : Nat → Bool} {tg e : Expr} {f : TgF} {i : IE} (he : SE X e i) (hg : SG X fx tg f) (hs : swapsWithSole [tg] e pos.line X.env = pure false := by rfl) (hw : swappedStores [tg] e X.env = pure none := by rfl)
    (h1 : (assignEach [tg] X.env).map (·.2) = [assign tg X.env] := by rfl) : SS X fx (.Assign [tg] e pos) (jAsgT f i) := fun W tk =>
  (ps_asg (he W tk) hg hs hw h1).imp fun D σ H ⟨F, vw, S, hv, g, h⟩ => by
    refine run (T := f0) (rlE X.K) (oblS X.K fx D σ W) hv (gd_zero g) (by rw [fz_add]; exact h) fun p vw' v H' F' S1 S2 a b c _ q => ?_
    rw [fz_add] at c q
    have q' : PoS X.K fx D σ W (match f p vw' with
      | some vw2 => .ok .nx vw2
      | none => .no) H' F' (fadd S1 S2) := q
    cases e1 : f p vw' with
    | none => rw [e1] at q'; exact q'.elim
    | some vw2 =>
      rw [e1] at q'
      exact ⟨F', vw', S1, S2, p, vw2, b, a, e1, fun σ' S2' v' f' l' => q' σ' H' F' S2' v' f' (c.sub l') (Step.refl.sub l')⟩
/-- x, y = a, b with plain names -/
def jPar2 (n m : Nat) (ps : List PV) (vw : Vw) : R Sr := match ps with
  | [p, q] => if n < vw.length ∧ m < vw.length then .ok .nx ((vw.set n (some p)).set m (some q)) else .no
  | _ => .no
def jPar (n m : Nat) (is : List IE) : IS := fun vw => (evA is vw).bind (jPar2 n m)
theorem ss_par {fx : Nat → Bool} {x y : Str} {a b : Expr} {is : List IE} {px py pt : Pos} {kt k2 pt2} (n m : Nat) (hc : X.calm = true) (hN : X.N.Nodup) (ha : SAs X [a, b] is) (hi : X.N[n]? = some x := by rfl) (hj : X.N[m]? = some y := by rfl) (hij : n ≠ m := by decide)
    (hx : X.env.scope.names.lookup x = some .local := by rfl) (hy : X.env.scope.names.lookup y = some .local := by rfl) (f1 : fx n = false := by rfl) (f2 : fx m = false := by rfl)
    (hw : swappedStores [.Tuple [.Name x px, .Name y py] kt pt] (.Tuple [a, b] k2 pt2) X.env = pure (some [x, y]) := by rfl)
    (hs : swapsWithSole [.Tuple [.Name x px, .Name y py] kt pt] (.Tuple [a, b] k2 pt2) pos.line X.env = pure false := by rfl) :
    SS X fx (.Assign [.Tuple [.Name x px, .Name y py] kt pt] (.Tuple [a, b] k2 pt2) pos) (jPar n m is) := fun W tk =>
  (ps_par hc hN hi hj hij hx hy (ha W tk) hw hs).imp fun D σ H ⟨F, vw, S, hv, g, h⟩ => by
    refine runA (T := f0) (oblS X.K fx D σ W) hv (gd_zero g) (by rw [fz_add]; exact h) fun ps vw' vs H' F' S1 S2 a b c _ q => ?_
    rw [fz_add] at c q
    have q' : PoS X.K fx D σ W (jPar2 n m ps vw') H' F' (fadd S1 S2) := q
    match ps, a, q' with
    | [], _, q' => exact q'.elim
    | [_], _, q' => exact q'.elim
    | _ :: _ :: _ :: _, _, q' => exact q'.elim
    | [p, q], a, q' =>
      obtain ⟨u, w, T1, T2, rfl, es, r1, r2⟩ := a.two
      have q' : PoS X.K fx D σ W (if n < vw'.length ∧ m < vw'.length then .ok .nx ((vw'.set n (some p)).set m (some q)) else .no) H' F' (fadd S1 S2) := q'
      by_cases hl : n < vw'.length ∧ m < vw'.length
      · rw [if_pos hl] at q'
        obtain ⟨S3, l3, v3⟩ := b.store hl.1 r1
        obtain ⟨S4, l4, v4⟩ := v3.store (n := m) (by rw [List.length_set]; exact hl.2) r2
        refine ⟨u, w, rfl, q' _ H' F' _ v4 ((Fix.set f1).trans (Fix.set f2)) (c.sub fun z => ?_) (Step.refl.sub fun z => ?_)⟩
        · show T2 z + S4 z ≤ S1 z + S2 z
          have := l3 z; have := l4 z; have : S4 z ≤ T1 z + S3 z := l4 z; have := es z; omega
        · show T2 z + S4 z ≤ S1 z + S2 z
          have := l3 z; have := l4 z; have : S4 z ≤ T1 z + S3 z := l4 z; have := es z; omega
      · rw [if_neg hl] at q'; exact q'.elim
/-! ### what is walked -/
structure ItOk (K : PySem.W.Frag) (H : Hp) (F : Fz) (J : It) (ps : List PV) : Prop where
  go : ∀ H' F' i, Kp H F H' F' f0 → i < ps.length → J.go i H'
  stop : ∀ H' F', Kp H F H' F' f0 → J.stop ps.length H'
  yld : ∀ H' F' i p x H'', Kp H F H' F' f0 → ps[i]? = some p → J.yld i H' x H'' → Same H' H'' ∧ Rp K H'' F' p x f0
abbrev IL := Vw → R (List PV)
def PoI (K : PySem.W.Frag) (σ : St) (W : WX) (Q : It → Hp → Prop) : R (List PV) → Hp → Fz → Fp → Prop
  | .no, _, _, _ => False
  | .ok ps vw', H, F, S => ∀ J H' F' S2, ItOk K H' F' J ps → Rvw K H' F' vw' σ S2 → Gd H' F' S2 → Step H F S H' F' S2 → Q J H'
  | .exc x vw', H, F, S => ∀ cls d H' F' S2, Rx K H' F' x cls d → Rvw K H' F' vw' σ S2 → Gd H' F' S2 → Step H F S H' F' S2 → W cls d σ H'
def oblI (K : PySem.W.Frag) (σ : St) (W : WX) (Q : It → Hp → Prop) : Obl K W σ (List PV) where
  p := PoI K σ W Q
  stp := fun {r H F S H1 F1 S1} s h => by
    cases r with
    | no => exact h
    | ok p vw' => exact fun v H' F' T2 a b c d => h v H' F' T2 a b c (s.trans d)
    | exc x vw' => exact fun cls d H' F' T2 a b c e => h cls d H' F' T2 a b c (s.trans e)
  no := fun h => h
  exc := fun h => h
def tI (K : PySem.W.Frag) (i : IL) (W : WX) : TI := fun σ H R => ∃ F vw S, Rvw K H F vw σ S ∧ Gd H F S ∧ PoI K σ W R (i vw) H F S
def SI (X : Cx) (tg e : Expr) (i : IL) : Prop := ∀ W, Takes X W → PI X tg e (tI X.K i W)
theorem _root_.L2.PI.imp {X : Cx} {tg e : Expr} {t t' : TI} (h : PI X tg e t) (m : ∀ σ H Q, t' σ H Q → t σ H Q) : PI X tg e t' := ⟨fun pins s σ H Q I q => h.run pins s σ H Q I (m _ _ _ q)⟩
theorem Kp.trans {H H1 H2 : Hp} {F F1 F2 : Fz} (a : Kp H F H1 F1 f0) (b : Kp H1 F1 H2 F2 f0) : Kp H F H2 F2 f0 :=
  ⟨fun x o e z n => b.1 x o (a.1 x o e z n) (z.elim (fun w => absurd w (Nat.lt_irrefl 0)) fun w => w.elim (fun w => .inr (.inl (a.2 x w))) fun w => .inr (.inr w)) n, fun x z => b.2 x (a.2 x z)⟩
theorem kp0 {H H' : Hp} {F F' : Fz} {S S' : Fp} (g : Gd H F S) (st : Step H F S H' F' S') : Kp H F H' F' f0 := Kp.of (T := f0) (by rw [fz_add]; exact g) st
theorem Kp.refl {H : Hp} {F : Fz} {S : Fp} : Kp H F H F S := ⟨fun _ _ e _ _ => e, fun _ z => z⟩
/-! ### for -/
def jLoop (f : TgF) (b : IS) : List PV → Vw → R Sr
  | [], vw => .ok .nx vw
  | p :: ps, vw => match f p vw with
    | none => .no
    | some vw1 => match b vw1 with
      | .ok .nx vw2 => jLoop f b ps vw2
      | .ok .ct vw2 => jLoop f b ps vw2
      | .ok .bk vw2 => .ok .nx vw2
      | r => r
def jFor (i : IL) (f : TgF) (b : IS) : IS := fun vw => (i vw).bind (jLoop f b)
/-- the loop's own ends -/
theorem PoS.loop {K : PySem.W.Frag} {fx : Nat → Bool} {D : Ends} {N : St → Hp → Prop} {σ : St} {W : WX} {r : R Sr} {H : Hp} {F : Fz} {S : Fp} {g : Vw → R Sr}
    (h : PoS K fx D σ W (match r with
      | .ok .nx vw2 => g vw2
      | .ok .ct vw2 => g vw2
      | .ok .bk vw2 => .ok .nx vw2
      | r => r) H F S) (k : ∀ vw2 σ' H' F' S', Rvw K H' F' vw2 σ' S' → Gd H' F' S' → Step H F S H' F' S' → Fix fx σ σ' → PoS K fx D σ' W (g vw2) H' F' S' → N σ' H') :
    PoS K fx { D with nx := N, ct := N, bk := D.nx } σ W r H F S := by
  cases r with
  | no => exact h
  | exc x vw' => exact h
  | ok o vw' =>
    cases o with
    | nx => exact fun σ' H' F' S2 a b c d => k vw' σ' H' F' S2 a c d b (PoS.stp b d h)
    | ct => exact fun σ' H' F' S2 a b c d => k vw' σ' H' F' S2 a c d b (PoS.stp b d h)
    | bk => exact h
    | rt p => exact h
theorem ss_for {fx : Nat → Bool} {tg iter : Expr} {body : List Stmt} {i : IL} {f : TgF} {b : IS} (hp : PassesOwn (model X.prog X.w) X.A X.env X.xe) (hc : X.calm = true) (hi : SI X tg iter i) (hg : SG X fx tg f) (hb : SSs X fx body b)
    (hs : ∀ x, foldedSetIterable iter X.env x = pure x := by intro _; rfl) : SS X fx (.For tg iter body [] pos) (jFor i f b) := fun W tk =>
  (ps_for hp hc (hi W tk) hg (hb W tk) hs).imp fun D σ H ⟨F, vw, S, hv, g, h⟩ => by
    refine ⟨F, vw, S, hv, g, ?_⟩
    unfold jFor at h
    cases e : i vw with
    | no => rw [e] at h; exact h
    | exc x vw' => rw [e] at h; exact fun cls d H' F' S2 a b c st => h cls d σ H' F' S2 a b Fix.refl c st
    | ok ps vw' =>
      rw [e] at h
      intro J H1 F1 S1 it v1 g1 st1
      have h1 : PoS X.K fx D σ W (jLoop f b ps vw') H1 F1 S1 := PoS.stp Fix.refl st1 h
      refine ⟨fun i m σ' H' => m = ps.length - i ∧ i ≤ ps.length ∧ ∃ F' vw2 S', Rvw X.K H' F' vw2 σ' S' ∧ Gd H' F' S' ∧ Kp H1 F1 H' F' f0 ∧ PoS X.K fx D σ' W (jLoop f b (ps.drop i) vw2) H' F' S', ⟨ps.length, by omega, Nat.zero_le _, F1, vw', S1, v1, g1, Kp.refl, h1⟩, ?_⟩
      rintro i m σ2 H2 ⟨rfl, hi, F2, vw2, S2, v2, g2, k2, p2⟩
      by_cases hlt : i < ps.length
      · refine .inr ⟨it.go H2 F2 i k2 hlt, fun σ' H' => ∃ F' vw2 S', Rvw X.K H' F' vw2 σ' S' ∧ Gd H' F' S' ∧ Kp H1 F1 H' F' f0 ∧ PoS X.K fx D σ' W (jLoop f b (ps.drop (i + 1)) vw2) H' F' S', fun σ' H' n => ⟨ps.length - (i + 1), by omega, rfl, hlt, n⟩, fun x H3 y => ?_⟩
        obtain ⟨sm, rx⟩ := it.yld H2 F2 i ps[i] x H3 k2 (by simp [hlt]) y
        rw [List.drop_eq_getElem_cons hlt, jLoop] at p2
        cases ef : f ps[i] vw2 with
        | none => rw [ef] at p2; exact p2.elim
        | some vw3 =>
          rw [ef] at p2
          simp only at p2
          have g3 : Gd H3 F2 S2 := ⟨g2.le, g2.nf, fun a z => by
            obtain ⟨o, eo⟩ := Mut.some (g2.mu a z)
            rw [sm a o eo, ← eo]; exact g2.mu a z, (fun a z => nfre_same sm (g2.fr a z)), tabs_same sm g2.tb⟩
          have st3 : Step H2 F2 S2 H3 F2 S2 := ⟨fun a o eo _ _ => sm a o eo, fun a z => .inl z, fun _ z => z, fun _ z => .inl z⟩
          refine ⟨F2, vw2, f0, S2, _, vw3, v2.keep (same_kp sm), rx, ef, fun σ4 S4 v4 f4 l4 => ?_⟩
          have l4' : ∀ b, S4 b ≤ S2 b := fun b => by have := l4 b; have : S4 b ≤ 0 + S2 b := l4 b; omega
          have p4 := PoS.stp f4 (st3.sub l4') p2
          refine ⟨F2, vw3, S4, v4, g3.sub l4', PoS.loop p4 fun vw5 σ5 H5 F5 S5 v5 g5 st5 f5 p5 => ⟨F5, vw5, S5, v5, g5, ?_, p5⟩⟩
          exact (k2.trans (kp0 g2 (st3.sub l4'))).trans (kp0 (g3.sub l4') st5)
      · have ei : i = ps.length := by omega
        subst ei
        rw [List.drop_length] at p2
        exact .inl ⟨it.stop H2 F2 k2, p2 σ2 H2 F2 S2 v2 Fix.refl g2 Step.refl⟩
/-! ### while -/
def jTurns (c : IT) (b : IS) : Nat → Vw → R Sr
  | 0, _ => .no
  | n + 1, vw => (c vw).bind fun k vw1 => if k = true then (match b vw1 with
      | .ok .nx vw2 => jTurns c b n vw2
      | .ok .ct vw2 => jTurns c b n vw2
      | .ok .bk vw2 => .ok .nx vw2
      | r => r) else .ok .nx vw1
def jWhile (lim : Vw → Nat) (c : IT) (b : IS) : IS := fun vw => jTurns c b (lim vw) vw
theorem ss_while {fx : Nat → Bool} {c : Expr} {body : List Stmt} {ic : IT} {b : IS} (lim : Vw → Nat) (hp : PassesOwn (model X.prog X.w) X.A X.env X.xe) (hc : ST X c ic) (hb : SSs X fx body b) : SS X fx (.While c body [] pos) (jWhile lim ic b) := fun W tk =>
  (ps_while hp (hc W tk) (hb W tk)).imp fun D σ H ⟨F, vw, S, hv, g, h⟩ => by
    refine ⟨fun m σ' H' => ∃ F' vw2 S', Rvw X.K H' F' vw2 σ' S' ∧ Gd H' F' S' ∧ PoS X.K fx D σ' W (jTurns ic b m vw2) H' F' S', ⟨lim vw, F, vw, S, hv, g, h⟩, ?_⟩
    rintro m σ1 H1 ⟨F1, vw1, S1, v1, g1, p1⟩
    cases m with
    | zero => exact p1.elim
    | succ m =>
      rw [jTurns] at p1
      refine runT (oblS X.K fx D σ1 W) v1 g1 p1 fun k vw2 H2 F2 S2 v2 g2 q2 => ?_
      cases k with
      | false =>
        show if false = true then _ else D.nx σ1 H2
        rw [if_neg Bool.false_ne_true]
        exact PS_obl (W := W) v2 g2 (show PoS X.K fx D σ1 W (.ok .nx vw2) H2 F2 S2 from q2)
      | true =>
        show if true = true then _ else _
        rw [if_pos rfl]
        refine ⟨fun σ' H' => ∃ F' vw2 S', Rvw X.K H' F' vw2 σ' S' ∧ Gd H' F' S' ∧ PoS X.K fx D σ' W (jTurns ic b m vw2) H' F' S', fun σ' H' n => ⟨m, by omega, n⟩, F2, vw2, S2, v2, g2, PoS.loop q2 fun vw5 σ5 H5 F5 S5 v5 g5 st5 f5 p5 => ⟨F5, vw5, S5, v5, g5, p5⟩⟩
end
end Bx
set_option Elab.async false
set_option linter.all false
set_option maxRecDepth 100000
set_option maxHeartbeats 4000000
/-! L3d: what a loop walks: lists, tuples, texts, ranges, enumerate, zip. -/
namespace Bx
open PySem PySem.Spec PyProof.Rows L2
variable [Tbs]
section
variable {X : Cx} {pos : Pos} {tg : Expr}
/-- the items of a sequence that nobody changes -/
def itemsOf : PV → Option (List PV)
  | .nd .tup _ xs => some (shrs xs)
  | .nd .lst _ xs => some (shrs xs)
  | .nd .frl _ xs => some (shrs xs)
  | .str x => some (x.cps.toList.map fun c => .str ⟨#[c]⟩)
  | _ => none
def sSeq (i : IE) : IL := fun vw => (i vw).bind fun p vw' => match itemsOf p with
  | some ps => .ok ps vw'
  | none => .no
theorem Rps.at {K : PySem.W.Frag} {H : Hp} {F : Fz} : ∀ {xs : List PV} {vs : List V} {i : Nat} {p : PV} {v : V}, Rps K H F xs vs f0 → xs[i]? = some p → vs[i]? = some v → Rp K H F p v f0
  | [], _, i, _, _, h, e, _ => by simp at e
  | x :: xs, _, 0, p, v, h, e, e2 => by
    obtain ⟨w, vs', S1, S2, rfl, es, h1, h2⟩ := h
    simp at e e2
    subst e; subst e2
    have : S1 = f0 := funext fun b => by have : 0 = S1 b + S2 b := es b; show S1 b = 0; omega
    rw [this] at h1
    exact h1
  | x :: xs, _, i + 1, p, v, h, e, e2 => by
    obtain ⟨w, vs', S1, S2, rfl, es, h1, h2⟩ := h
    have : S2 = f0 := funext fun b => by have : 0 = S1 b + S2 b := es b; show S2 b = 0; omega
    rw [this] at h2
    exact Rps.at h2 (by simpa using e) (by simpa using e2)
theorem SqL.keep {K : PySem.W.Frag} {H H' : Hp} {F F' : Fz} {a : Addr} {vs : List V} {k : Kd} (hh : Has K H false k a vs) (hk : k = .lst ∧ F a ∨ k = .frl) (kp : Kp H F H' F' f0) : SqL K H' a vs := by
  rcases hk with ⟨rfl, hF⟩ | rfl
  · exact SqL.of (kp.1 a _ hh (.inr (.inl hF)) (by intro _ z; cases z))
  · rcases (show FrL K H a vs from hh) with ⟨ob, hh⟩ | hh
    · exact .inl (.inr ⟨ob, kp.1 a _ hh (.inr (.inr fun z => z)) (by intro _ z; cases z)⟩)
    · exact .inr hh
/-- a list, a tuple or a text, whatever comes -/
def iAny (K : PySem.W.Frag) (te : TE) : TI := fun σ H R => te σ H fun x H1 => (∃ a, x = .ref a ∧ (∃ xs, SqL K H1 a xs) ∧ R (Itl K a) H1) ∨ (∃ a, x = .ref a ∧ (∃ xs, SqT K H1 a xs) ∧ R (Itt K a) H1) ∨ ∃ y, x = .str y ∧ R (Its y) H1
theorem pi_any {e : Expr} {te : TE} (he : PE X e te) : PI X tg e (iAny X.K te) := by
  refine ⟨fun pins s σ H R I h => ?_⟩
  refine thn (he.run pins s σ H _ I h) fun v s1 ⟨x, H1, I1, r1, q1⟩ => ?_
  rcases q1 with ⟨a, ex, ⟨xs, hq⟩, q⟩ | ⟨a, ex, ⟨xs, hq⟩, q⟩ | ⟨y, ex, q⟩
  · subst ex
    cases r1
    obtain ⟨its, rv, p, hz⟩ := I1.list hq
    refine wpAny_pyIter_list p.isList ?_
    refine ⟨s1.heap.objs.size, [s1.heap.objs.size], _, _, H1, rfl, I1.kept (t' := s1.toks) fun b o e => Heap.get?_push_of_some _ e, turn_list a _, ⟨_, Heap.get?_push_size _ rfl, rfl, rfl⟩, fun b hb => ?_, q⟩
    have e : b = s1.heap.objs.size := by simpa using hb
    subst e
    exact I1.fpOk (Nat.le_refl _) (I1.hok.fresh (Nat.le_refl _))
  · subst ex
    cases r1
    obtain ⟨its, rv, p, hz⟩ := I1.tuple hq
    refine wpAny_pyIter_tuple (show s1.heap.IsTuple a its.toArray from p) ?_
    refine ⟨s1.heap.objs.size, [s1.heap.objs.size], _, _, H1, rfl, I1.kept (t' := s1.toks) fun b o e => Heap.get?_push_of_some _ e, turn_tuple a _, ⟨_, Heap.get?_push_size _ rfl, rfl, rfl⟩, fun b hb => ?_, q⟩
    have e : b = s1.heap.objs.size := by simpa using hb
    subst e
    exact I1.fpOk (Nat.le_refl _) (I1.hok.fresh (Nat.le_refl _))
  · subst ex
    obtain ⟨t, rfl⟩ := r1
    cases ha : y.cps.all (· < 128)
    · exact wpAny_pyIter_wide ha (pi_one (tk := s1.toks) I1 _ (turn_str _ y t "str_iterator" (.inr rfl)) ⟨_, Heap.get?_push_size _ rfl, rfl, rfl⟩ q)
    · exact wpAny_pyIter_ascii ha (pi_one (tk := s1.toks) I1 _ (turn_str _ y t "str_ascii_iterator" (.inl rfl)) ⟨_, Heap.get?_push_size _ rfl, rfl, rfl⟩ q)
theorem it_lst {K : PySem.W.Frag} {H : Hp} {F : Fz} {a : Addr} {vs : List V} {xs : List PV} {k : Kd} (hh : Has K H false k a vs) (hk : k = .lst ∧ F a ∨ k = .frl) (hx : Rps K H F xs vs f0) : ItOk K H F (Itl K a) xs := by
  have hl := hx.length
  refine ⟨fun H' F' i kp hi => ?_, fun H' F' kp => ?_, fun H' F' i p x H'' kp hp hy => ?_⟩
  · exact ⟨vs, vs[i]'(by omega), SqL.keep hh hk kp, by simp⟩
  · exact ⟨vs, SqL.keep hh hk kp, by omega⟩
  · obtain ⟨rfl, hy⟩ := hy
    exact ⟨Same.refl _, (hx.keep kp).at hp (hy vs (SqL.keep hh hk kp))⟩
theorem it_tup {K : PySem.W.Frag} {H : Hp} {F : Fz} {a : Addr} {vs : List V} {xs : List PV} (hh : H a = some (.tup vs)) (hx : Rps K H F xs vs f0) : ItOk K H F (Itt K a) xs := by
  have hl := hx.length
  have kq : ∀ {H' : Hp} {F' : Fz}, Kp H F H' F' f0 → SqT K H' a vs := fun kp => SqT.of (kp.1 a _ hh (.inr (.inr fun z => z)) (by intro _ z; cases z))
  refine ⟨fun H' F' i kp hi => ?_, fun H' F' kp => ?_, fun H' F' i p x H'' kp hp hy => ?_⟩
  · exact ⟨vs, vs[i]'(by omega), kq kp, by simp⟩
  · exact ⟨vs, kq kp, by omega⟩
  · obtain ⟨rfl, hy⟩ := hy
    exact ⟨Same.refl _, (hx.keep kp).at hp (hy vs (kq kp))⟩
theorem it_str {K : PySem.W.Frag} {H : Hp} {F : Fz} {x : Str} (ok : PyData.strOk x = true) : ItOk K H F (Its x) (x.cps.toList.map fun c => .str ⟨#[c]⟩) := by
  refine ⟨fun H' F' i kp hi => ?_, fun H' F' kp => ?_, fun H' F' i p y H'' kp hp hy => ?_⟩
  · exact show i < x.cps.size by simpa using hi
  · exact show x.cps.size ≤ _ by simp
  · obtain ⟨rfl, c, hc, rfl⟩ := hy
    refine ⟨Same.refl _, ?_⟩
    rw [List.getElem?_map] at hp
    have e : x.cps.toList[i]? = some c := by rw [Array.getElem?_toList]; exact hc
    rw [e] at hp
    cases hp
    exact ⟨rfl, strOk_iff.mpr fun d hd => by
      have : d = c := by simpa using hd
      subst this
      exact strOk_iff.mp ok d (Array.mem_of_getElem? hc), fun _ => rfl⟩
theorem shr_lst {K : PySem.W.Frag} {H : Hp} {F : Fz} {k : Kd} {o : Bool} {xs : List PV} {v : V} (h : Rp K H F (PV.nd k o xs).shr v f0) : ∃ a vs, v = .ref a ∧ Has K H false k a vs ∧ Rps K H F (shrs xs) vs f0 ∧ (isMk k = true → F a) := by
  obtain ⟨a, vs, S', rfl, h1, h2, h3⟩ := h
  refine ⟨a, vs, rfl, h1, h2.congr (h2.zero (shrs_pure xs)), fun hk => ?_⟩
  cases k with
  | tup => cases hk
  | frl => cases hk
  | _ => exact (show (∀ b, f0 b = 0) ∧ (∀ b, S' b = 0) ∧ F a from h3).2.2
theorem si_seq {e : Expr} {i : IE} (h : SE X e i) : SI X tg e (sSeq i) := fun W tk =>
  (pi_any (h W tk)).imp fun σ H R ⟨F, vw, S, hv, g, q⟩ => by
    refine run (T := f0) (rlE X.K) (oblI X.K σ W R) hv (gd_zero g) (by rw [fz_add]; exact q) fun p vw' v H' F' S1 S2 a b c _ q => ?_
    rw [fz_add] at c q
    have q' : PoI X.K σ W R (match itemsOf p with
      | some ps => .ok ps vw'
      | none => .no) H' F' (fadd S1 S2) := q
    cases p with
    | non => exact q'.elim
    | bl b => exact q'.elim
    | int b => exact q'.elim
    | ty b => exact q'.elim
    | ref b => exact q'.elim
    | str y =>
      obtain ⟨rfl, ok, z⟩ := a
      exact .inr (.inr ⟨y, rfl, q' _ H' F' S2 (it_str ok) b (c.sub fun _ => Nat.le_add_left _ _) (Step.refl.sub fun _ => Nat.le_add_left _ _)⟩)
    | nd k o xs =>
      obtain ⟨F2, r2, v2, g2, st⟩ := freeze a b c
      obtain ⟨d, vs, rfl, hh, hx, hF⟩ := shr_lst r2
      cases k with
      | tup => exact .inr (.inl ⟨d, rfl, ⟨vs, SqT.of hh⟩, q' _ H' F2 S2 (it_tup hh hx) v2 g2 st⟩)
      | lst => exact .inl ⟨d, rfl, ⟨vs, SqL.of hh⟩, q' _ H' F2 S2 (it_lst hh (.inl ⟨rfl, hF rfl⟩) hx) v2 g2 st⟩
      | frl =>
        exact .inl ⟨d, rfl, ⟨vs, FrL.sq hh⟩, q' _ H' F2 S2 (it_lst hh (.inr rfl) hx) v2 g2 st⟩
      | _ => exact q'.elim
/-! ### ranges -/
def rngL (lo : Int) (n : Nat) : List PV := (List.range n).map fun k => .int (lo + (k : Nat))
theorem it_rng {K : PySem.W.Frag} {H : Hp} {F : Fz} (lo : Int) (n : Nat) : ItOk K H F (Itr lo n) (rngL lo n) := by
  refine ⟨fun H' F' i kp hi => ?_, fun H' F' kp => ?_, fun H' F' i p y H'' kp hp hy => ?_⟩
  · exact show i < n by simpa [rngL] using hi
  · exact show n ≤ _ by simp [rngL]
  · obtain ⟨rfl, rfl⟩ := hy
    refine ⟨Same.refl _, ?_⟩
    have hi : i < n := by
      have := (List.getElem?_eq_some_iff.mp hp).1
      simpa [rngL] using this
    unfold rngL at hp
    rw [List.getElem?_map, List.getElem?_range hi] at hp
    cases hp
    exact ⟨rfl, fun _ => rfl⟩
def rngOk : Int → Bool
  | .ofNat n => n.ble 4611686018427387903
  | .negSucc n => n.ble 4611686018427387903
theorem rngOk_iff {i : Int} (h : rngOk i = true) : -(2 ^ 62) ≤ i ∧ i < 2 ^ 62 := by
  cases i with
  | ofNat n =>
    have := Nat.le_of_ble_eq_true (show n.ble 4611686018427387903 = true from h)
    refine ⟨?_, ?_⟩ <;> show _ <;> simp <;> omega
  | negSucc n =>
    have := Nat.le_of_ble_eq_true (show n.ble 4611686018427387903 = true from h)
    refine ⟨?_, ?_⟩ <;> omega
def rng1 (ps : List PV) (vw : Vw) : R (List PV) := match ps with
  | [.int j] => if rngOk j = true then .ok (rngL 0 j.toNat) vw else .no
  | _ => .no
def rng2 (ps : List PV) (vw : Vw) : R (List PV) := match ps with
  | [.int i, .int j] => if rngOk i = true ∧ rngOk j = true then .ok (rngL i (j - i).toNat) vw else .no
  | _ => .no
def sRng1 (i : IE) : IL := fun vw => (evA [i] vw).bind rng1
def sRng2 (i j : IE) : IL := fun vw => (evA [i, j] vw).bind rng2
theorem si_rng1 {a : Expr} {i : IE} {p : Pos} (hm : X.mg "range" = none) (ha : SE X a i) (hg : Gl X "range" := by rfl) (hs : starEach [a] X.env = [(false, eval a X.env)] := by rfl) : SI X tg (.Call (.Name "range" p) [a] [] pos) (sRng1 i) := fun W tk =>
  (pi_range1 hg hm (sas_cons ha sas_nil (by exact hs) W tk) hs).imp fun σ H R ⟨F, vw, S, hv, g, q⟩ => by
    refine runA (T := f0) (oblI X.K σ W R) hv (gd_zero g) (by rw [fz_add]; exact q) fun ps vw' vs H' F' S1 S2 a b c _ q => ?_
    rw [fz_add] at c q
    unfold rng1 at q
    split at q
    · obtain ⟨u, rfl, rfl, _⟩ := a.one
      split at q
      · rename_i hr
        have hr' := rngOk_iff hr
        exact ⟨_, rfl, hr'.1, hr'.2, (show PoI X.K σ W R (.ok _ vw') H' F' (fadd S1 S2) from q) _ H' F' S2 (it_rng 0 _) b (c.sub fun _ => Nat.le_add_left _ _) (Step.refl.sub fun _ => Nat.le_add_left _ _)⟩
      · exact q.elim
    · exact q.elim
theorem si_rng2 {a b : Expr} {i j : IE} {p : Pos} (hm : X.mg "range" = none) (ha : SE X a i) (hb : SE X b j) (hg : Gl X "range" := by rfl) (hs : starEach [a, b] X.env = [(false, eval a X.env), (false, eval b X.env)] := by rfl) (hs2 : starEach [b] X.env = [(false, eval b X.env)] := by rfl) : SI X tg (.Call (.Name "range" p) [a, b] [] pos) (sRng2 i j) := fun W tk =>
  (pi_range2 hg hm (sas_cons ha (sas_cons hb sas_nil (by exact hs2)) (by rw [hs, hs2]) W tk) hs hs2).imp fun σ H R ⟨F, vw, S, hv, g, q⟩ => by
    refine runA (T := f0) (oblI X.K σ W R) hv (gd_zero g) (by rw [fz_add]; exact q) fun ps vw' vs H' F' S1 S2 a b c _ q => ?_
    rw [fz_add] at c q
    unfold rng2 at q
    split at q
    · obtain ⟨u, w, T1, T2, rfl, _, ⟨rfl, _⟩, ⟨rfl, _⟩⟩ := a.two
      split at q
      · rename_i hr
        have h1 := rngOk_iff hr.1
        have h2 := rngOk_iff hr.2
        exact ⟨_, _, rfl, ⟨h1.1, h1.2, h2.1, h2.2⟩, (show PoI X.K σ W R (.ok _ vw') H' F' (fadd S1 S2) from q) _ H' F' S2 (it_rng _ _) b (c.sub fun _ => Nat.le_add_left _ _) (Step.refl.sub fun _ => Nat.le_add_left _ _)⟩
      · exact q.elim
    · exact q.elim
/-! ### enumerate, zip -/
def enumL : Nat → List PV → List PV
  | _, [] => []
  | n, x :: xs => T [.int (n : Nat), x] :: enumL (n + 1) xs
theorem enumL_get : ∀ {xs : List PV} {n i : Nat}, (enumL n xs)[i]? = xs[i]?.map fun x => T [.int ((n + i : Nat) : Int), x]
  | [], n, i => by simp [enumL]
  | x :: xs, n, 0 => by simp [enumL]
  | x :: xs, n, i + 1 => by
    rw [enumL, List.getElem?_cons_succ, enumL_get, List.getElem?_cons_succ]
    have : n + 1 + i = n + (i + 1) := by omega
    rw [this]
theorem enumL_length : ∀ {xs : List PV} {n : Nat}, (enumL n xs).length = xs.length
  | [], _ => rfl
  | x :: xs, n => by rw [enumL, List.length_cons, enumL_length, List.length_cons]
theorem rp_pair {K : PySem.W.Frag} {H : Hp} {F : Fz} {p q : PV} {v u : V} {a : Addr} (ha : H a = none) (r1 : Rp K H F p v f0) (r2 : Rp K H F q u f0) : Rp K (upd H a (.tup [v, u])) F (T [p, q]) (.ref a) f0 :=
  ⟨a, [v, u], f0, rfl, upd_same, (Rps.cons (r1.keep (kp_upd ha)) (Rps.sing (r2.keep (kp_upd ha)))).congr (fun _ => rfl), fun _ => rfl⟩
theorem it_enum {K : PySem.W.Frag} {H : Hp} {F : Fz} {a : Addr} {vs : List V} {xs : List PV} {k : Kd} (hh : Has K H false k a vs) (hk : k = .lst ∧ F a ∨ k = .frl) (hx : Rps K H F xs vs f0) : ItOk K H F (Ite K a) (enumL 0 xs) := by
  have hl := hx.length
  refine ⟨fun H' F' i kp hi => ?_, fun H' F' kp => ?_, fun H' F' i p x H'' kp hp hy => ?_⟩
  · rw [enumL_length] at hi
    exact ⟨vs, vs[i]'(by omega), SqL.keep hh hk kp, by simp⟩
  · rw [enumL_length]
    exact ⟨vs, SqL.keep hh hk kp, by omega⟩
  · obtain ⟨Tt, y, rfl, hn, rfl, hy⟩ := hy
    rw [enumL_get] at hp
    obtain ⟨z, hz, rfl⟩ := Option.map_eq_some_iff.mp hp
    refine ⟨same_upd hn, ?_⟩
    rw [Nat.zero_add]
    exact rp_pair hn ⟨rfl, fun _ => rfl⟩ ((hx.keep kp).at hz (hy vs (SqL.keep hh hk kp)))
theorem it_zip {K : PySem.W.Frag} {H : Hp} {F : Fz} {a b : Addr} {vs us : List V} {xs ys : List PV} {k k2 : Kd} (hh : Has K H false k a vs) (hk : k = .lst ∧ F a ∨ k = .frl) (hx : Rps K H F xs vs f0)
    (hh2 : Has K H false k2 b us) (hk2 : k2 = .lst ∧ F b ∨ k2 = .frl) (hy : Rps K H F ys us f0) : ItOk K H F (Itz K a b) (List.zipWith (fun x y => T [x, y]) xs ys) := by
  have hl := hx.length
  have hl2 := hy.length
  refine ⟨fun H' F' i kp hi => ?_, fun H' F' kp => ?_, fun H' F' i p x H'' kp hp hz => ?_⟩
  · rw [List.length_zipWith] at hi
    exact ⟨vs, us, vs[i]'(by omega), us[i]'(by omega), SqL.keep hh hk kp, SqL.keep hh2 hk2 kp, by simp, by simp⟩
  · rw [List.length_zipWith]
    exact ⟨vs, us, SqL.keep hh hk kp, SqL.keep hh2 hk2 kp, by omega⟩
  · obtain ⟨Tt, y, z, rfl, hn, rfl, h1, h2⟩ := hz
    rw [List.getElem?_zipWith] at hp
    cases e1 : xs[i]? with
    | none => rw [e1] at hp; cases hp
    | some p1 =>
      cases e2 : ys[i]? with
      | none => rw [e1, e2] at hp; cases hp
      | some p2 =>
        rw [e1, e2] at hp
        cases hp
        exact ⟨same_upd hn, rp_pair hn ((hx.keep kp).at e1 (h1 vs (SqL.keep hh hk kp))) ((hy.keep kp).at e2 (h2 us (SqL.keep hh2 hk2 kp)))⟩
theorem it_zipT {K : PySem.W.Frag} {H : Hp} {F : Fz} {a b : Addr} {vs us : List V} {xs ys : List PV} (hh : H a = some (.tup vs)) (hx : Rps K H F xs vs f0) (hh2 : H b = some (.tup us)) (hy : Rps K H F ys us f0) : ItOk K H F (RZ.ItzT K a b) (List.zipWith (fun x y => T [x, y]) xs ys) := by
  have hl := hx.length
  have hl2 := hy.length
  have kq : ∀ {H' : Hp} {F' : Fz} {a : Addr} {vs : List V}, H a = some (.tup vs) → Kp H F H' F' f0 → SqT K H' a vs := fun e kp => SqT.of (kp.1 _ _ e (.inr (.inr fun z => z)) (by intro _ z; cases z))
  refine ⟨fun H' F' i kp hi => ?_, fun H' F' kp => ?_, fun H' F' i p x H'' kp hp hz => ?_⟩
  · rw [List.length_zipWith] at hi
    exact ⟨vs, us, vs[i]'(by omega), us[i]'(by omega), kq hh kp, kq hh2 kp, by simp, by simp⟩
  · rw [List.length_zipWith]
    exact ⟨vs, us, kq hh kp, kq hh2 kp, by omega⟩
  · obtain ⟨Tt, y, z, rfl, hn, rfl, h1, h2⟩ := hz
    rw [List.getElem?_zipWith] at hp
    cases e1 : xs[i]? with
    | none => rw [e1] at hp; cases hp
    | some p1 =>
      cases e2 : ys[i]? with
      | none => rw [e1, e2] at hp; cases hp
      | some p2 =>
        rw [e1, e2] at hp
        cases hp
        exact ⟨same_upd hn, rp_pair hn ((hx.keep kp).at e1 (h1 vs (kq hh kp))) ((hy.keep kp).at e2 (h2 us (kq hh2 kp)))⟩
def enum1 (ps : List PV) (vw : Vw) : R (List PV) := match ps with
  | [.nd .lst _ xs] => .ok (enumL 0 (shrs xs)) vw
  | [.nd .frl _ xs] => .ok (enumL 0 (shrs xs)) vw
  | _ => .no
def sEnum (i : IE) : IL := fun vw => (evA [i] vw).bind enum1
theorem freezeA {K : PySem.W.Frag} {H : Hp} {F : Fz} {p : List PV} {v : List V} {vw : Vw} {σ : St} {S1 S2 : Fp} (r : Rps K H F p v S1) (hv : Rvw K H F vw σ S2) (g : Gd H F (fadd S1 S2)) :
    ∃ F', Rps K H F' (shrs p) v f0 ∧ Rvw K H F' vw σ S2 ∧ Gd H F' S2 ∧ Step H F (fadd S1 S2) H F' S2 := by
  refine ⟨fun a => F a ∨ 0 < S1 a, r.frz _ (fun _ z => .inl z) (fun _ z => .inr z), hv.keep ⟨fun a o e _ _ => e, fun _ z => .inl z⟩, ⟨fun a => ?_, fun a z w => ?_, fun a z => g.mu a (by show 0 < S1 a + S2 a; omega), fun a z => ?_, g.tb⟩, ⟨fun _ _ e _ _ => e, fun a z => .inl (by show 0 < S1 a + S2 a; omega), fun _ z => .inl z, fun a z => ?_⟩⟩
  · have l : S1 a + S2 a ≤ 1 := g.le a
    omega
  · rcases w with w | w
    · exact g.nf a (by show 0 < S1 a + S2 a; omega) w
    · have l : S1 a + S2 a ≤ 1 := g.le a
      omega
  · rcases z with z | z
    · exact g.fr a z
    · exact g.nfre (show 0 < fadd S1 S2 a by show 0 < S1 a + S2 a; omega)
  · rcases z with z | z
    · exact .inl z
    · exact .inr (.inl (by show 0 < S1 a + S2 a; omega))
theorem has_l {K : PySem.W.Frag} {H : Hp} {k : Kd} {a : Addr} {vs : List V} (hk : k = .lst ∨ k = .frl) (h : Has K H false k a vs) : SqL K H a vs := by
  rcases hk with rfl | rfl
  · exact SqL.of h
  · exact FrL.sq h
theorem si_enum {a : Expr} {i : IE} {p tpos : Pos} {elts : List Expr} {kk : Nat} (hm : X.mg "enumerate" = none) (ha : SE X a i) (hg : Gl X "enumerate" := by rfl) (hs : starEach [a] X.env = [(false, eval a X.env)] := by rfl) : SI X (.Tuple elts kk tpos) (.Call (.Name "enumerate" p) [a] [] pos) (sEnum i) := fun W tk =>
  (pi_enum hg hm (sas_cons ha sas_nil (by exact hs) W tk) hs).imp fun σ H R ⟨F, vw, S, hv, g, q⟩ => by
    refine runA (T := f0) (oblI X.K σ W R) hv (gd_zero g) (by rw [fz_add]; exact q) fun ps vw' vs H' F' S1 S2 a b c _ q => ?_
    rw [fz_add] at c q
    unfold enum1 at q
    split at q
    · obtain ⟨F2, r2, v2, g2, st⟩ := freezeA a b c
      obtain ⟨u, rfl, r3⟩ := Rps.one r2
      obtain ⟨d, ws, rfl, hh, hx, hF⟩ := shr_lst r3
      exact ⟨d, ws, rfl, has_l (.inl rfl) hh, (show PoI X.K σ W R (.ok _ vw') H' F' (fadd S1 S2) from q) _ H' F2 S2 (it_enum hh (.inl ⟨rfl, hF rfl⟩) hx) v2 g2 st⟩
    · obtain ⟨F2, r2, v2, g2, st⟩ := freezeA a b c
      obtain ⟨u, rfl, r3⟩ := Rps.one r2
      obtain ⟨d, ws, rfl, hh, hx, hF⟩ := shr_lst r3
      exact ⟨d, ws, rfl, has_l (.inr rfl) hh, (show PoI X.K σ W R (.ok _ vw') H' F' (fadd S1 S2) from q) _ H' F2 S2 (it_enum hh (.inr rfl) hx) v2 g2 st⟩
    · exact q.elim
def isLst : PV → Bool
  | .nd .lst _ _ => true
  | .nd .frl _ _ => true
  | _ => false
def isTup : PV → Bool
  | .nd .tup _ _ => true
  | _ => false
def kidsOf : PV → List PV
  | .nd _ _ xs => xs
  | _ => []
def zip2 (ps : List PV) (vw : Vw) : R (List PV) := match ps with
  | [p, q] => if (isLst p && isLst q || isTup p && isTup q) = true then .ok (List.zipWith (fun x y => T [x, y]) (shrs (kidsOf p)) (shrs (kidsOf q))) vw else .no
  | _ => .no
def sZip (i j : IE) : IL := fun vw => (evA [i, j] vw).bind zip2
theorem isLst_ok {K : PySem.W.Frag} {H : Hp} {F : Fz} {p : PV} {v : V} (e : isLst p = true) (h : Rp K H F p.shr v f0) : ∃ a vs k, v = .ref a ∧ Has K H false k a vs ∧ (k = .lst ∧ F a ∨ k = .frl) ∧ SqL K H a vs ∧ Rps K H F (shrs (kidsOf p)) vs f0 := by
  cases p with
  | nd k o xs =>
    obtain ⟨d, ws, rfl, hh, hx, hF⟩ := shr_lst h
    cases k with
    | lst => exact ⟨d, ws, .lst, rfl, hh, .inl ⟨rfl, hF rfl⟩, has_l (.inl rfl) hh, hx⟩
    | frl => exact ⟨d, ws, .frl, rfl, hh, .inr rfl, has_l (.inr rfl) hh, hx⟩
    | _ => cases e
  | _ => cases e
theorem isTup_ok {K : PySem.W.Frag} {H : Hp} {F : Fz} {p : PV} {v : V} (e : isTup p = true) (h : Rp K H F p.shr v f0) : ∃ a vs, v = .ref a ∧ H a = some (.tup vs) ∧ Rps K H F (shrs (kidsOf p)) vs f0 := by
  cases p with
  | nd k o xs =>
    obtain ⟨d, ws, rfl, hh, hx, hF⟩ := shr_lst h
    cases k with
    | tup => exact ⟨d, ws, rfl, hh, hx⟩
    | _ => cases e
  | _ => cases e
theorem si_zip {a b : Expr} {i j : IE} {p tpos : Pos} {elts : List Expr} {kk : Nat} (hm : X.mg "zip" = none) (ha : SE X a i) (hb : SE X b j) (hg : Gl X "zip" := by rfl) (hs : starEach [a, b] X.env = (false, eval a X.env) :: starEach [b] X.env := by rfl) (hs2 : starEach [b] X.env = [(false, eval b X.env)] := by rfl) (hpl : (backTo pos (starEach [b] X.env)).any (·.1) = false := by rfl) :
    SI X (.Tuple elts kk tpos) (.Call (.Name "zip" p) [a, b] [] pos) (sZip i j) := fun W tk =>
  (RZ.pi_zipA hg hm (sas_cons ha (sas_cons hb sas_nil (by exact hs2)) hs W tk) hs hpl).imp fun σ H R ⟨F, vw, S, hv, g, q⟩ => by
    refine runA (T := f0) (oblI X.K σ W R) hv (gd_zero g) (by rw [fz_add]; exact q) fun ps vw' vs H' F' S1 S2 a b c _ q => ?_
    rw [fz_add] at c q
    unfold zip2 at q
    split at q
    · rename_i p q0
      split at q
      · rename_i hk
        obtain ⟨F2, r2, v2, g2, st⟩ := freezeA a b c
        obtain ⟨u, w, T1, T2, rfl, es, ra, rb⟩ := Rps.two r2
        have e1 : T1 = f0 := funext fun b => by have : 0 = T1 b + T2 b := es b; show T1 b = 0; omega
        have e2 : T2 = f0 := funext fun b => by have : 0 = T1 b + T2 b := es b; show T2 b = 0; omega
        subst e1
        subst e2
        have q' : PoI X.K σ W R (.ok _ vw') H' F' (fadd S1 S2) := q
        rcases Bool.or_eq_true_iff.mp hk with hk | hk
        · obtain ⟨k1, k2⟩ := Bool.and_eq_true_iff.mp hk
          obtain ⟨a1, vs1, kk1, rfl, h1, h2, h3, h4⟩ := isLst_ok k1 ra
          obtain ⟨a2, vs2, kk2, rfl, g1, g2', g3, g4⟩ := isLst_ok k2 rb
          exact ⟨a1, a2, vs1, vs2, rfl, .inl ⟨h3, g3, q' _ H' F2 S2 (it_zip h1 h2 h4 g1 g2' g4) v2 g2 st⟩⟩
        · obtain ⟨k1, k2⟩ := Bool.and_eq_true_iff.mp hk
          obtain ⟨a1, vs1, rfl, h1, h4⟩ := isTup_ok k1 ra
          obtain ⟨a2, vs2, rfl, g1, g4⟩ := isTup_ok k2 rb
          exact ⟨a1, a2, vs1, vs2, rfl, .inr ⟨SqT.of h1, SqT.of g1, q' _ H' F2 S2 (it_zipT h1 h4 g1 g4) v2 g2 st⟩⟩
      · exact q.elim
    · exact q.elim
end
end Bx
set_option Elab.async false
set_option linter.all false
set_option maxRecDepth 100000
set_option maxHeartbeats 4000000
/-! L3e: list comprehensions. -/
namespace Bx
open PySem PySem.Spec PyProof.Rows L2
variable [Tbs]
def noX {α : Type} : R α → R α
  | .exc _ _ => .no
  | r => r
def wipeV (vw : Vw) : List Nat → Vw
  | [] => vw
  | v :: vs => (wipeV vw vs).set v none
section
variable {K : PySem.W.Frag} {H : Hp} {F : Fz} {W : WX} {σ : St}
theorem tX_noX {α β : Type} {A : RL α β} {i : Vw → R α} {Q : β → Hp → Prop} (h : tX A K (fun vw => noX (i vw)) W σ H Q) : tX A K i W σ H Q := by
  obtain ⟨F, vw, S, hv, g, p⟩ := h
  refine ⟨F, vw, S, hv, g, ?_⟩
  have p : Po A K σ W Q (noX (i vw)) H F S := p
  cases e : i vw with
  | no => rw [e] at p; exact p
  | ok q vw' => rw [e] at p; exact p
  | exc x vw' => rw [e] at p; exact p.elim
theorem wipeV_length (vw : Vw) : ∀ vs, (wipeV vw vs).length = vw.length
  | [] => rfl
  | v :: vs => by rw [wipeV, List.length_set, wipeV_length vw vs]
theorem set_none_ge {α : Type} {l : List α} {n : Nat} {x : α} (h : ¬ n < l.length) : l.set n x = l := List.set_eq_of_length_le (by omega)
theorem Rvw.dropS {vw : Vw} {S : Fp} {n : Nat} (h : Rvw K H F vw σ S) : ∃ S2, (∀ b, S2 b ≤ S b) ∧ Rvw K H F (vw.set n none) (σ.set n none) S2 := by
  by_cases hn : n < vw.length
  · obtain ⟨S2, l, h2⟩ := h.drop hn
    exact ⟨S2, l, h2.any (List.getElem?_set_self hn)⟩
  · rw [set_none_ge hn, set_none_ge (by rw [← h.length]; exact hn)]
    exact ⟨S, fun _ => Nat.le_refl _, h⟩
theorem Rvw.wiped {vw : Vw} {S : Fp} (h : Rvw K H F vw σ S) : ∀ vs, ∃ S2, (∀ b, S2 b ≤ S b) ∧ Rvw K H F (wipeV vw vs) (wipe σ vs) S2
  | [] => ⟨S, fun _ => Nat.le_refl _, h⟩
  | v :: vs => by
    obtain ⟨S2, l2, h2⟩ := h.wiped vs
    obtain ⟨S3, l3, h3⟩ := h2.dropS (n := v)
    exact ⟨S3, fun b => Nat.le_trans (l3 b) (l2 b), h3⟩
theorem wipeV_none {vw : Vw} {n : Nat} : ∀ {vs : List Nat}, n ∈ vs → n < vw.length → (wipeV vw vs)[n]? = some none
  | [], h, _ => by cases h
  | v :: vs, h, hl => by
    rw [wipeV]
    by_cases e : v = n
    · subst e; rw [List.getElem?_set_self (by rw [wipeV_length]; exact hl)]
    · rw [List.getElem?_set_ne e]
      exact wipeV_none ((List.mem_cons.mp h).resolve_left (fun z => e z.symm)) hl
theorem Rvw.irr : ∀ {vw : Vw} {σ σ' : St} {S : Fp}, Rvw K H F vw σ S → σ'.length = σ.length → (∀ i : Nat, vw[i]? ≠ some none → σ'[i]? = σ[i]?) → Rvw K H F vw σ' S
  | [], σ, σ', S, h, hl, _ => by
    obtain ⟨rfl, z⟩ := h
    exact ⟨List.length_eq_zero_iff.mp hl, z⟩
  | none :: vw, σ, σ', S, h, hl, k => by
    obtain ⟨x, τ, rfl, h⟩ := h
    cases σ' with
    | nil => cases hl
    | cons y τ' => exact ⟨y, τ', rfl, Rvw.irr h (by simpa using hl) fun i hi => by simpa using k (i + 1) (by simpa using hi)⟩
  | some p :: vw, σ, σ', S, h, hl, k => by
    obtain ⟨v, τ, S1, S2, rfl, es, h1, h2⟩ := h
    cases σ' with
    | nil => cases hl
    | cons y τ' =>
      have e : y = some v := by simpa using k 0 (by simp)
      subst e
      exact ⟨v, τ', S1, S2, rfl, es, h1, Rvw.irr h2 (by simpa using hl) fun i hi => by simpa using k (i + 1) (by simpa using hi)⟩
theorem wipe_get {σ : St} {i : Nat} : ∀ {vs : List Nat}, i ∉ vs → (wipe σ vs)[i]? = σ[i]?
  | [], _ => rfl
  | v :: vs, h => by
    rw [wipe, List.getElem?_set_ne (fun z => h (List.mem_cons.mpr (.inl z.symm)))]
    exact wipe_get (fun z => h (List.mem_cons.mpr (.inr z)))
theorem wipe_in {σ : St} {i : Nat} : ∀ {vs : List Nat}, i ∈ vs → i < σ.length → (wipe σ vs)[i]? = some none
  | [], h, _ => by cases h
  | v :: vs, h, hl => by
    rw [wipe]
    by_cases e : v = i
    · subst e; rw [List.getElem?_set_self (by rw [wipe_length]; exact hl)]
    · rw [List.getElem?_set_ne e]
      exact wipe_in ((List.mem_cons.mp h).resolve_left (fun z => e z.symm)) hl
/-- behind the block the names have their values again -/
theorem Rvw.back {vw : Vw} {S : Fp} {vs : List Nat} (h : Rvw K H F (wipeV vw vs) (wipe σ vs) S) : Rvw K H F (wipeV vw vs) σ S := by
  have hl := h.length
  rw [wipeV_length, wipe_length] at hl
  refine h.irr (by rw [wipe_length]) fun i hi => ?_
  by_cases e : i ∈ vs
  · by_cases l : i < vw.length
    · exact absurd (wipeV_none e l) hi
    · rw [List.getElem?_eq_none (by omega), List.getElem?_eq_none (by rw [wipe_length]; omega)]
  · rw [wipe_get e]
def fxIn (vs : List Nat) : Nat → Bool := fun i => !vs.contains i
theorem fix_wipe {σ σ2 : St} {vs : List Nat} (f : Fix (fxIn vs) (wipe σ vs) σ2) : wipe σ2 vs = wipe σ vs := by
  have hl : σ2.length = σ.length := by rw [f.1, wipe_length]
  refine List.ext_getElem? fun i => ?_
  by_cases e : i ∈ vs
  · by_cases l : i < σ.length
    · rw [wipe_in e l, wipe_in e (by omega)]
    · rw [List.getElem?_eq_none (by rw [wipe_length]; omega), List.getElem?_eq_none (by rw [wipe_length]; omega)]
  · rw [wipe_get e, f.2 i (by unfold fxIn; simp [e])]
end
/-- one turn and the rest -/
def lcElt (vs : List Nat) (k : List PV → Vw → R (List PV)) (acc : List PV) (q : PV) (vw : Vw) : R (List PV) := if acc.length < sizeLine then k (acc ++ [q]) (wipeV vw vs) else .no
def lcTest (te : IE) (vs : List Nat) (k : List PV → Vw → R (List PV)) (acc : List PV) (b : Bool) (vw : Vw) : R (List PV) := if b = true then (noX (te vw)).bind (lcElt vs k acc) else k acc (wipeV vw vs)
def lcTurns (f : TgF) (tt : IT) (te : IE) (vs : List Nat) : List PV → List PV → Vw → R (List PV)
  | [], acc, vw => .ok acc vw
  | p :: ps, acc, vw => match f p vw with
    | none => .no
    | some vw1 => (noX (tt vw1)).bind (lcTest te vs (lcTurns f tt te vs ps) acc)
def lcFin (acc : List PV) (vw : Vw) : R PV := .ok (L acc) vw
def iLc (src : IL) (f : TgF) (tt : IT) (te : IE) (vs : List Nat) : IE := fun vw => (src vw).bind fun ps vw1 => (lcTurns f tt te vs ps [] (wipeV vw1 vs)).bind lcFin
def tYesT : IT := fun vw => .ok true vw
/-- an obligation without exceptions -/
def oblN {K : PySem.W.Frag} {σ : St} {γ : Type} (P : γ → Vw → Hp → Fz → Fp → Prop) (hP : ∀ {a vw H F S H1 F1 S1}, Step H F S H1 F1 S1 → P a vw H F S → P a vw H1 F1 S1) : Obl K (fun _ _ _ _ => False) σ γ where
  p := fun r H F S => match r with
    | .ok a vw => P a vw H F S
    | _ => False
  stp := fun {r H F S H1 F1 S1} s h => by
    cases r with
    | ok a vw => exact hP s h
    | no => exact h
    | exc x vw => exact h
  no := fun h => h
  exc := fun h => h.elim
theorem Po.stp {α β : Type} {A : RL α β} {K : PySem.W.Frag} {σ : St} {W : WX} {Q : β → Hp → Prop} {r : R α} {H H1 : Hp} {F F1 : Fz} {S S1 : Fp} (s : Step H F S H1 F1 S1) (h : Po A K σ W Q r H F S) : Po A K σ W Q r H1 F1 S1 := (oblX A K σ W Q).stp s h
/-- the new list gets an item -/
theorem app_own {K : PySem.W.Frag} {H : Hp} {F : Fz} {D : Addr} {accV : List V} {acc : List PV} {p : PV} {v : V} {Sa S1 Sv : Fp} {vw : Vw} {σ : St} (hD : H D = some (.lst accV)) (ra : Rps K H F acc accV Sa) (r : Rp K H F p v S1) (hv : Rvw K H F vw σ Sv) (g : Gd H F (fadd (fadd (one D) Sa) (fadd S1 Sv))) :
    ∀ H', H' = upd H D (.lst (accV ++ [v])) → H' D = some (.lst (accV ++ [v])) ∧ Rps K H' F (acc ++ [p]) (accV ++ [v]) (fadd Sa S1) ∧ Rvw K H' F vw σ Sv ∧ Gd H' F (fadd (fadd (one D) (fadd Sa S1)) Sv) ∧ Step H F (fadd (fadd (one D) Sa) (fadd S1 Sv)) H' F (fadd (fadd (one D) (fadd Sa S1)) Sv) := by
  intro H' eH
  subst eH
  have eq : fadd (fadd (one D) Sa) (fadd S1 Sv) = fadd (fadd (one D) (fadd Sa S1)) Sv := by rw [fadd_assoc, fadd_assoc, fadd_assoc]
  rw [eq] at g ⊢
  have tot : ∀ b, fadd (fadd (one D) (fadd Sa S1)) Sv b = one D b + (Sa b + S1 b) + Sv b := fun b => rfl
  have lD := g.le D
  rw [tot D, one_self] at lD
  have pD : 0 < fadd (fadd (one D) (fadd Sa S1)) Sv D := by rw [tot D, one_self]; omega
  have nf := g.nf D pD
  have kp : ∀ U : Fp, U D = 0 → Kp H F (upd H D (.lst (accV ++ [v]))) F U := fun U hU => ⟨fun b u hb z _ => by
    have : b ≠ D := fun c => by
      subst c
      rcases z with z | z | z
      · omega
      · exact nf z
      · rw [hD] at hb; cases hb; exact z True.intro
    rw [upd_ne this]; exact hb, fun _ z => z⟩
  refine ⟨upd_same, (ra.append (Rps.sing r)).keep (kp _ (by show Sa D + S1 D = 0; omega)), hv.keep (kp _ (by omega)), ⟨g.le, g.nf, fun b z => ?_, fun b z => nfre_upd True.intro (g.fr b z), tabs_upd ⟨(fun ps z => by rw [hD] at z; cases z), (fun φ z => by rw [hD] at z; cases z)⟩ g.tb⟩, ⟨fun b u hb z _ => ?_, fun b z => .inl z, fun _ z => z, fun _ z => .inl z⟩⟩
  · by_cases c : b = D
    · subst c; rw [upd_same]; exact True.intro
    · rw [upd_ne c]; exact g.mu b z
  · have : b ≠ D := fun c => by subst c; omega
    rw [upd_ne this]; exact hb
section
variable {X : Cx} {pos : Pos}
/-- the context of a comprehension's block -/
def Blk (X : Cx) (scope : Scope) (Y : Cx) : Prop := ∃ (s : Shared) (H : Hp) (C : Addr) (cl : List (Str × Addr)) (fp : List Addr), Y = X.blk s H scope (compEnvC scope cl C X.env) fp
theorem takes_no {Y : Cx} : Takes Y (fun _ _ _ _ => False) := fun u s' ⟨a, B, sI, pins, σ, H, cls, d, e, I, nb, up, sky, na, os, ag, w⟩ => w.elim
/-- a clause's tests -/
def STs (X : Cx) (ifs : List Expr) (t : IT) : Prop := ∀ W, Takes X W → PTs X ifs (tT X.K t W)
theorem _root_.L2.PTs.imp {X : Cx} {e : List Expr} {t t' : TT} (h : PTs X e t) (m : ∀ σ H Q, t' σ H Q → t σ H Q) : PTs X e t' := ⟨fun pins s σ H Q I q => h.run pins s σ H Q I (m _ _ _ q)⟩
theorem sts_nil : STs X [] tYesT := fun W tk => pts_nil.imp fun σ H Q ⟨F, vw, S, hv, g, q⟩ => po_true (X := X) hv g q
theorem sts_one {c : Expr} {t : IT} (h : ST X c t) : STs X [c] t := fun W tk => pts_one (h W tk)
/-- the turns of a comprehension -/
theorem lc_turns {f : TgF} {tt : IT} {te : IE} {vs : List Nat} {W : WX} {σ : St} {Q : VK} {ps : List PV} {J : It} {H1 : Hp} {F1 : Fz} {S1 : Fp} {vw1 : Vw} (it : ItOk X.K H1 F1 J ps) (v1 : Rvw X.K H1 F1 vw1 σ S1) (g1 : Gd H1 F1 S1)
    (p1 : Po (rlE X.K) X.K σ W Q ((lcTurns f tt te vs ps [] (wipeV vw1 vs)).bind lcFin) H1 F1 S1) (D : Addr) (hD : H1 D = none) :
    ∃ W : Nat → Nat → Hp → Prop, (∃ m, W 0 m (upd H1 D (.lst []))) ∧ ∀ i m H, W i m H →
      (J.stop i H ∧ Q (.ref D) H) ∨ (J.go i H ∧ ∃ Nx : Hp → Prop, (∀ H', Nx H' → ∃ m', m' < m ∧ W (i + 1) m' H') ∧ ∀ x H', J.yld i H x H' → tG X.K (fxIn vs) f x (wipe σ vs) H' fun σ2 H2 => wipe σ2 vs = wipe σ vs ∧ tT X.K tt (fun _ _ _ _ => False) σ2 H2 fun b H3 =>
        if b = true then tE X.K te (fun _ _ _ _ => False) σ2 H3 fun y H4 => ∃ acc, H4 D = some (.lst acc) ∧ acc.length < sizeLine ∧ Nx (upd H4 D (.lst (acc ++ [y]))) else Nx H3) := by
  let St (i : Nat) (H : Hp) : Prop := ∃ F vw Sa Sv acc accV, H D = some (.lst accV) ∧ Rps X.K H F acc accV Sa ∧ Rvw X.K H F (wipeV vw vs) (wipe σ vs) Sv ∧ Gd H F (fadd (fadd (one D) Sa) Sv) ∧ Kp H1 F1 H F f0 ∧
    Po (rlE X.K) X.K σ W Q ((lcTurns f tt te vs (ps.drop i) acc (wipeV vw vs)).bind lcFin) H F (fadd (fadd (one D) Sa) Sv)
  refine ⟨fun i m H => m = ps.length - i ∧ i ≤ ps.length ∧ St i H, ⟨ps.length, by omega, Nat.zero_le _, ?_⟩, ?_⟩
  · obtain ⟨Sw, lw, vw'⟩ := v1.wiped vs
    have g0 := g1.sub lw
    have gn := new_gd1 (o := .lst []) (S1 := f0) hD True.intro (gd_zero g0)
    refine ⟨F1, vw1, f0, Sw, [], [], upd_same, Rps.nil, vw'.keep (kp_upd hD), gn, kp_upd hD, Po.stp (new_step hD fun a z => ?_) p1⟩
    by_cases h : a = D
    · exact .inr h
    · have z' : 0 < one D a + 0 + Sw a := z
      rw [one_ne h] at z'
      exact .inl (Nat.lt_of_lt_of_le (by omega) (lw a))
  · rintro i m H ⟨rfl, hi, F, vw, Sa, Sv, acc, accV, eD, ra, hv, g, kp, p⟩
    by_cases hlt : i < ps.length
    · refine .inr ⟨it.go H F i kp hlt, St (i + 1), fun H' n => ⟨ps.length - (i + 1), by omega, rfl, hlt, n⟩, fun x H2 y => ?_⟩
      obtain ⟨sm, rx⟩ := it.yld H F i ps[i] x H2 kp (by simp [hlt]) y
      rw [List.drop_eq_getElem_cons hlt, lcTurns] at p
      cases ef : f ps[i] (wipeV vw vs) with
      | none => rw [ef] at p; exact p.elim
      | some vw3 =>
        rw [ef] at p
        simp only at p
        have g2 : Gd H2 F (fadd (fadd (one D) Sa) Sv) := ⟨g.le, g.nf, fun a z => by
          obtain ⟨o, eo⟩ := Mut.some (g.mu a z)
          rw [sm a o eo, ← eo]; exact g.mu a z, (fun a z => nfre_same sm (g.fr a z)), tabs_same sm g.tb⟩
        have st2 : Step H F (fadd (fadd (one D) Sa) Sv) H2 F (fadd (fadd (one D) Sa) Sv) := ⟨fun a o eo _ _ => sm a o eo, fun a z => .inl z, fun _ z => z, fun _ z => .inl z⟩
        have eD2 := sm D _ eD
        refine ⟨F, wipeV vw vs, f0, Sv, _, vw3, hv.keep (same_kp sm), rx, ef, fun σ2 S3 v3 f3 l3 => ⟨fix_wipe f3, ?_⟩⟩
        have l3' : ∀ b, S3 b ≤ Sv b := fun b => by have : S3 b ≤ 0 + Sv b := l3 b; omega
        have lt : ∀ b, fadd (fadd (one D) Sa) S3 b ≤ fadd (fadd (one D) Sa) Sv b := fun b => Nat.add_le_add_left (l3' b) _
        have g3 := g2.sub lt
        have p3 := Po.stp (st2.sub lt) p
        have kp3 : Kp H1 F1 H2 F f0 := kp.trans (same_kp sm)
        have hw := fix_wipe f3
        -- the tests
        let k1 := lcTurns f tt te vs (ps.drop (i + 1))
        refine tX_noX (run (T := fadd (one D) Sa) (f := fun b vw => .ok b vw) rlT (oblN (K := X.K) (σ := σ2) (γ := Bool) (fun b vw4 H F S => Po (rlE X.K) X.K σ W Q ((lcTest te vs k1 acc b vw4).bind lcFin) H F S) (by intro _ _ _ _ _ _ _ _ st h; exact Po.stp st h)) v3 g3 ?_ fun b vw4 b' H4 F4 T1 S4 rb v4 g4 kp4 p4 => ?_)
        · have p3' : Po (rlE X.K) X.K σ W Q (((noX (tt vw3)).bind (lcTest te vs k1 acc)).bind lcFin) H2 F (fadd (fadd (one D) Sa) S3) := p3
          cases et : noX (tt vw3) with
          | no => rw [et] at p3'; exact p3'
          | exc x vw' => cases e0 : tt vw3 with
            | no => rw [e0] at et; cases et
            | ok _ _ => rw [e0] at et; cases et
            | exc _ _ => rw [e0] at et; cases et
          | ok b vw' => rw [et] at p3'; exact p3'
        obtain ⟨rfl, z⟩ := rb
        rw [f0_eq z, fz_add] at g4 p4
        have eD4 := kp4.1 D _ eD2 (.inl (by show 0 < one D D + Sa D; rw [one_self]; omega)) (by intro _ z; cases z)
        have ra4 := (ra.keep (same_kp sm)).keep (kp4.mono fun b => Nat.le_add_left _ _)
        have kp4' : Kp H1 F1 H4 F4 f0 := kp3.trans (kp4.mono fun _ => Nat.zero_le _)
        cases b with
        | false =>
          show if false = true then _ else St (i + 1) H4
          rw [if_neg Bool.false_ne_true]
          obtain ⟨S5, l5, v5⟩ := v4.wiped vs
          rw [hw] at v5
          have lt5 : ∀ b, fadd (fadd (one D) Sa) S5 b ≤ fadd (fadd (one D) Sa) S4 b := fun b => Nat.add_le_add_left (l5 b) _
          exact ⟨F4, vw4, Sa, S5, acc, accV, eD4, ra4, v5, g4.sub lt5, kp4', Po.stp (Step.refl.sub lt5) p4⟩
        | true =>
          show if true = true then tE X.K te (fun _ _ _ _ => False) σ2 H4 _ else _
          rw [if_pos rfl]
          have p4b : Po (rlE X.K) X.K σ W Q (((noX (te vw4)).bind (lcElt vs k1 acc)).bind lcFin) H4 F4 (fadd (fadd (one D) Sa) S4) := p4
          refine tX_noX (run (T := fadd (one D) Sa) (f := fun q vw => .ok q vw) (rlE X.K) (oblN (K := X.K) (σ := σ2) (γ := PV) (fun q vw5 H F S => Po (rlE X.K) X.K σ W Q ((lcElt vs k1 acc q vw5).bind lcFin) H F S) (by intro _ _ _ _ _ _ _ _ st h; exact Po.stp st h)) v4 g4 ?_ fun q vw5 u H5 F5 T1 S5 ru v5 g5 kp5 p5 => ?_)
          · cases et : noX (te vw4) with
            | no => rw [et] at p4b; exact p4b
            | exc x vw' => cases e0 : te vw4 with
              | no => rw [e0] at et; cases et
              | ok _ _ => rw [e0] at et; cases et
              | exc _ _ => rw [e0] at et; cases et
            | ok b vw' => rw [et] at p4b; exact p4b
          have p5' : Po (rlE X.K) X.K σ W Q ((if acc.length < sizeLine then k1 (acc ++ [q]) (wipeV vw5 vs) else .no).bind lcFin) H5 F5 (fadd (fadd (one D) Sa) (fadd T1 S5)) := p5
          by_cases hz : acc.length < sizeLine
          · rw [if_pos hz] at p5'
            have eD5 := kp5.1 D _ eD4 (.inl (by show 0 < one D D + Sa D; rw [one_self]; omega)) (by intro _ z; cases z)
            have ra5 := ra4.keep (kp5.mono fun b => Nat.le_add_left _ _)
            refine ⟨accV, eD5, by rw [← ra.length]; exact hz, ?_⟩
            obtain ⟨S6, l6, v6⟩ := v5.wiped vs
            rw [hw] at v6
            have lt6 : ∀ b, fadd (fadd (one D) Sa) (fadd T1 S6) b ≤ fadd (fadd (one D) Sa) (fadd T1 S5) b := fun b => Nat.add_le_add_left (Nat.add_le_add_left (l6 b) _) _
            obtain ⟨a1, a2, a3, a4, a5⟩ := app_own eD5 ra5 ru v6 (g5.sub lt6) _ rfl
            refine ⟨F5, vw5, _, S6, _, _, a1, a2, a3, a4, (kp4'.trans (kp5.mono fun _ => Nat.zero_le _)).trans (kp0 (g5.sub lt6) a5), Po.stp a5 (Po.stp (Step.refl.sub lt6) p5')⟩
          · rw [if_neg hz] at p5'; exact p5'.elim
    · have ei : i = ps.length := by omega
      subst ei
      rw [List.drop_length] at p
      refine .inl ⟨it.stop H F kp, ?_⟩
      have p' : Po (rlE X.K) X.K σ W Q (.ok (L acc) (wipeV vw vs)) H F (fadd (fadd (one D) Sa) Sv) := p
      exact p' (.ref D) H F (fadd (one D) Sa) Sv ⟨D, accV, Sa, rfl, eD, ra, fun b => rfl⟩ hv.back g Step.refl
/-- [elt for tg in iter if ..] -/
theorem se_lc {elt tg iter : Expr} {ifs : List Expr} {scope : Scope} {src : IL} {f : TgF} {tt : IT} {te : IE} (own : List (Str × Nat)) (hc : X.calm = true) (hN : X.N.Nodup) (hi : SI X tg iter src) (ok : blkC X.N X.env.scope scope own = true)
    (hg : ∀ Y, Blk X scope Y → SG Y (fxIn (own.map (·.2))) tg f) (ht : ∀ Y, Blk X scope Y → STs Y ifs tt) (he : ∀ Y, Blk X scope Y → SE Y elt te) (hs : ∀ x, foldedSetIterable iter X.env x = pure x := by intro _; rfl) :
    SE X (.ListComp elt [⟨tg, iter, ifs, 0⟩] scope pos) (iLc src f tt te (own.map (·.2))) := fun W tk =>
  (pe_lc (g := tG X.K (fxIn (own.map fun p : Str × Nat => p.2)) f) (tt := tT X.K tt (fun _ _ _ _ => False)) (te := tE X.K te (fun _ _ _ _ => False)) hc hN (hi W tk) (blkOk_by ok) (fun s H C cl fp => hg _ ⟨s, H, C, cl, fp, rfl⟩) (fun s H C cl fp => ht _ ⟨s, H, C, cl, fp, rfl⟩ _ takes_no) (fun s H C cl fp => he _ ⟨s, H, C, cl, fp, rfl⟩ _ takes_no) hs).imp fun σ H Q ⟨F, vw, S, hv, g, h⟩ => by
    refine ⟨F, vw, S, hv, g, ?_⟩
    unfold iLc at h
    cases e : src vw with
    | no => rw [e] at h; exact h
    | exc x vw' => rw [e] at h; exact h
    | ok ps vw' =>
      rw [e] at h
      intro J H1 F1 S1 it v1 g1 st1 D hD
      exact lc_turns it v1 g1 (Po.stp st1 h) D hD
end
end Bx
set_option Elab.async false
set_option linter.all false
set_option maxRecDepth 100000
set_option maxHeartbeats 4000000
/-! L4a: defs as functions of values; calls, methods, new instances. -/
namespace Bx
open PySem PySem.Spec PyProof.Rows L2
variable [Tbs]
/-- what a def makes: its value, and what has become of the parameters that it was lent -/
inductive RF where
  | no
  | ret (p : PV) (ws : List PV)
  | exc (x : Xc) (ws : List PV)
abbrev DF := List PV → RF
def pick : List Bool → List V → List V
  | true :: fl, v :: vs => v :: pick fl vs
  | false :: fl, _ :: vs => pick fl vs
  | _, _ => []
def takeP : List Bool → Vw → Option (List PV)
  | [], _ => some []
  | true :: fl, some p :: vw => (takeP fl vw).map fun l => p :: l
  | false :: fl, _ :: vw => takeP fl vw
  | _, _ => none
def PoD (K : PySem.W.Frag) (lv : List V) (Q : VK) (E : XK) : RF → Hp → Fz → Fp → Prop
  | .no, _, _, _ => False
  | .ret p ws, H, F, S => ∀ v H' F' S1 S2, Rp K H' F' p v S1 → Rps K H' F' ws lv S2 → Gd H' F' (fadd S1 S2) → Step H F S H' F' (fadd S1 S2) → Q v H'
  | .exc x ws, H, F, S => ∀ cls d H' F' S2, Rx K H' F' x cls d → Rps K H' F' ws lv S2 → Gd H' F' S2 → Step H F S H' F' S2 → E cls d H'
/-- a def's promise -/
def spI (K : PySem.W.Frag) (fl : List Bool) (D : DF) : Sp := fun vs H Q E => vs.length = fl.length ∧ ∃ F ps S, Rps K H F ps vs S ∧ Gd H F S ∧ PoD K (pick fl vs) Q E (D ps) H F S
/-- the def of a body: n names in all -/
def mkVw (n : Nat) (ps : List PV) : Vw := ps.map some ++ List.replicate (n - ps.length) none
def defEnd (fl : List Bool) : R Sr → RF
  | .ok .nx vw => match takeP fl vw with
    | some ws => .ret .non ws
    | none => .no
  | .ok (.rt p) vw => match takeP fl vw with
    | some ws => .ret p ws
    | none => .no
  | .exc x vw => match takeP fl vw with
    | some ws => .exc x ws
    | none => .no
  | _ => .no
def defOf (fl : List Bool) (n : Nat) (j : IS) : DF := fun ps => defEnd fl (j (mkVw n ps))
def fxP (fl : List Bool) : Nat → Bool := fun i => fl.getD i false
section
variable {K : PySem.W.Frag} {H : Hp} {F : Fz}
theorem takeP_ok : ∀ {fl : List Bool} {vw : Vw} {σ : St} {S : Fp} {ws : List PV} {vs : List V}, Rvw K H F vw σ S → takeP fl vw = some ws → (∀ i, fl.getD i false = true → ∃ v, vs[i]? = some v ∧ σ[i]? = some (some v)) → fl.length = vs.length →
    ∃ S3, Rps K H F ws (pick fl vs) S3 ∧ ∀ b, S3 b ≤ S b
  | [], vw, σ, S, ws, vs, h, e, k, hl => by
    cases e
    have : pick [] vs = [] := by cases vs <;> rfl
    rw [this]
    exact ⟨f0, ⟨rfl, fun _ => rfl⟩, fun _ => Nat.zero_le _⟩
  | b :: fl, [], σ, S, ws, vs, h, e, k, hl => by cases b <;> cases e
  | true :: fl, none :: vw, σ, S, ws, vs, h, e, k, hl => by cases e
  | true :: fl, some p :: vw, σ, S, ws, vs, h, e, k, hl => by
    obtain ⟨l, e1, rfl⟩ := Option.map_eq_some_iff.mp e
    obtain ⟨v, σ', S1, S2, rfl, es, h1, h2⟩ := h
    cases vs with
    | nil => cases hl
    | cons u vs =>
      obtain ⟨v', e2, e3⟩ := k 0 rfl
      have e2' : u = v' := by simpa using e2
      have e3' : v = v' := by simpa using e3
      subst e2'
      subst e3'
      obtain ⟨S3, r3, l3⟩ := takeP_ok (vs := vs) h2 e1 (fun i hi => by simpa using k (i + 1) (by simpa using hi)) (by simpa using hl)
      exact ⟨fadd S1 S3, ⟨v, _, S1, S3, rfl, fun _ => rfl, h1, r3⟩, fun b => by rw [es b]; have := l3 b; show S1 b + S3 b ≤ _; omega⟩
  | false :: fl, o :: vw, σ, S, ws, vs, h, e, k, hl => by
    have e' : takeP fl vw = some ws := by cases o <;> exact e
    cases vs with
    | nil => cases hl
    | cons u vs =>
      have tl : ∃ x σ' S2, σ = x :: σ' ∧ Rvw K H F vw σ' S2 ∧ ∀ b, S2 b ≤ S b := by
        cases o with
        | none => obtain ⟨x, σ', rfl, h⟩ := h; exact ⟨x, σ', S, rfl, h, fun _ => Nat.le_refl _⟩
        | some p => obtain ⟨v, σ', S1, S2, rfl, es, h1, h2⟩ := h; exact ⟨_, σ', S2, rfl, h2, fun b => by rw [es b]; omega⟩
      obtain ⟨x, σ', S2, rfl, h2, l2⟩ := tl
      obtain ⟨S3, r3, l3⟩ := takeP_ok (vs := vs) h2 e' (fun i hi => by simpa using k (i + 1) (by simpa using hi)) (by simpa using hl)
      exact ⟨S3, r3, fun b => Nat.le_trans (l3 b) (l2 b)⟩
theorem mkVw_ok : ∀ {ps : List PV} {vs : List V} {S : Fp} {m : Nat}, Rps K H F ps vs S → Rvw K H F (ps.map some ++ List.replicate m none) (vs.map some ++ List.replicate m none) S
  | [], _, _, m, h => by
    obtain ⟨rfl, z⟩ := h
    induction m with
    | zero => exact ⟨rfl, z⟩
    | succ m ih => exact ⟨none, List.replicate m none, rfl, ih⟩
  | p :: ps, _, _, m, h => by
    obtain ⟨v, vs', S1, S2, rfl, es, h1, h2⟩ := h
    exact ⟨v, _, S1, S2, rfl, es, h1, mkVw_ok h2⟩
end
theorem start_get {N : List Str} {vs : List V} {i : Nat} (h : i < vs.length) : (L2.start N vs)[i]? = some (some vs[i]) := by
  unfold L2.start
  rw [List.getElem?_append_left (by simpa using h)]
  simp [h]
/-- room for k calls, and no text of an object under way -/
structure Rg (k : Nat) (A : Around) : Prop where
  room : Room k A
  gd : A.guards = some []
theorem Rg.mono {j k : Nat} {A : Around} (r : Rg k A) (h : j ≤ k) : Rg j A := ⟨r.room.mono h, r.gd⟩
theorem Rg.make {k : Nat} {A : Around} (r : Rg (k + 1) A) (C : Addr) (us : List Value) (kw : List (Str × Value)) : Rg k (A.under (.builtin "type.__call__" ⟨.ref C :: us, kw⟩)) :=
  ⟨r.room.make C us kw, by rw [← r.gd]; first | rfl | simp [Around.under, Code.guards, Code.isGuard, guardIds, pushGuards]⟩
/-- a def's promise, wherever no text of itself is under way -/
structure FnG (P : Program) (w : World) (K : PySem.W.Frag) (mg : Str → Option Value) (base : Heap) (k : Nat) (f : Addr) (fd : FuncData) (ps : List Str) (sp : Sp) : Prop where
  len : ∀ vs H Q E, sp vs H Q E → vs.length = ps.length
  run : ∀ (A : Around) (outer : List Env) (s : Shared) (H : Hp) (args : Args) (us : List Value) (vs : List V) (Q : VK) (E : XK), Rg k A → Env0 P w K mg base A outer s H → BindsTo s fd args (ps.zip us) → Vals vs us → sp vs H Q E →
    codeAny (model P w) A (.call (.ref f) args) (CR (L2.CX P w) outer P w H s Q E) s
theorem FnG.mono {P : Program} {w : World} {K : PySem.W.Frag} {mg : Str → Option Value} {base : Heap} {j k : Nat} {f : Addr} {fd : FuncData} {ps : List Str} {sp : Sp} (F : FnG P w K mg base j f fd ps sp) (h : j ≤ k) : FnG P w K mg base k f fd ps sp :=
  ⟨F.len, fun A outer s H args us vs Q E hr => F.run A outer s H args us vs Q E (hr.mono h)⟩
theorem FnG.imp {P : Program} {w : World} {K : PySem.W.Frag} {mg : Str → Option Value} {base : Heap} {k : Nat} {f : Addr} {fd : FuncData} {ps : List Str} {sp sp' : Sp} (F : FnG P w K mg base k f fd ps sp) (h : ∀ vs H Q E, sp' vs H Q E → sp vs H Q E) : FnG P w K mg base k f fd ps sp' :=
  ⟨fun vs H Q E q => F.len vs H Q E (h _ _ _ _ q), fun A outer s H args us vs Q E hr e0 hb hv hs => F.run A outer s H args us vs Q E hr e0 hb hv (h _ _ _ _ hs)⟩
theorem FnG.of {P : Program} {w : World} {K : PySem.W.Frag} {mg : Str → Option Value} {base : Heap} {k : Nat} {f : Addr} {fd : FuncData} {ps : List Str} {sp : Sp} (F : FnOk P w K mg base (L2.CX P w) k f fd ps sp) : FnG P w K mg base k f fd ps sp :=
  ⟨F.len, fun A outer s H args us vs Q E hr => F.run A outer s H args us vs Q E hr.room⟩
/-- a def keeps the promise of its body; its code object is known -/
theorem okDc {P : Program} {w : World} {K : PySem.W.Frag} {mg : Str → Option Value} {base : Heap} {x qual : Str} {params : Arguments} {body : List Stmt} {scope : Scope} {dvs : List V} {kws : List (Str × V)} {f : Addr} {fd : FuncData} {N ps : List Str} {k : Nat} {fl : List Bool} {j : IS}
    (F : FunD K x qual params body scope dvs kws f fd) (S : FnScope N ps scope) (hl : fl.length = ps.length) (hn : ps.length ≤ N.length)
    (hb : ∀ (cdv : Value) (A : Around) (outer : List Env) (s : Shared) (H : Hp) (E : XK), (∃ oc od osl, K.lookup f = some ⟨oc, od, .func fd, osl⟩) → fd.code = cdv → PySem.W.codeIn K cdv qual = true → Rg k (A.deeper (envOfC qual scope s.heap.objs.size f cdv)) → SSs (cxOf (L2.CX P w) P w K mg base N qual scope f cdv A outer s H E) (fxP fl) body j) :
    FnG P w K mg base (k + 1) f fd ps (spI K fl (defOf fl N.length j)) := by
  obtain ⟨oc, od, dV, kV, doc, pm, an, cdv, ct, osl, rfl, lk, hcd, _, _⟩ := F.ex
  refine ⟨fun vs H Q E h => by rw [h.1, hl], fun A outer s H args us vs Q E hr e0 hbi r h => LamX.run_ofS lk hcd S hr.room e0 hbi r (by rw [h.1, hl]) fun hr' => ?_⟩
  refine ⟨_, hb cdv A outer s H E ⟨oc, od, osl, lk⟩ rfl hcd ⟨hr', hr.gd⟩ (fun cls d _ H => E cls d H) (takes_of rfl rfl rfl rfl), ?_⟩
  obtain ⟨hv, F1, qs, S1, rq, g, p⟩ := h
  have hq := rq.length
  refine ⟨F1, mkVw N.length qs, S1, ?_, g, ?_⟩
  · unfold mkVw L2.start
    rw [hq]
    exact mkVw_ok rq
  · have fixed : ∀ {σ' : St}, Fix (fxP fl) (L2.start N vs) σ' → ∀ i, fl.getD i false = true → ∃ v, vs[i]? = some v ∧ σ'[i]? = some (some v) := fun {σ'} fi i hi => by
      have hi2 : i < fl.length := by
        by_cases c : i < fl.length
        · exact c
        · rw [List.getD_eq_getElem?_getD, List.getElem?_eq_none (by omega)] at hi; cases hi
      have hi3 : i < vs.length := by omega
      exact ⟨vs[i], by simp [hi3], by rw [fi.2 i hi, start_get hi3]⟩
    have p' : PoD K (pick fl vs) Q E (defEnd fl (j (mkVw N.length qs))) H F1 S1 := p
    show PoS K (fxP fl) { nx := fun _ H' => Q .non H', rt := Q } (L2.start N vs) (fun cls d _ H => E cls d H) (j (mkVw N.length qs)) H F1 S1
    cases e : j (mkVw N.length qs) with
    | no => rw [e] at p'; exact p'
    | exc x vw' =>
      rw [e] at p'
      intro cls d σ' H' F' S2 a b c g' st
      unfold defEnd at p'
      simp only at p'
      cases et : takeP fl vw' with
      | none => rw [et] at p'; exact p'.elim
      | some ws =>
        rw [et] at p'
        obtain ⟨S3, r3, l3⟩ := takeP_ok b et (fixed c) hv.symm
        exact p' cls d H' F' S3 a r3 (g'.sub l3) (st.sub l3)
    | ok o vw' =>
      rw [e] at p'
      cases o with
      | bk => exact p'.elim
      | ct => exact p'.elim
      | nx =>
        intro σ' H' F' S2 b c g' st
        unfold defEnd at p'
        simp only at p'
        cases et : takeP fl vw' with
        | none => rw [et] at p'; exact p'.elim
        | some ws =>
          rw [et] at p'
          obtain ⟨S3, r3, l3⟩ := takeP_ok b et (fixed c) hv.symm
          exact p' .non H' F' f0 S3 ⟨rfl, fun _ => rfl⟩ r3 (gd_zero (g'.sub l3)) (by rw [fz_add]; exact st.sub l3)
      | rt q =>
        intro v σ' H' F' T1 T2 a b c g' st
        unfold defEnd at p'
        simp only at p'
        cases et : takeP fl vw' with
        | none => rw [et] at p'; exact p'.elim
        | some ws =>
          rw [et] at p'
          obtain ⟨S3, r3, l3⟩ := takeP_ok b et (fixed c) hv.symm
          have lt : ∀ b, fadd T1 S3 b ≤ fadd T1 T2 b := fun b => Nat.add_le_add_left (l3 b) _
          exact p' v H' F' T1 S3 a r3 (g'.sub lt) (st.sub lt)
/-- a def keeps the promise of its body -/
theorem okD {P : Program} {w : World} {K : PySem.W.Frag} {mg : Str → Option Value} {base : Heap} {x qual : Str} {params : Arguments} {body : List Stmt} {scope : Scope} {dvs : List V} {kws : List (Str × V)} {f : Addr} {fd : FuncData} {N ps : List Str} {k : Nat} {fl : List Bool} {j : IS}
    (F : FunD K x qual params body scope dvs kws f fd) (S : FnScope N ps scope) (hl : fl.length = ps.length) (hn : ps.length ≤ N.length)
    (hb : ∀ (cdv : Value) (A : Around) (outer : List Env) (s : Shared) (H : Hp) (E : XK), Rg k (A.deeper (envOfC qual scope s.heap.objs.size f cdv)) → SSs (cxOf (L2.CX P w) P w K mg base N qual scope f cdv A outer s H E) (fxP fl) body j) :
    FnG P w K mg base (k + 1) f fd ps (spI K fl (defOf fl N.length j)) :=
  okDc F S hl hn fun cdv A outer s H E _ _ _ => hb cdv A outer s H E
end Bx
set_option Elab.async false
set_option linter.all false
set_option maxRecDepth 100000
set_option maxHeartbeats 4000000
/-! L4b: calls. -/
namespace Bx
open PySem PySem.Spec PyProof.Rows L2
variable [Tbs]
/-- the arguments are handed over: what a name owns goes with them where the def is lent it -/
def mvArgs : List Bool → List Od → Vw → Option (List PV × List (Option Nat) × Vw)
  | [], [], vw => some ([], [], vw)
  | true :: fl, .val p :: os, vw => (mvArgs fl os vw).map fun r => (p :: r.1, none :: r.2.1, r.2.2)
  | false :: fl, .val p :: os, vw => (mvArgs fl os vw).map fun r => (p :: r.1, r.2.1, r.2.2)
  | true :: fl, .bor n :: os, vw => match vw[n]? with
    | some (some p) => (mvArgs fl os (vw.set n none)).map fun r => (p :: r.1, some n :: r.2.1, r.2.2)
    | _ => none
  | _, _, _ => none
/-- what was lent comes back -/
def wb : List (Option Nat) → List PV → Vw → Option Vw
  | [], [], vw => some vw
  | some n :: ns, w :: ws, vw => match vw[n]? with
    | some none => wb ns ws (vw.set n (some w))
    | _ => none
  | none :: ns, _ :: ws, vw => wb ns ws vw
  | _, _, _ => none
def NsOk (σ : St) : List (Option Nat) → List V → Prop
  | [], vs => vs = []
  | some n :: ns, v :: vs => σ[n]? = some (some v) ∧ NsOk σ ns vs
  | none :: ns, _ :: vs => NsOk σ ns vs
  | _, _ => False
section
variable {K : PySem.W.Frag} {H : Hp} {F : Fz} {σ : St}
theorem mv_ok : ∀ {fl : List Bool} {os : List Od} {vw vw1 : Vw} {vs : List V} {S1 S2 : Fp} {ps : List PV} {ns : List (Option Nat)}, Ros K H F σ os vs S1 → Rvw K H F vw σ S2 → mvArgs fl os vw = some (ps, ns, vw1) →
    ∃ Sp Sr, Rps K H F ps vs Sp ∧ Rvw K H F vw1 σ Sr ∧ (∀ b, Sp b + Sr b = S1 b + S2 b) ∧ NsOk σ ns (pick fl vs) ∧ vs.length = fl.length
  | [], [], vw, vw1, vs, S1, S2, ps, ns, h, hv, e => by
    cases e
    obtain ⟨rfl, z⟩ := h
    exact ⟨f0, S2, ⟨rfl, fun _ => rfl⟩, hv, fun b => by rw [z b]; rfl, rfl, rfl⟩
  | [], o :: os, vw, vw1, vs, S1, S2, ps, ns, h, hv, e => by cases e
  | b :: fl, [], vw, vw1, vs, S1, S2, ps, ns, h, hv, e => by cases b <;> cases e
  | true :: fl, .val p :: os, vw, vw1, vs, S1, S2, ps, ns, h, hv, e => by
    obtain ⟨r, e1, e2⟩ := Option.map_eq_some_iff.mp e
    obtain ⟨v, vs', T1, T2, rfl, es, h1, h2⟩ := h
    cases e2
    obtain ⟨Sp, Sr, g1, g2, g3, g4, g5⟩ := mv_ok h2 hv e1
    exact ⟨fadd T1 Sp, Sr, ⟨v, vs', T1, Sp, rfl, fun _ => rfl, h1, g1⟩, g2, fun b => by have := g3 b; have := es b; show T1 b + Sp b + Sr b = _; omega, g4, by simp [g5]⟩
  | false :: fl, .val p :: os, vw, vw1, vs, S1, S2, ps, ns, h, hv, e => by
    obtain ⟨r, e1, e2⟩ := Option.map_eq_some_iff.mp e
    obtain ⟨v, vs', T1, T2, rfl, es, h1, h2⟩ := h
    cases e2
    obtain ⟨Sp, Sr, g1, g2, g3, g4, g5⟩ := mv_ok h2 hv e1
    exact ⟨fadd T1 Sp, Sr, ⟨v, vs', T1, Sp, rfl, fun _ => rfl, h1, g1⟩, g2, fun b => by have := g3 b; have := es b; show T1 b + Sp b + Sr b = _; omega, g4, by simp [g5]⟩
  | false :: fl, .bor n :: os, vw, vw1, vs, S1, S2, ps, ns, h, hv, e => by cases e
  | true :: fl, .bor n :: os, vw, vw1, vs, S1, S2, ps, ns, h, hv, e => by
    rw [mvArgs] at e
    split at e
    · rename_i p en
      obtain ⟨r, e1, e2⟩ := Option.map_eq_some_iff.mp e
      obtain ⟨v, vs', rfl, hσ, h2⟩ := h
      cases e2
      obtain ⟨v', T1, T2, hσ', es, r1, hv'⟩ := hv.focus en
      rw [hσ] at hσ'
      cases hσ'
      obtain ⟨Sp, Sr, g1, g2, g3, g4, g5⟩ := mv_ok h2 hv' e1
      exact ⟨fadd T1 Sp, Sr, ⟨v, vs', T1, Sp, rfl, fun _ => rfl, r1, g1⟩, g2, fun b => by have := g3 b; have := es b; show T1 b + Sp b + Sr b = _; omega, ⟨hσ, g4⟩, by simp [g5]⟩
    · cases e
theorem wb_ok : ∀ {ns : List (Option Nat)} {ws : List PV} {vw vw2 : Vw} {vs : List V} {S1 S2 : Fp}, Rps K H F ws vs S1 → Rvw K H F vw σ S2 → NsOk σ ns vs → wb ns ws vw = some vw2 → ∃ S3, Rvw K H F vw2 σ S3 ∧ ∀ b, S3 b ≤ S1 b + S2 b
  | [], [], vw, vw2, vs, S1, S2, h, hv, hn, e => by cases e; exact ⟨S2, hv, fun b => by omega⟩
  | [], _ :: _, vw, vw2, vs, S1, S2, h, hv, hn, e => by cases e
  | o :: ns, [], vw, vw2, vs, S1, S2, h, hv, hn, e => by cases o <;> cases e
  | none :: ns, w :: ws, vw, vw2, vs, S1, S2, h, hv, hn, e => by
    obtain ⟨v, vs', T1, T2, rfl, es, h1, h2⟩ := h
    obtain ⟨S3, g1, g2⟩ := wb_ok h2 hv hn (show wb ns ws vw = some vw2 from e)
    exact ⟨S3, g1, fun b => by have := g2 b; have := es b; omega⟩
  | some n :: ns, w :: ws, vw, vw2, vs, S1, S2, h, hv, hn, e => by
    obtain ⟨v, vs', T1, T2, rfl, es, h1, h2⟩ := h
    rw [wb] at e
    split at e
    · rename_i en
      obtain ⟨S3, g1, g2⟩ := wb_ok h2 (hv.put en hn.1 h1) hn.2 e
      exact ⟨S3, g1, fun b => by have := g2 b; have := es b; have : S3 b ≤ T2 b + (T1 b + S2 b) := g2 b; omega⟩
    · cases e
end
/-- what follows the arguments -/
def callFin (D : DF) (fl : List Bool) (ods : List Od) (vw : Vw) : R PV := match mvArgs fl ods vw with
  | none => .no
  | some (ps, ns, vw1) => match D ps with
    | .no => .no
    | .ret p ws => match wb ns ws vw1 with
      | some vw2 => .ok p vw2
      | none => .no
    | .exc x ws => match wb ns ws vw1 with
      | some vw2 => .exc x vw2
      | none => .no
/-- the callee runs beside what stays here -/
theorem call_fin {K : PySem.W.Frag} {H : Hp} {F : Fz} {σ : St} {W : WX} {Q : VK} {D : DF} {fl : List Bool} {ods : List Od} {vw : Vw} {vs : List V} {S1 S2 : Fp} (a : Ros K H F σ ods vs S1) (b : Rvw K H F vw σ S2) (c : Gd H F (fadd S1 S2))
    (q : Po (rlE K) K σ W Q (callFin D fl ods vw) H F (fadd S1 S2)) : spI K fl D vs H Q (WE W σ) := by
  unfold callFin at q
  cases e1 : mvArgs fl ods vw with
  | none => rw [e1] at q; exact q.elim
  | some t =>
    obtain ⟨ps, ns, vw1⟩ := t
    rw [e1] at q
    simp only at q
    obtain ⟨Sp, Sr, rp, rv, es, hn, hl⟩ := mv_ok a b e1
    have eS : fadd Sr Sp = fadd S1 S2 := funext fun x => by have := es x; show Sr x + Sp x = S1 x + S2 x; omega
    rw [← eS] at c q
    refine ⟨hl, F, ps, Sp, rp, c.sub fun _ => Nat.le_add_left _ _, ?_⟩
    cases e2 : D ps with
    | no => rw [e2] at q; exact q.elim
    | ret p ws =>
      rw [e2] at q
      simp only at q
      cases e3 : wb ns ws vw1 with
      | none => rw [e3] at q; exact q.elim
      | some vw2 =>
        rw [e3] at q
        intro v H' F' T1 T2 r1 r2 g st
        obtain ⟨S3, v3, l3⟩ := wb_ok r2 (rv.keep (Kp.of c st)) hn e3
        have g' := c.frame st g
        have lt : ∀ x, fadd T1 S3 x ≤ fadd Sr (fadd T1 T2) x := fun x => by have := l3 x; show T1 x + S3 x ≤ Sr x + (T1 x + T2 x); omega
        exact q v H' F' T1 S3 r1 v3 (g'.sub lt) (st.frame.sub lt)
    | exc x ws =>
      rw [e2] at q
      simp only at q
      cases e3 : wb ns ws vw1 with
      | none => rw [e3] at q; exact q.elim
      | some vw2 =>
        rw [e3] at q
        intro cls d H' F' T2 r1 r2 g st
        obtain ⟨S3, v3, l3⟩ := wb_ok r2 (rv.keep (Kp.of c st)) hn e3
        have g' := c.frame st g
        have lt : ∀ x, S3 x ≤ fadd Sr T2 x := fun x => by have := l3 x; show S3 x ≤ Sr x + T2 x; omega
        exact q cls d H' F' S3 r1 v3 (g'.sub lt) (st.frame.sub lt)
def iCall (D : DF) (fl : List Bool) (os : List Opd) : IE := fun vw => (evO os vw).bind (callFin D fl)
theorem icall_ok {K : PySem.W.Frag} {σ : St} {W : WX} {H : Hp} {Q : VK} {D : DF} {fl : List Bool} {os : List Opd} (h : tE K (iCall D fl os) W σ H Q) : tOs K os W σ H fun vs H1 => spI K fl D vs H1 Q (WE W σ) := by
  obtain ⟨F, vw, S, hv, g, h⟩ := h
  refine runO (T := f0) (oblX (rlE K) K σ W Q) hv (gd_zero g) (by rw [fz_add]; exact h) fun ods vw' vs H' F' S1 S2 a b c _ q => ?_
  rw [fz_add] at c q
  exact call_fin a b c q
section
variable {X : Cx} {k : Nat} {f C : Addr} {fd : FuncData} {ps : List Str} {fl : List Bool} {D : DF} {x m : Str} {p pos apos : Pos} {e o : Expr} {es : List Expr} {os : List Opd}
/-! ### methods -/
theorem run_m {pins : List (Addr × Obj)} {σ : St} {H : Hp} {s : Shared} {Q : VK} {us : List Value} {vs : List V} {sp : Sp} {W : WX} (Fn : FnG X.prog X.w X.K X.mg X.base k f fd ps sp) (hr : Rg k X.A) (hb : Binds X.K fd ps []) (tk : Takes X W) (I : Inv X pins σ H s) (r : Vals vs us) (h : sp vs H Q (WE W σ)) :
    wpAny (model X.prog X.w) X.A (call (.ref f) us) (EP X pins σ Q) X.xe s := by
  have hl : us.length = ps.length := (r.length).symm.trans (Fn.len _ _ _ _ h)
  have bd := hb s us I.kIn (by rw [List.append_nil]; exact hl)
  rw [List.append_nil] at bd
  refine wpAny_call (codeAny_mono (Fn.run X.A X.stack s H ⟨us, []⟩ us vs Q (WE W σ) hr I.env0 bd r h) fun res s' hq => ?_)
  match res, hq with
  | .error er, hq => exact passAt tk σ pins H s er s' I hq
  | .ok (.ret u), hq => exact I.after hq
  | .ok .next, hq => exact False.elim hq
  | .ok .brk, hq => exact False.elim hq
  | .ok .cont, hq => exact False.elim hq
theorem se_call (Fn : FnG X.prog X.w X.K X.mg X.base k f fd ps (spI X.K fl D)) (hr : Rg k X.A) (hm : X.mg x = some (.ref f)) (hk : PySem.W.keepIn X.K (.ref f) = true) (hb : Binds X.K fd ps []) (ha : SOs X (e :: es) os) (hg : Gl X x := by rfl)
    (hdb : (x == ("__debug__" : Str)) = false := by decide) (he : starEach (e :: es) X.env = (false, eval e X.env) :: starEach es X.env := by rfl) (hpl : (backTo pos (starEach es X.env)).any (·.1) = false := by rfl) :
    SE X (.Call (.Name x p) (e :: es) [] pos) (iCall D fl os) := fun W tk => by
  have : PE X (.Call (.Name x p) (e :: es) [] pos) (fun σ H Q => tOs X.K os W σ H fun vs H1 => spI X.K fl D vs H1 Q (WE W σ)) := ⟨fun pins s σ H Q I h => wpAny_Call_Name_kw (ld_glob I hg hm
    (PySem.W.callWith_K (h₀ := X.base) I.ok.mod.kin hk (thn ((ha W tk).run pos pins s σ H _ I h) fun us s1 ⟨vs, H1, I1, r, q⟩ => ⟨I1.kIn, run_m Fn hr hb tk I1 r q⟩) he hpl) hdb)⟩
  exact this.imp fun σ H Q q => icall_ok q
def tMethX (K : PySem.W.Frag) (C : Addr) (m : Str) (sp : Sp) (W : WX) (ta : TE) (t : TA) : TE := fun σ H Q => ta σ H fun x H1 => ∃ a dx fs, x = .ref a ∧ H1 a = some (.ins C dx fs) ∧ fs.lookup m = none ∧ t σ H1 fun vs H2 => sp (x :: vs) H2 Q (WE W σ)
theorem pe_methX {pl : Sem Bool} {ta : TE} {t : TA} {sp : Sp} {W : WX} (tk : Takes X W) (he : PE X o ta) (c : Cls X.K C) (hm : Meth X.K C m f) (Fn : FnG X.prog X.w X.K X.mg X.base k f fd ps sp) (hr : Rg k X.A) (hb : Binds X.K fd ps []) (ha : PA X (e :: es) t)
    (hst : starEach (e :: es) X.env = (false, eval e X.env) :: starEach es X.env) (hpl : (backTo pos (starEach es X.env)).any (·.1) = false)
    (ht : eval (.Call (.Attribute o m apos) (e :: es) [] pos) X.env = (do
      let ov ← eval o X.env
      standAt apos.atName
      let (f, first) ← holding [ov] (getMethod ov m pl)
      callWith pos f first (backTo pos (starEach (e :: es) X.env)) (backToKw pos (keywordEach [] X.env)))) : PE X (.Call (.Attribute o m apos) (e :: es) [] pos) (tMethX X.K C m sp W ta t) := by
  refine ⟨fun pins s σ H Q I h => PySem.W.methodCall_KW (pl := pl) (thn (he.run pins s σ H _ I h) fun u s1 ⟨y, H1, I1, ry, a, dx, fs, ey, ea, l, q⟩ => ?_) ht⟩
  subst ey
  obtain rfl : u = Value.ref a := ry
  refine getmeth_ok I1 ea c hm l (PySem.W.callWith_K (first := [.ref a]) (h₀ := X.base) I.ok.mod.kin hm.kp (thn (ha.run pos pins s1 σ H1 _ I1 q) fun us s2 ⟨vs, H2, I2, r, q2⟩ => ⟨I2.kIn, ?_⟩) hst hpl)
  exact run_m (us := .ref a :: us) (vs := .ref a :: vs) Fn hr hb tk I2 (.cons rfl r) q2
theorem pe_methX0 {pl : Sem Bool} {ta : TE} {sp : Sp} {W : WX} (tk : Takes X W) (he : PE X o ta) (c : Cls X.K C) (hm : Meth X.K C m f) (Fn : FnG X.prog X.w X.K X.mg X.base k f fd ps sp) (hr : Rg k X.A) (hb : Binds X.K fd ps [])
    (ht : eval (.Call (.Attribute o m apos) [] [] pos) X.env = (do
      let ov ← eval o X.env
      standAt apos.atName
      let (f, first) ← holding [ov] (getMethod ov m pl)
      callWith pos f first (backTo pos (starEach [] X.env)) (backToKw pos (keywordEach [] X.env)))) : PE X (.Call (.Attribute o m apos) [] [] pos) (tMethX X.K C m sp W ta tNil) := by
  refine ⟨fun pins s σ H Q I h => PySem.W.methodCall_KW (pl := pl) (thn (he.run pins s σ H _ I h) fun u s1 ⟨y, H1, I1, ry, a, dx, fs, ey, ea, l, q⟩ => ?_) ht⟩
  subst ey
  obtain rfl : u = Value.ref a := ry
  exact getmeth_ok I1 ea c hm l (PySem.W.callWith_K0 (first := [.ref a]) I1.kIn hm.kp (run_m (us := [.ref a]) (vs := [.ref a]) Fn hr hb tk I1 (.cons rfl .nil) q))
theorem lookup_no {m : Str} : ∀ {ns : List Str} {as : List V}, m ∉ ns → (ns.zip as).lookup m = none
  | [], _, _ => rfl
  | _ :: _, [], _ => rfl
  | n :: ns, v :: as, h => by
    have e : (m == n) = false := by
      rw [beq_eq_false_iff_ne]
      exact fun z => h (by rw [z]; exact List.mem_cons_self)
    rw [List.zip_cons_cons, List.lookup_cons, e]
    exact lookup_no fun z => h (List.mem_cons_of_mem _ z)
/-- o is an instance of C without the attribute m of its own -/
def isIns (C : Addr) (m : Str) : PV → Bool
  | .nd (.ins D ns) _ _ => decide (D = C) && decide (m ∉ ns)
  | _ => false
theorem isIns_ok {K : PySem.W.Frag} {H : Hp} {F : Fz} {q : PV} {v : V} {S : Fp} (r : Rp K H F q v S) (e : isIns C m q = true) : ∃ a dx fs, v = .ref a ∧ H a = some (.ins C dx fs) ∧ fs.lookup m = none := by
  cases q with
  | nd kd o xs =>
    cases kd with
    | ins D ns =>
      obtain ⟨e1, e2⟩ := Bool.and_eq_true_iff.mp (show (decide (D = C) && decide (m ∉ ns)) = true from e)
      have e1 := of_decide_eq_true e1
      have e2 := of_decide_eq_true e2
      subst e1
      obtain ⟨a, as, Sa, rfl, ⟨hl, dx, ha⟩, _, _⟩ := r
      exact ⟨a, dx, _, rfl, ha, lookup_no e2⟩
    | _ => cases e
  | _ => cases e
def iMeth (C : Addr) (m : Str) (D : DF) (fl : List Bool) (o : Opd) (os : List Opd) : IE := fun vw => match o with
  | .v n => match vw[n]? with
    | some (some p0) => if isIns C m p0 = true then (evO os vw).bind fun ods vw' => callFin D fl (.bor n :: ods) vw' else .no
    | _ => .no
  | .e i => (i vw).bind fun p vw1 => if isIns C m p = true then (evO os vw1).bind fun ods vw' => callFin D fl (.val p :: ods) vw' else .no
theorem imeth_ok {K : PySem.W.Frag} {W : WX} {σ : St} {H : Hp} {Q : VK} {o : Opd} {os : List Opd} (h : tE K (iMeth C m D fl o os) W σ H Q) : tMethX K C m (spI K fl D) W (tO K o W) (tOs K os W) σ H Q := by
  obtain ⟨F, vw, S, hv, g, h⟩ := h
  cases o with
  | v n =>
    unfold iMeth at h
    simp only at h
    cases e : vw[n]? with
    | none => rw [e] at h; exact h.elim
    | some y =>
      cases y with
      | none => rw [e] at h; exact h.elim
      | some p0 =>
        rw [e] at h
        simp only at h
        cases ec : isIns C m p0 with
        | false => rw [ec, if_neg Bool.false_ne_true] at h; exact h.elim
        | true =>
          rw [ec, if_pos rfl] at h
          obtain ⟨v, S1, S2, hσ, _, r1, _⟩ := hv.focus e
          obtain ⟨a, dx, fs, rfl, ha, hf⟩ := isIns_ok r1 ec
          refine ⟨.ref a, hσ, a, dx, fs, rfl, ha, hf, ?_⟩
          refine runO (T := f0) (oblX (rlE K) K σ W Q) hv (gd_zero g) (by rw [fz_add]; exact h) fun ods vw' vs H' F' S1 S2 a1 b c _ q => ?_
          rw [fz_add] at c q
          exact call_fin (ods := .bor n :: ods) (S1 := S1) ⟨.ref a, vs, rfl, hσ, a1⟩ b c q
  | e i =>
    refine run (T := f0) (rlE K) (oblX (rlE K) K σ W Q) hv (gd_zero g) (by rw [fz_add]; exact h) fun p vw1 v H1 F1 T1 T2 a b c _ q => ?_
    rw [fz_add] at c q
    have q2 : Po (rlE K) K σ W Q (if isIns C m p = true then (evO os vw1).bind fun ods vw' => callFin D fl (.val p :: ods) vw' else .no) H1 F1 (fadd T1 T2) := q
    cases ec : isIns C m p with
    | false => rw [ec, if_neg Bool.false_ne_true] at q2; exact q2.elim
    | true =>
      rw [ec, if_pos rfl] at q2
      obtain ⟨d, dx, fs, rfl, ha, hf⟩ := isIns_ok a ec
      refine ⟨d, dx, fs, rfl, ha, hf, ?_⟩
      refine runO (T := T1) (oblX (rlE K) K σ W Q) b c q2 fun ods vw' vs H' F' S1 S2 a2 b2 c2 d2 q2 => ?_
      rw [← fadd_assoc] at c2 q2
      exact call_fin (ods := .val p :: ods) (S1 := fadd T1 S1) ⟨_, vs, T1, S1, rfl, fun _ => rfl, Rp.keep a d2, a2⟩ b2 c2 q2
theorem se_meth {pl : Sem Bool} {oo : Opd} (Fn : FnG X.prog X.w X.K X.mg X.base k f fd ps (spI X.K fl D)) (hr : Rg k X.A) (c : Cls X.K C) (hm : Meth X.K C m f) (hb : Binds X.K fd ps []) (ho : SO X o oo) (ha : SOs X (e :: es) os)
    (hst : starEach (e :: es) X.env = (false, eval e X.env) :: starEach es X.env := by rfl) (hpl : (backTo pos (starEach es X.env)).any (·.1) = false := by rfl)
    (ht : eval (.Call (.Attribute o m apos) (e :: es) [] pos) X.env = (do
      let ov ← eval o X.env
      standAt apos.atName
      let (f, first) ← holding [ov] (getMethod ov m pl)
      callWith pos f first (backTo pos (starEach (e :: es) X.env)) (backToKw pos (keywordEach [] X.env))) := by rfl) : SE X (.Call (.Attribute o m apos) (e :: es) [] pos) (iMeth C m D fl oo os) := fun W tk =>
  (pe_methX tk (ho W tk) c hm Fn hr hb (ha W tk) hst hpl ht).imp fun σ H Q q => imeth_ok q
theorem se_meth0 {pl : Sem Bool} {oo : Opd} (Fn : FnG X.prog X.w X.K X.mg X.base k f fd ps (spI X.K fl D)) (hr : Rg k X.A) (c : Cls X.K C) (hm : Meth X.K C m f) (hb : Binds X.K fd ps []) (ho : SO X o oo)
    (ht : eval (.Call (.Attribute o m apos) [] [] pos) X.env = (do
      let ov ← eval o X.env
      standAt apos.atName
      let (f, first) ← holding [ov] (getMethod ov m pl)
      callWith pos f first (backTo pos (starEach [] X.env)) (backToKw pos (keywordEach [] X.env))) := by rfl) : SE X (.Call (.Attribute o m apos) [] [] pos) (iMeth C m D fl oo []) := fun W tk =>
  (pe_methX0 tk (ho W tk) c hm Fn hr hb ht).imp fun σ H Q q => imeth_ok (os := []) q
/-! ### new instances -/
def mkD (C : Addr) (D : DF) : DF := fun ps => match D (.nd (.ins C []) true [] :: ps) with
  | .ret .non (w :: ws) => .ret w ws
  | .exc x (_ :: ws) => .exc x ws
  | _ => .no
theorem mk_ok {K : PySem.W.Frag} {H : Hp} {Q : VK} {E : XK} {vs : List V} (h : spI K fl (mkD C D) vs H Q E) (y dx : Addr) (h1 : H y = none) (h2 : H dx = none) (hn : dx ≠ y) :
    spI K (true :: fl) D (.ref y :: vs) (upd (upd H dx (.own y)) y (.ins C dx [])) (fun v H2 => v = .non ∧ Q (.ref y) H2) E := by
  obtain ⟨hl, F, ps, S, rp, g, p⟩ := h
  have hy : upd H dx (.own y) y = none := by rw [upd_ne hn.symm]; exact h1
  have sm : Same H (upd H dx (.own y)) := same_upd h2
  have g1 : Gd (upd H dx (.own y)) F S := by have := new_gd (S1 := f0) (o := .own y) h2 (gd_zero g); rw [fz_add] at this; exact this
  have g2 : Gd (upd (upd H dx (.own y)) y (.ins C dx [])) F (fadd (one y) S) := by
    have := new_gd1 (S1 := f0) (o := .ins C dx []) hy True.intro (gd_zero g1)
    rw [fadd_zero] at this
    exact this
  have r2 : Rps K (upd (upd H dx (.own y)) y (.ins C dx [])) F ps vs S := (rp.keep (same_kp sm)).keep (kp_upd hy)
  have st : Step H F S (upd (upd H dx (.own y)) y (.ins C dx [])) F (fadd (one y) S) := (new_step (S' := S) h2 fun a z => .inl z).trans (new_step hy fun a z => by
    by_cases e : a = y
    · exact .inr e
    · have z' : 0 < one y a + S a := z
      rw [one_ne e] at z'
      exact .inl (by omega))
  refine ⟨by simp [hl], F, .nd (.ins C []) true [] :: ps, fadd (one y) S, ⟨.ref y, vs, one y, S, rfl, fun _ => rfl, ⟨y, [], f0, rfl, ⟨rfl, dx, upd_same⟩, Rps.nil, fun b => rfl⟩, r2⟩, g2, ?_⟩
  have p' : PoD K (pick fl vs) Q E (match D (.nd (.ins C []) true [] :: ps) with
    | .ret .non (w :: ws) => .ret w ws
    | .exc x (_ :: ws) => .exc x ws
    | _ => .no) H F S := p
  show PoD K (.ref y :: pick fl vs) _ E (D (.nd (.ins C []) true [] :: ps)) _ F _
  cases e : D (.nd (.ins C []) true [] :: ps) with
  | no => rw [e] at p'; exact p'
  | ret q ws =>
    rw [e] at p'
    cases q with
    | non =>
      cases ws with
      | nil => exact p'.elim
      | cons w ws =>
        intro v H' F' S1 S2 a b c d
        obtain ⟨rfl, z⟩ := a
        obtain ⟨u, us, T1, T2, e2, es, r3, r4⟩ := b
        cases e2
        rw [f0_eq z, fz_add] at c d
        have eS : S2 = fadd T1 T2 := funext es
        rw [eS] at c d
        exact ⟨rfl, p' (.ref y) H' F' T1 T2 r3 r4 c (st.trans d)⟩
    | _ => exact p'.elim
  | exc x ws =>
    rw [e] at p'
    cases ws with
    | nil => exact p'.elim
    | cons w ws =>
      intro cls d H' F' S2 a b c d'
      obtain ⟨u, us, T1, T2, e2, es, r3, r4⟩ := b
      cases e2
      have lt : ∀ b, T2 b ≤ S2 b := fun b => by rw [es b]; omega
      exact p' cls d H' F' T2 a r4 (c.sub lt) (st.trans (d'.sub lt))
theorem run_mk {pins : List (Addr × Obj)} {σ : St} {H : Hp} {s : Shared} {Q : VK} {us : List Value} {vs : List V} {W : WX} (M : Mk X.K C f) (Fn : FnG X.prog X.w X.K X.mg X.base k f fd ps (spI X.K (true :: fl) D)) (hr : Rg (k + 1) X.A) (hb : Binds X.K fd ps []) (tk : Takes X W)
    (I : Inv X pins σ H s) (r : Vals vs us) (h : spI X.K fl (mkD C D) vs H Q (WE W σ)) : wpAny (model X.prog X.w) X.A (call (.ref C) us) (EP X pins σ Q) X.xe s := by
  have hq := mk_ok h (s.heap.objs.size + 1) s.heap.objs.size (I.hok.fresh (Nat.le_succ _)) (I.hok.fresh (Nat.le_refl _)) (Nat.ne_of_lt (Nat.lt_succ_self _))
  have J := Inv.made (C := C) I
  have rr : Vals (V.ref (s.heap.objs.size + 1) :: vs) (Value.ref (s.heap.objs.size + 1) :: us) := .cons rfl r
  have hl : (Value.ref (s.heap.objs.size + 1) :: us).length = ps.length := (rr.length).symm.trans (Fn.len _ _ _ _ hq)
  have hbb := hb _ (Value.ref (s.heap.objs.size + 1) :: us) J.kIn (by rw [List.append_nil]; exact hl)
  rw [List.append_nil] at hbb
  refine wpAny_call (make_map (f := f) I.kIn M.makes M.init (beq_iff_eq.mp M.fn) (codeAny_mono (Fn.run _ X.stack _ _ ⟨_, []⟩ _ _ _ (WE W σ) (hr.make C us []) (J.env0.make C us []) hbb rr hq) fun res s' hq' => ?_))
  match res, hq' with
  | .error er, hq' => exact passAt tk σ pins _ _ er s' J hq'
  | .ok (.ret u), hq' =>
    obtain ⟨v, H', I3, rv, ev, q3⟩ := J.after hq'
    subst ev
    exact ⟨rv, ⟨V.ref (s.heap.objs.size + 1), H', I3, rfl, q3⟩⟩
  | .ok .next, hq' => exact False.elim hq'
  | .ok .brk, hq' => exact False.elim hq'
  | .ok .cont, hq' => exact False.elim hq'
theorem se_make (M : Mk X.K C f) (Fn : FnG X.prog X.w X.K X.mg X.base k f fd ps (spI X.K (true :: fl) D)) (hr : Rg (k + 1) X.A) (hm : X.mg x = some (.ref C)) (hb : Binds X.K fd ps []) (ha : SOs X (e :: es) os) (hg : Gl X x := by rfl)
    (hdb : (x == ("__debug__" : Str)) = false := by decide) (he : starEach (e :: es) X.env = (false, eval e X.env) :: starEach es X.env := by rfl) (hpl : (backTo pos (starEach es X.env)).any (·.1) = false := by rfl) :
    SE X (.Call (.Name x p) (e :: es) [] pos) (iCall (mkD C D) fl os) := fun W tk => by
  have : PE X (.Call (.Name x p) (e :: es) [] pos) (fun σ H Q => tOs X.K os W σ H fun vs H1 => spI X.K fl (mkD C D) vs H1 Q (WE W σ)) := ⟨fun pins s σ H Q I h => wpAny_Call_Name_kw (ld_glob I hg hm
    (PySem.W.callWith_K (h₀ := X.base) I.ok.mod.kin M.kp (thn ((ha W tk).run pos pins s σ H _ I h) fun us s1 ⟨vs, H1, I1, r, q⟩ => ⟨I1.kIn, run_mk M Fn hr hb tk I1 r q⟩) he hpl) hdb)⟩
  exact this.imp fun σ H Q q => icall_ok q
theorem se_make0 (M : Mk X.K C f) (Fn : FnG X.prog X.w X.K X.mg X.base k f fd ps (spI X.K (true :: fl) D)) (hr : Rg (k + 1) X.A) (hm : X.mg x = some (.ref C)) (hb : Binds X.K fd ps []) (hg : Gl X x := by rfl)
    (hdb : (x == ("__debug__" : Str)) = false := by decide) : SE X (.Call (.Name x p) [] [] pos) (iCall (mkD C D) fl []) := fun W tk => by
  have : PE X (.Call (.Name x p) [] [] pos) (fun σ H Q => spI X.K fl (mkD C D) [] H Q (WE W σ)) := ⟨fun pins s σ H Q I h => wpAny_Call_Name_kw (ld_glob I hg hm (PySem.W.callWith_K0 I.kIn M.kp (run_mk (us := []) M Fn hr hb tk I .nil h)) hdb)⟩
  exact this.imp fun σ H Q q => icall_ok (os := []) q
theorem se_call0 (Fn : FnG X.prog X.w X.K X.mg X.base k f fd ps (spI X.K fl D)) (hr : Rg k X.A) (hm : X.mg x = some (.ref f)) (hk : PySem.W.keepIn X.K (.ref f) = true) (hb : Binds X.K fd ps []) (hg : Gl X x := by rfl)
    (hdb : (x == ("__debug__" : Str)) = false := by decide) : SE X (.Call (.Name x p) [] [] pos) (iCall D fl []) := fun W tk => by
  have : PE X (.Call (.Name x p) [] [] pos) (fun σ H Q => spI X.K fl D [] H Q (WE W σ)) := ⟨fun pins s σ H Q I h => wpAny_Call_Name_kw (ld_glob I hg hm (PySem.W.callWith_K0 I.kIn hk (run_m (us := []) Fn hr hb tk I .nil h)) hdb)⟩
  exact this.imp fun σ H Q q => icall_ok (os := []) q
end
end Bx
set_option Elab.async false
set_option linter.all false
set_option maxRecDepth 100000
set_option maxHeartbeats 4000000
/-! L4c: repr. -/
namespace Bx
open PySem PySem.Spec PyProof.Rows L2
variable [Tbs]
def rRepr (K : PySem.W.Frag) : List V → Hp → VK → Prop := fun xs H Q => ∃ x d, xs = [x] ∧ Dp K H x d ∧ d.showable = true ∧ d.hasDict = false ∧ d.depth ≤ 64 ∧ d.shown.length ≤ sizeLine ∧ Q (.str d.shown) H
theorem cr_repr {X : Cx} (hu : X.A.units + 70 < cLine) (hgd : X.A.guards = some []) : CallR X (.builtin "repr") (rRepr X.K) := by
  intro pins s σ H xs us Q I r h
  obtain ⟨x, d, rfl, hd, h1, h2, h3, h4, q⟩ := h
  obtain ⟨u, rfl, ru⟩ := Vals.one r
  obtain ⟨as, rd⟩ := Dp.reads I d x u hd ru
  have noD : d.hasDict = true → sysModules ∉ as := fun e => by rw [h2] at e; cases e
  cases rd with
  | none => exact PySem.P.repr_of_none ⟨.str _, H, I.tok _, ⟨_, rfl⟩, q⟩
  | bool b => exact PySem.P.repr_of_bool ⟨.str _, H, I.tok _, ⟨_, rfl⟩, by cases b <;> exact q⟩
  | int i t => exact PySem.P.repr_of_int (by simpa [PyData.showable] using h1) ⟨.str _, H, I.tok _, ⟨_, rfl⟩, q⟩
  | str y t => exact PySem.P.repr_of_str ⟨.str _, H, I.tok _, ⟨_, rfl⟩, q⟩ h4
  | list a b c e => exact repr_of_reads' (.list a b c e) h1 noD hgd (by omega) (fun _ _ e => e) (fun h' u tk hk => ⟨.str _, H, I.kept (t' := tk) hk, ⟨u, rfl⟩, q⟩) h4
  | tuple a b c e => exact repr_of_reads' (.tuple a b c e) h1 noD hgd (by omega) (fun _ _ e => e) (fun h' u tk hk => ⟨.str _, H, I.kept (t' := tk) hk, ⟨u, rfl⟩, q⟩) h4
  | dict a b c e f => exact (by simp [PyData.hasDict] at h2)
def opRepr : List PV → Option PV
  | [p] => match p.dat with
    | some d => if d.showable = true ∧ d.hasDict = false ∧ d.depth ≤ 64 ∧ d.shown.length ≤ sizeLine ∧ PyData.strOk d.shown = true then some (.str d.shown) else none
    | none => none
  | _ => none
theorem os_repr {X : Cx} : OpS X (rRepr X.K) opRepr := by
  intro ps vs p H F Q rq e k
  unfold opRepr at e
  split at e
  · split at e
    · rename_i d ed
      split at e
      · rename_i hc
        cases e
        obtain ⟨v, S, rfl, r⟩ := rq1 (ps := []) rq
        exact ⟨v, d, rfl, (r.dp ed).1, hc.1, hc.2.1, hc.2.2.1, hc.2.2.2.1, kstr k hc.2.2.2.2⟩
      · cases e
    · cases e
  · cases e
end Bx
set_option Elab.async false
set_option linter.all false
set_option maxRecDepth 100000
set_option maxHeartbeats 4000000
/-! L4d: exceptions with fields are made and raised. -/
namespace Bx
open PySem PySem.Spec PyProof.Rows L2
variable [Tbs]
/-! ### __init__ of an exception: self.f = .. -/
def stF (K : PySem.W.Frag) : List (Str × Nat) → TS
  | [] => tNext
  | (f, i) :: r => tSeq (tOst K f (tVar 0) (tVar i)) (stF K r)
def valsAt (σ : St) : List (Str × Nat) → List (Str × V) → Prop
  | [], l => l = []
  | (f, i) :: r, l => ∃ v l', l = (f, v) :: l' ∧ σ[i]? = some (some v) ∧ valsAt σ r l'
theorem stF_old {K : PySem.W.Frag} {C a d : Addr} {σ : St} {D : Ends} (T : OexC K C) (h0 : σ[0]? = some (some (.ref a))) (hne : d ≠ a) : ∀ {fs : List (Str × Nat)} {l acc : List (Str × V)} {H : Hp}, (∀ p ∈ fs, PySem.W.findIn K (.ref C) p.1 = some none) → valsAt σ fs l →
    acc.length + fs.length ≤ 900 → H a = some (exo a C (some d)) → H d = some (exd d acc) → (∀ H', H' a = some (exo a C (some d)) → H' d = some (exd d (l.reverse ++ acc)) → (∀ b, b ≠ a → b ≠ d → H' b = H b) → D.nx σ H') → stF K fs D σ H
  | [], l, acc, H, hf, hv, hl, ha, hd, k => by
    cases hv
    exact k H ha hd fun _ _ _ => rfl
  | (f, i) :: fs, l, acc, H, hf, hv, hl, ha, hd, k => by
    obtain ⟨v, l', rfl, hi, hv⟩ := hv
    have hl' : acc.length + (fs.length + 1) ≤ 900 := by simpa using hl
    refine ⟨v, hi, .ref a, h0, a, C, rfl, T, hf (f, i) List.mem_cons_self, .inr ⟨d, acc, ha, hd, by omega, ?_⟩⟩
    have ne : a ≠ d := fun z => hne z.symm
    refine stF_old (acc := (f, v) :: acc) T h0 hne (fun p hp => hf p (List.mem_cons_of_mem _ hp)) hv (by simp; omega) (by rw [upd_ne ne]; exact ha) upd_same fun H' e1 e2 e3 => k H' e1 ?_ fun b h1 h2 => ?_
    · rw [e2]; simp
    · rw [e3 b h1 h2, upd_ne h2]
/-- an exception's __init__: fs its fields in the parameters' order -/
def spX (K : PySem.W.Frag) (fs : List Str) : Sp := fun vs H Q _ => ∃ a C ws, vs = .ref a :: ws ∧ ws.length = fs.length ∧ OexC K C ∧ (∀ f ∈ fs, PySem.W.findIn K (.ref C) f = some none) ∧ H a = some (exo a C none) ∧
  ∀ d H', H d = none → d ≠ a → H' a = some (exo a C (some d)) → H' d = some (exd d (fs.zip ws).reverse) → (∀ b, b ≠ a → b ≠ d → H' b = H b) → Q .non H'
theorem stF_new {K : PySem.W.Frag} {C a : Addr} {σ : St} {D : Ends} (T : OexC K C) (h0 : σ[0]? = some (some (.ref a))) {f : Str} {i : Nat} {fs : List (Str × Nat)} {l : List (Str × V)} {H : Hp} (hf : ∀ p ∈ (f, i) :: fs, PySem.W.findIn K (.ref C) p.1 = some none) (hv : valsAt σ ((f, i) :: fs) l)
    (hl : fs.length ≤ 800) (ha : H a = some (exo a C none)) (k : ∀ d H', H d = none → d ≠ a → H' a = some (exo a C (some d)) → H' d = some (exd d l.reverse) → (∀ b, b ≠ a → b ≠ d → H' b = H b) → D.nx σ H') : stF K ((f, i) :: fs) D σ H := by
  obtain ⟨v, l', rfl, hi, hv⟩ := hv
  refine ⟨v, hi, .ref a, h0, a, C, rfl, T, hf (f, i) List.mem_cons_self, .inl ⟨ha, fun d hd hne => ?_⟩⟩
  refine stF_old (acc := [(f, v)]) T h0 hne (fun p hp => hf p (List.mem_cons_of_mem _ hp)) hv (by simp; omega) upd_same (by rw [upd_ne hne, upd_same]) fun H' e1 e2 e3 => k d H' hd hne e1 (by rw [e2]; simp) fun b h1 h2 => ?_
  rw [e3 b h1 h2, upd_ne h1, upd_ne h2]
/-- the statements of such an __init__ -/
theorem okX {P : Program} {w : World} {K : PySem.W.Frag} {mg : Str → Option Value} {base : Heap} {x qual : Str} {params : Arguments} {body : List Stmt} {scope : Scope} {dvs : List V} {kws : List (Str × V)} {f : Addr} {fd : FuncData} {N ps : List Str} {k : Nat} {f1 : Str} {fs : List Str}
    (F : FunD K x qual params body scope dvs kws f fd) (S : FnScope N ps scope) (hl : ps.length = fs.length + 2) (hz : fs.length ≤ 700)
    (hb : ∀ (cdv : Value) (A : Around) (outer : List Env) (s : Shared) (H : Hp) (E : XK), PSs (cxOf (L2.CX P w) P w K mg base N qual scope f cdv A outer s H E) body (stF K ((f1, 1) :: fs.zipIdx 2))) :
    FnOk P w K mg base (L2.CX P w) (k + 1) f fd ps (spX K (f1 :: fs)) := by
  refine F.ok S (fun vs H Q E h => ?_) fun cdv A outer s H vs Q E hr h => ⟨_, hb cdv A outer s H E, ?_⟩
  · obtain ⟨a, C, ws, rfl, e, _⟩ := h
    simp [e, hl]
  · obtain ⟨a, C, ws, rfl, e, T, hf, ha, k⟩ := h
    cases ws with
    | nil => cases e
    | cons w1 ws =>
      have e' : ws.length = fs.length := by simpa using e
      have get : ∀ i (hi : i < ws.length), (L2.start N (.ref a :: w1 :: ws))[i + 2]? = some (some ws[i]) := fun i hi => by
        rw [start_get (by simp; omega)]; simp
      have va : ∀ (gs : List Str) (us : List V) (j : Nat), us.length = gs.length → (∀ i (hi : i < us.length), (L2.start N (.ref a :: w1 :: ws))[i + j]? = some (some us[i])) → valsAt (L2.start N (.ref a :: w1 :: ws)) (gs.zipIdx j) (gs.zip us) := by
        intro gs
        induction gs with
        | nil => intro us j _ _; rfl
        | cons g gs ih =>
          intro us j hl hg
          cases us with
          | nil => cases hl
          | cons u us =>
            refine ⟨u, gs.zip us, rfl, (by have h0 := hg 0 (by simp); rw [Nat.zero_add] at h0; exact h0), ih us (j + 1) (by simpa using hl) fun i hi => ?_⟩
            have := hg (i + 1) (by simpa using hi)
            rw [show i + (j + 1) = i + 1 + j by omega]
            simpa using this
      refine stF_new (a := a) (l := (f1 :: fs).zip (w1 :: ws)) T (start_get (by simp)) (fun p hp => ?_) ⟨w1, fs.zip ws, rfl, by rw [start_get (by simp)]; rfl, va fs ws 2 e' get⟩ (by simp; omega) ha k
      refine hf p.1 ?_
      rcases List.mem_cons.mp hp with z | z
      · rw [z]; exact List.mem_cons_self
      · refine List.mem_cons_of_mem _ ?_
        obtain ⟨_, _, h3⟩ := List.mem_zipIdx z
        rw [h3]
        exact List.getElem_mem _
/-! ### raise -/
def raiseFin (C : Addr) (fs : List Str) (ps : List PV) (vw : Vw) : R Sr := if ps.length = fs.length ∧ ps.length ≤ 1000 then .exc ⟨.ref C, fs.reverse, (shrs ps).reverse⟩ vw else .no
def jRaise (C : Addr) (fs : List Str) (is : List IE) : IS := fun vw => (evA is vw).bind (raiseFin C fs)
theorem shrs_length : ∀ ps : List PV, (shrs ps).length = ps.length
  | [] => rfl
  | p :: ps => by rw [shrs, List.length_cons, shrs_length ps, List.length_cons]
theorem pures_reverse {ps : List PV} (h : pures ps = true) : pures ps.reverse = true := by
  induction ps with
  | nil => rfl
  | cons p ps ih =>
    rw [pures, Bool.and_eq_true] at h
    rw [List.reverse_cons]
    exact pures_append (ih h.2) (by rw [pures, h.1]; rfl)
section
variable {X : Cx} {pos : Pos}
/-- what is known of an exception's class -/
structure ExK (P : Program) (w : World) (K : PySem.W.Frag) (mg : Str → Option Value) (base : Heap) (x : Str) (C : Addr) (fs : List Str) : Prop where
  oex : OexC K C
  fnd : ∀ f ∈ fs, PySem.W.findIn K (.ref C) f = some none
  gl : mg x = some (.ref C)
  ini : ∃ (fI : Addr) (fd : FuncData) (ps : List Str), PySem.W.findIn K (.ref C) "__init__" = some (some (.ref fI)) ∧ PySem.W.typeIn K (.ref fI) = some (.type "function") ∧ FnOk P w K mg base (L2.CX P w) 1 fI fd ps (spX K fs) ∧ Binds K fd ps []
theorem ss_raise {x : Str} {C : Addr} {fs : List Str} {e : Expr} {es : List Expr} {is : List IE} {p p2 : Pos} {k : Nat} {fx : Nat → Bool} (T : ExK X.prog X.w X.K X.mg X.base x C fs) (hr : Rg (k + 2) X.A) (hc : X.calm = true) (ha : SAs X (e :: es) is) (hg : Gl X x := by rfl)
    (hdb : (x == ("__debug__" : Str)) = false := by decide) (he : starEach (e :: es) X.env = (false, eval e X.env) :: starEach es X.env := by rfl) (hpl : (backTo p2 (starEach es X.env)).any (·.1) = false := by rfl) :
    SS X fx (.Raise (some (.Call (.Name x p) (e :: es) [] p2)) none pos) (jRaise C fs is) := fun W tk => by
  obtain ⟨fI, fd, ps, h1, h2, h3, h4⟩ := T.ini
  refine (ps_raise hc tk (pmk_oex (k := 1) (dvs := []) T.oex h1 h2 h3 (hr.room.mono (by omega)) h4 .nil passL hg T.gl (ha W tk) hdb he hpl)).imp fun D σ H ⟨F, vw, S, hv, g, h⟩ => ?_
  refine runA (T := f0) (oblS X.K fx D σ W) hv (gd_zero g) (by rw [fz_add]; exact h) fun qs vw' vs H1 F1 S1 S2 a b c _ q => ?_
  rw [fz_add] at c q
  have hl := a.length
  have q' : PoS X.K fx D σ W (if qs.length = fs.length ∧ qs.length ≤ 1000 then .exc ⟨.ref C, fs.reverse, (shrs qs).reverse⟩ vw' else .no) H1 F1 (fadd S1 S2) := q
  by_cases hz : qs.length = fs.length ∧ qs.length ≤ 1000
  · rw [if_pos hz] at q'
    refine ⟨by omega, fun a0 hn => ⟨a0, C, vs, by simp, by omega, T.oex, T.fnd, upd_same, fun d H2 hd hne ea ed eo => ⟨rfl, d, (fs.zip vs).reverse, ea, ed, ?_, ?_⟩⟩⟩
    · rw [upd_ne hne] at hd; exact hd
    · have hd1 : H1 d = none := by rw [upd_ne hne] at hd; exact hd
      have eH : upd (del H2 a0) d (.xd (fs.zip vs).reverse) = upd H1 d (.xd (fs.zip vs).reverse) := by
        funext b
        by_cases e1 : b = d
        · subst e1; rw [upd_same, upd_same]
        · rw [upd_ne e1, upd_ne e1]
          by_cases e2 : b = a0
          · subst e2; rw [del_same, hn]
          · rw [del_ne e2, eo b e2 e1, upd_ne e2]
      rw [eH]
      obtain ⟨F2, r2, v2, g2, st⟩ := freezeA a b c
      have kp := kp_upd (o := .xd (fs.zip vs).reverse) (F := F2) (S := f0) hd1
      have gn := new_gd (S1 := f0) (o := .xd (fs.zip vs).reverse) hd1 (gd_zero g2)
      rw [fz_add] at gn
      refine q' (.ref C) (some d) σ _ F2 S2 ⟨rfl, pures_reverse (shrs_pure qs), ?_, .inr ⟨d, vs.reverse, rfl, ?_, (r2.keep kp).rev⟩⟩ (v2.keep (kp_upd hd1)) Fix.refl gn (st.trans (new_step hd1 fun x z => .inl z))
      · rw [List.length_reverse, List.length_reverse, shrs_length]; exact hz.1.symm
      · rw [upd_same]
        have : (fs.zip vs).reverse = fs.reverse.zip vs.reverse := by
          rw [List.zip_eq_zipWith, List.zip_eq_zipWith, List.reverse_zipWith (by omega)]
        rw [this]
  · rw [if_neg hz] at q'; exact q'.elim
end
end Bx
set_option Elab.async false
set_option linter.all false
set_option maxRecDepth 100000
set_option maxHeartbeats 4000000
/-! L4e: try with any clauses, each with a name or without one. -/
namespace Bx
open PySem PySem.Spec PyProof.Rows L2
variable [Tbs]
abbrev SuT := Addr → Value → Option Addr → TS
/-- behind a suite whose clause has the name in slot i -/
def outOf (i : Nat) (D : Ends) : Ends := { nx := fun τ G => D.nx (τ.set i none) G, rt := D.rt, bk := fun τ G => D.bk (τ.set i none) G, ct := fun τ G => D.ct (τ.set i none) G }
def wCl (K : PySem.W.Frag) (Wo : WX) (D : Ends) : List (Value × Option Nat × SuT) → WX
  | [] => Wo
  | (c, none, ts) :: r => fun cls d τ G => ∃ b, PySem.W.exmOne K cls c = some b ∧ (b = true → ∀ a, G a = none → ts a cls d D τ G) ∧ (b = false → wCl K Wo D r cls d τ G)
  | (c, some i, ts) :: r => fun cls d τ G => ∃ b, PySem.W.exmOne K cls c = some b ∧ (b = true → ∀ a, G a = none → ts a cls d (outOf i D) (τ.set i (some (.ref a))) G) ∧ (b = false → wCl K Wo D r cls d τ G)
/-- a suite is walked in its context -/
def SuOk (X : Cx) (sts : List Stmt) (ts : SuT) : Prop := ∀ (a : Addr) (oe : Obj) (cls : Value) (d : Option Addr) (pn : List (Addr × Obj)), Zc cls d oe → (∃ vs, oe.data = .fields vs) → PSs (X.suite a ((a, oe) :: pn)) sts (ts a cls d)
inductive Cls' (X : Cx) : List ExceptHandler → List (Value × Option Nat × SuT) → Prop
  | nil : Cls' X [] []
  | bare {x : Str} {c : Value} {ts : SuT} {st : Stmt} {sts : List Stmt} {np p : Pos} {hs : List ExceptHandler} {l : List (Value × Option Nat × SuT)} (nm : Names X x c) (su : SuOk X (st :: sts) ts) (r : Cls' X hs l) :
      Cls' X (.ExceptHandler (some (.Name x np)) none (st :: sts) p :: hs) ((c, none, ts) :: l)
  | nmd {x n : Str} {i : Nat} {c : Value} {ts : SuT} {st : Stmt} {sts : List Stmt} {np p : Pos} {hs : List ExceptHandler} {l : List (Value × Option Nat × SuT)} (nm : Names X x c) (hi : X.N[i]? = some n) (hn : X.env.kindOf n = some .local) (su : SuOk X (st :: sts) ts) (r : Cls' X hs l) :
      Cls' X (.ExceptHandler (some (.Name x np)) (some n) (st :: sts) p :: hs) ((c, some i, ts) :: l)
section
variable {X : Cx} {body : List Stmt} {hd : ExceptHandler} {hds : List ExceptHandler} {l : List (Value × Option Nat × SuT)} {pos : Pos} {tb : WX → TS} {Wo : WX}
/-- an exception lies landed at a: the state beneath it, as the def sees it -/
def Landed (X : Cx) (pins : List (Addr × Obj)) (a : Addr) (cls : Value) (d : Option Addr) (τ : St) (G : Hp) (z : Shared) : Prop := ∃ (B : Heap) (y : Shared),
  Inv X pins τ G y ∧ (∀ b o, y.heap.get? b = some o → b ∉ frs X.stack → B.get? b = some o) ∧ HandSPX.FlyingZ B X.stack a (Zc cls d) z.heap ∧ y.heap.UpToSlots z.heap ∧ G a = none ∧ z.os = y.os ∧ AllBare z.gens
section
variable {pins : List (Addr × Obj)} {a : Addr} {cls : Value} {d : Option Addr} {τ : St} {G : Hp} {z : Shared}
theorem Landed.self (k : Landed X pins a cls d τ G z) : Inv X pins τ G z := by
  obtain ⟨B, y, I, nb, fl, up, _, eo, eg⟩ := k
  exact I.landed nb fl.1 up eo eg
theorem Landed.obj (k : Landed X pins a cls d τ G z) : ∃ oe, z.heap.get? a = some oe ∧ Zc cls d oe ∧ ∃ vs, oe.data = .fields vs := by
  obtain ⟨B, y, I, nb, fl, up, _, eo, eg⟩ := k
  obtain ⟨oe, vs, h1, h2, h3⟩ := fl.there
  exact ⟨oe, h1, h2, vs, h3⟩
theorem Landed.apart (k : Landed X pins a cls d τ G z) : a ∉ frs X.stack := by
  obtain ⟨oe, h1, _, vs, h3⟩ := k.obj
  obtain ⟨B, y, I, nb, fl, up, _, eo, eg⟩ := k
  intro hm
  obtain ⟨_, o', e', nd⟩ := fl.2.2.1.mem hm
  rw [h1] at e'
  cases e'
  exact nd _ h3
/-- the suite begins -/
theorem Landed.into (hs : X.stack = X.env :: X.outer) (hf : X.env.frame = some X.env.locals) (k : Landed X pins a cls d τ G z) {oe : Obj} (h1 : z.heap.get? a = some oe) {vs : Array Value} (h3 : oe.data = .fields vs) : Inv (X.suite a ((a, oe) :: (X.pn ++ pins))) [] τ G z := by
  have ap := k.apart
  rw [hs] at ap
  have n1 : a ≠ X.env.locals := fun e => ap (List.mem_filterMap.mpr ⟨X.env, List.mem_cons_self, by rw [hf, e]⟩)
  have n2 : a ∉ X.fs := fun e => by
    obtain ⟨v, hv, q⟩ := List.mem_filterMap.mp e
    exact ap (List.mem_filterMap.mpr ⟨v, List.mem_cons_of_mem _ hv, q⟩)
  have J := k.self
  obtain ⟨B, y, I, nb, fl, up, na, eo, eg⟩ := k
  exact J.suite h1 h3 na n1 n2
/-- landed once more -/
theorem Landed.again {M : Model} {A : Around} {E : Value → Shared → Prop} {Q : Unit → Shared → Prop} (k : Landed X pins a cls d τ G z) (h : ∀ z', Landed X pins a cls d τ G z' → Q () z') : wpAny M A (setFlight (.ref a) none) Q E z := by
  obtain ⟨B, y, I, nb, fl, up, na, eo, eg⟩ := k
  exact HandSPX.lands_againZ fl fun g fl' up' => h _ ⟨B, y, I, nb, fl', up.trans up', na, eo, eg⟩
/-- no clause took it -/
theorem Landed.on {Wo : WX} {Q : Flow → Shared → Prop} (hf : X.env.frame = some X.env.locals) (tk : Takes X Wo) (k : Landed X pins a cls d τ G z) (w : Wo cls d τ G) : wpAny (model X.prog X.w) X.A (handleBy (.ref a) X.env []) Q X.xe z := by
  obtain ⟨B, y, I, nb, fl, up, na, eo, eg⟩ := k
  obtain ⟨_, _, _, oe, vs, T, oT, ts, h1, h2, h3, h4, h5⟩ := id fl
  have rest : wpAny (model X.prog X.w) X.A (setFlight (.ref a) X.env.frame) (fun _ z4 => wpAny (model X.prog X.w) X.A (throw (.ref a) : Sem Flow) Q X.xe z4) X.xe z := by
    rw [hf]
    exact HandSPX.setFlight_upZ fl fun g hh up' => wpAny_throw (tk _ _ ⟨a, B, y, pins, τ, G, cls, d, rfl, I, nb, up.trans up', .inr (.inr hh), na, eo, eg, w⟩)
  refine wpAny_handleBy_nil ?_
  unfold PySem.passOn
  refine wpAny_bind (wpAny_field h1 h3 h4 ?_)
  rw [if_neg (by simp : ¬ ((Value.ref T == Value.none) = true))]
  first
    | exact wpAny_bind rest
    | exact wpAny_bind (wpAny_pure (wpAny_bind rest))
/-- the clause's class is named -/
theorem Landed.named (hs : X.stack = X.env :: X.outer) (hf : X.env.frame = some X.env.locals) (k : Landed X pins a cls d τ G z) {x : Str} {c : Value} (nm : Names X x c) {np : Pos} {Q : Value → Shared → Prop} {E : Value → Shared → Prop} (q : Q c z) : wpAny (model X.prog X.w) (X.A.mark (some (.ref a))) (eval (.Name x np) X.env) Q E z := by
  obtain ⟨oe, h1, _, vs, h3⟩ := k.obj
  have S := k.into hs hf h1 h3
  obtain ⟨g, nd, m | ⟨m, b, nn⟩⟩ := nm
  · exact ld_glob S g m q nd
  · exact ld_blt S g m b q nn nd
theorem Landed.test (k : Landed X pins a cls d τ G z) {c : Value} {b : Bool} (e : PySem.W.exmOne X.K cls c = some b) : PySem.W.Looks (model X.prog X.w) z.heap (excMatches (.ref a) c) b := by
  obtain ⟨oe, h1, h2, vs, h3⟩ := k.obj
  have J := k.self
  refine PySem.W.exm_one J.kIn (fun A Q E s kp q => wpAny_typeOf_ref (kp _ _ h1) ?_) e
  rw [h2.1]
  exact q
/-- the clauses, one behind the other -/
theorem clauses (hs : X.stack = X.env :: X.outer) (hf : X.env.frame = some X.env.locals) (hN : X.N.Nodup) (ok : X.Ok) (tk : Takes X Wo) {D : Ends} {hds : List ExceptHandler} {l : List (Value × Option Nat × SuT)} (hh : Cls' X hds l) (k : Landed X pins a cls d τ G z) (w : wCl X.K Wo D l cls d τ G) :
    wpAny (model X.prog X.w) X.A (handleBy (.ref a) X.env hds) (SP X pins D) X.xe z := by
  have na : G a = none := by obtain ⟨B, y, I, nb, fl, up, na, eo, eg⟩ := k; exact na
  induction hh with
  | nil => exact k.on hf tk w
  | @bare x c ts st sts np p hs2 l2 nm su r ih =>
    obtain ⟨b, e, yes, no⟩ := w
    refine wpAny_handleBy_cons (codeAny_handlers_test (k.named hs hf nm ((k.test e).here ?_))) (by intro q; cases q)
    cases b with
    | false => exact ih (no rfl)
    | true =>
      refine codeAny_handlers_suite (k.again fun z' k' => ?_)
      obtain ⟨oe, h1, h2, vs, h3⟩ := k'.obj
      refine wpAny_mono ((su a oe cls d (X.pn ++ pins) h2 ⟨vs, h3⟩).run [] z' τ G D (k'.into hs hf h1 h3) (yes rfl a na)) (fun fl y q => ?_) (fun _ _ q => q.elim)
      cases fl with
      | next => obtain ⟨t', g', J, q⟩ := q; exact ⟨t', g', J.unsuite ok, q⟩
      | brk => obtain ⟨t', g', J, q⟩ := q; exact ⟨t', g', J.unsuite ok, q⟩
      | cont => obtain ⟨t', g', J, q⟩ := q; exact ⟨t', g', J.unsuite ok, q⟩
      | ret u => obtain ⟨v, t', g', J, rv, q⟩ := q; exact ⟨v, t', g', J.unsuite ok, rv, q⟩
  | @nmd x n i c ts st sts np p hs2 l2 nm hi hn su r ih =>
    obtain ⟨b, e, yes, no⟩ := w
    refine wpAny_handleBy_cons (codeAny_handlers_test (k.named hs hf nm ((k.test e).here ?_))) (by intro q; cases q)
    cases b with
    | false => exact ih (no rfl)
    | true =>
      refine codeAny_handlers_suite_as (k.again fun z' k' => ?_)
      obtain ⟨oe, h1, h2, vs, h3⟩ := k'.obj
      refine store_ok (X := X.suite a ((a, oe) :: (X.pn ++ pins))) (v := .ref a) (k'.into hs hf h1 h3) hN hi (.inl hn) rfl (fun y2 J2 => ?_) (.inr hn)
      refine wpAny_mono ((su a oe cls d (X.pn ++ pins) h2 ⟨vs, h3⟩).run [] y2 _ G (outOf i D) J2 (yes rfl a na)) (fun fl y q => ?_) (fun _ _ q => q.elim)
      have bye : ∀ {t' : St} {g' : Hp} {R : Shared → Prop}, Inv (X.suite a ((a, oe) :: (X.pn ++ pins))) [] t' g' y → (∀ y', Inv X pins (t'.set i none) g' y' → R y') → wpAny (model X.prog X.w) X.A (do bindName X.env n .none; unbindBehindTheSuite X.env n p) (fun _ y' => R y') X.xe y :=
        fun J h => gone_ok (J.unsuite ok) hN hi hn h
      cases fl with
      | next => obtain ⟨t', g', J, q⟩ := q; exact bye J fun y' J' => ⟨_, g', J', q⟩
      | brk => obtain ⟨t', g', J, q⟩ := q; exact bye J fun y' J' => ⟨_, g', J', q⟩
      | cont => obtain ⟨t', g', J, q⟩ := q; exact bye J fun y' J' => ⟨_, g', J', q⟩
      | ret u => obtain ⟨v, t', g', J, rv, q⟩ := q; exact bye J fun y' J' => ⟨v, _, g', J', rv, q⟩
end
/-- try: body / except ..: .. -/
theorem ps_tryA (hs : X.stack = X.env :: X.outer) (hf : X.env.frame = some X.env.locals) (hN : X.N.Nodup) (tk : Takes X Wo) (hh : Cls' X (hd :: hds) l)
    (hb : ∀ (W : WX) (pn : List (Addr × Obj)) (xe : Value → Shared → Prop), Takes (X.tr pn xe) W → PassesOwn (model X.prog X.w) X.A X.env xe → PSs (X.tr pn xe) body (tb W)) : PS X (.Try body (hd :: hds) [] [] pos) (fun D σ H => tb (wCl X.K Wo D l) D σ H) := by
  refine ⟨fun pins s σ H D I h => wpAny_Try_except ?_⟩
  have ok := I.ok
  have fr : X.A.frames = some (X.env :: X.outer) := hs ▸ ok.frames
  refine wpAny_mono ((hb (wCl X.K Wo D l) (X.pn ++ pins) (fun e z1 => wpAny (model X.prog X.w) X.A (noteFrame e X.env) (fun _ z2 => wpAny (model X.prog X.w) X.A (setFlight e none) (fun _ z3 => wpAny (model X.prog X.w) X.A (handleBy e X.env (hd :: hds)) (SP X pins D) X.xe z3) X.xe z2) X.xe z1)
    (fun u y xx => ?_) PassesOwn.looking).run [] s σ H D (I.toTry _) h) (fun fl y q => ?_) (fun e y q => q)
  · obtain ⟨a, B, y0, pins', τ, G, cls, d, rfl, J', nb, up, sky, na, eo, eg, w⟩ := xx
    have J := J'.ofTry ok
    have sky' : Sky B (X.env :: X.outer) a (Zc cls d) X.env.locals y.heap := by rw [← hs]; exact sky
    refine Sky.land Zc.steady fr hf sky' fun g fl up' => ?_
    exact clauses hs hf hN ok tk hh ⟨B, y0, J, nb, by rw [hs]; exact fl, up.trans up', na, eo, eg⟩ w
  · cases fl with
    | next => obtain ⟨t', g', J, q⟩ := q; exact wpAny_execs_nil ⟨t', g', J.ofTry ok, q⟩
    | brk => obtain ⟨t', g', J, q⟩ := q; exact ⟨t', g', J.ofTry ok, q⟩
    | cont => obtain ⟨t', g', J, q⟩ := q; exact ⟨t', g', J.ofTry ok, q⟩
    | ret u => obtain ⟨v, t', g', J, rv, q⟩ := q; exact ⟨v, t', g', J.ofTry ok, rv, q⟩
end
end Bx
set_option Elab.async false
set_option linter.all false
set_option maxRecDepth 100000
set_option maxHeartbeats 4000000
/-! L4f: try as a function of values. -/
namespace Bx
open PySem PySem.Spec PyProof.Rows L2
variable [Tbs]
def tSu (K : PySem.W.Frag) (fx : Nat → Bool) (i : Option Nat) (js : Xc → IS) : SuT := fun a cls d D τ G => ∃ F vw S x, Rvw K G F vw τ S ∧ Gd G F S ∧ Rx K G F x cls d ∧ (∀ n, i = some n → τ[n]? = some (some (.ref a))) ∧ PoS K fx D τ (fun _ _ _ _ => False) (js x vw) G F S
def SuS (X : Cx) (fx : Nat → Bool) (i : Option Nat) (sts : List Stmt) (js : Xc → IS) : Prop := SuOk X sts (tSu X.K fx i js)
def outV (n : Nat) : R Sr → R Sr
  | .ok o vw => .ok o (vw.set n none)
  | _ => .no
def jClauses (kit : Value → Value → Option Bool) : List (Value × Option Nat × (Xc → IS)) → Xc → IS
  | [], x => fun vw => .exc x vw
  | (c, i, js) :: r, x => fun vw => match kit x.cls c with
    | some true => (match i with
      | none => noX (js x vw)
      | some n => outV n (js x (vw.set n none)))
    | some false => jClauses kit r x vw
    | none => .no
def jTry (kit : Value → Value → Option Bool) (jb : IS) (l : List (Value × Option Nat × (Xc → IS))) : IS := fun vw => match jb vw with
  | .exc x vw' => jClauses kit l x vw'
  | r => r
theorem PoS.noX {K : PySem.W.Frag} {fx : Nat → Bool} {D : Ends} {σ : St} {W W' : WX} {r : R Sr} {H : Hp} {F : Fz} {S : Fp} (h : PoS K fx D σ W (noX r) H F S) : PoS K fx D σ W' r H F S := by
  cases r with
  | no => exact h
  | exc x vw => exact h.elim
  | ok o vw =>
    cases o with
    | nx => exact h
    | bk => exact h
    | ct => exact h
    | rt p => exact h
theorem PoS.outV {K : PySem.W.Frag} {fx : Nat → Bool} {D : Ends} {σ : St} {W W' : WX} {r : R Sr} {H : Hp} {F : Fz} {S : Fp} {n : Nat} {y : Option V} (hn : fx n = false) (h : PoS K fx D σ W (outV n r) H F S) : PoS K fx (outOf n D) (σ.set n y) W' r H F S := by
  have fxs : ∀ {τ : St}, Fix fx (σ.set n y) τ → Fix fx σ (τ.set n none) := fun f => ((Fix.set hn).trans f).trans (Fix.set hn)
  cases r with
  | no => exact h
  | exc x vw => exact h.elim
  | ok o vw =>
    cases o with
    | nx =>
      intro τ H' F' S2 a b c d
      obtain ⟨S3, l, v⟩ := a.dropS (n := n)
      exact h (τ.set n none) H' F' S3 v (fxs b) (c.sub l) (d.sub l)
    | bk =>
      intro τ H' F' S2 a b c d
      obtain ⟨S3, l, v⟩ := a.dropS (n := n)
      exact h (τ.set n none) H' F' S3 v (fxs b) (c.sub l) (d.sub l)
    | ct =>
      intro τ H' F' S2 a b c d
      obtain ⟨S3, l, v⟩ := a.dropS (n := n)
      exact h (τ.set n none) H' F' S3 v (fxs b) (c.sub l) (d.sub l)
    | rt p =>
      intro v τ H' F' S1 S2 r a b c d
      obtain ⟨S3, l, v'⟩ := a.dropS (n := n)
      have lt : ∀ b, fadd S1 S3 b ≤ fadd S1 S2 b := fun b => Nat.add_le_add_left (l b) _
      exact h v (τ.set n none) H' F' S1 S3 r v' (fxs b) (c.sub lt) (d.sub lt)
/-- the clauses' wish -/
def clauseTs (K : PySem.W.Frag) (fx : Nat → Bool) : List (Value × Option Nat × (Xc → IS)) → List (Value × Option Nat × SuT)
  | [] => []
  | (c, i, js) :: r => (c, i, tSu K fx i js) :: clauseTs K fx r
def fxOk (fx : Nat → Bool) (m : Nat) : List (Value × Option Nat × (Xc → IS)) → Bool
  | [] => true
  | (_, none, _) :: r => fxOk fx m r
  | (_, some n, _) :: r => !fx n && decide (n < m) && fxOk fx m r
theorem wCl_ok {K : PySem.W.Frag} {kit : Value → Value → Option Bool} {fx : Nat → Bool} {Wo : WX} {D : Ends} {m : Nat} (hk : ∀ t c b, kit t c = some b → PySem.W.exmOne K t c = some b) : ∀ {l : List (Value × Option Nat × (Xc → IS))} {x : Xc} {vw : Vw} {cls : Value} {d : Option Addr} {τ : St} {G : Hp} {F : Fz} {S : Fp}, fxOk fx m l = true → τ.length = m →
    Rx K G F x cls d → Rvw K G F vw τ S → Gd G F S → PoS K fx D τ Wo (jClauses kit l x vw) G F S → wCl K Wo D (clauseTs K fx l) cls d τ G
  | [], x, vw, cls, d, τ, G, F, S, hfx, hm, rx, rv, g, h => h cls d τ G F S rx rv Fix.refl g Step.refl
  | (c, none, js) :: r, x, vw, cls, d, τ, G, F, S, hfx, hm, rx, rv, g, h => by
    unfold jClauses at h
    cases e : kit x.cls c with
    | none => rw [e] at h; exact h.elim
    | some b =>
      rw [e] at h
      refine ⟨b, by rw [rx.1]; exact hk _ _ _ e, fun eb a na => ?_, fun eb => ?_⟩
      · subst eb
        exact ⟨F, vw, S, x, rv, g, rx, (fun n z => by cases z), PoS.noX h⟩
      · subst eb
        exact wCl_ok hk (show fxOk fx m r = true from hfx) hm rx rv g h
  | (c, some n, js) :: r, x, vw, cls, d, τ, G, F, S, hfx, hm, rx, rv, g, h => by
    unfold jClauses at h
    obtain ⟨h12, h3⟩ := Bool.and_eq_true_iff.mp (show (!fx n && decide (n < m) && fxOk fx m r) = true from hfx)
    obtain ⟨h1, h2⟩ := Bool.and_eq_true_iff.mp h12
    have h1' : fx n = false := by simpa using h1
    have h2' : n < m := of_decide_eq_true h2
    cases e : kit x.cls c with
    | none => rw [e] at h; exact h.elim
    | some b =>
      rw [e] at h
      refine ⟨b, by rw [rx.1]; exact hk _ _ _ e, fun eb a na => ?_, fun eb => ?_⟩
      · subst eb
        have hl : n < vw.length := by rw [rv.length, hm]; exact h2'
        obtain ⟨S3, l3, v3⟩ := rv.drop hl
        refine ⟨F, vw.set n none, S3, x, v3.any (List.getElem?_set_self hl), g.sub l3, rx, fun n' z => ?_, PoS.outV h1' (PoS.stp Fix.refl (Step.refl.sub l3) h)⟩
        cases z
        rw [List.getElem?_set_self (by rw [hm]; exact h2')]
      · subst eb
        exact wCl_ok hk h3 hm rx rv g h
section
variable {X : Cx} {pos : Pos} {fx : Nat → Bool}
theorem ss_try {kit : Value → Value → Option Bool} {body : List Stmt} {hd : ExceptHandler} {hds : List ExceptHandler} {jb : IS} {l : List (Value × Option Nat × (Xc → IS))} (hk : ∀ t c b, kit t c = some b → PySem.W.exmOne X.K t c = some b) (hs : X.stack = X.env :: X.outer) (hf : X.env.frame = some X.env.locals) (hN : X.N.Nodup)
    (hh : Cls' X (hd :: hds) (clauseTs X.K fx l)) (hfx : fxOk fx X.N.length l = true)
    (hb : ∀ (pn : List (Addr × Obj)) (xe : Value → Shared → Prop), PassesOwn (model X.prog X.w) X.A X.env xe → SSs (X.tr pn xe) fx body jb) : SS X fx (.Try body (hd :: hds) [] [] pos) (jTry kit jb l) := fun W tk => by
  refine PS.mk fun pins s σ H D I h => ?_
  have hlen : σ.length = X.N.length := I.len
  refine (ps_tryA (tb := fun W' => tS X.K fx jb W') hs hf hN tk hh (fun W' pn xe tk' hp => hb pn xe hp W' tk')).run pins s σ H D I ?_
  obtain ⟨F, vw, S, hv, g, h⟩ := h
  refine ⟨F, vw, S, hv, g, ?_⟩
  unfold jTry at h
  cases e : jb vw with
  | no => rw [e] at h; exact h
  | ok o vw' =>
    rw [e] at h
    cases o with
    | nx => exact h
    | bk => exact h
    | ct => exact h
    | rt p => exact h
  | exc x vw' =>
    rw [e] at h
    exact fun cls d τ G F' S2 a b c e' f => wCl_ok hk hfx (by rw [c.1, hlen]) a b e' (PoS.stp c f h)
/-! ### suites -/
theorem su_plain {sts : List Stmt} {j : IS} {i : Option Nat} (h : ∀ (a : Addr) (oe : Obj) (pn : List (Addr × Obj)), SSs (X.suite a ((a, oe) :: pn)) fx sts j) : SuS X fx i sts (fun _ => j) := fun a oe cls d pn hz hf =>
  (h a oe pn (fun _ _ _ _ => False) takes_no).imp fun D τ G ⟨F, vw, S, x, rv, g, rx, _, q⟩ => ⟨F, vw, S, rv, g, q⟩
/-- what a suite tells of its exception: constants, fields, their texts -/
inductive At where
  | con (p : PV)
  | fld (C : Addr) (f : Str)
  | rep (C : Addr) (f : Str)
def fldOf (x : Xc) (C : Addr) (f : Str) : Option PV := if x.cls = .ref C then dget x.ns x.xs f else none
def atVal (x : Xc) : At → Option PV
  | .con p => if p.pure = true then some p else none
  | .fld C f => fldOf x C f
  | .rep C f => match fldOf x C f with
    | some p => opRepr [p]
    | none => none
def atVals (x : Xc) : List At → Option (List PV)
  | [] => some []
  | t :: ts => match atVal x t with
    | some p => match atVals x ts with
      | some ps => some (p :: ps)
      | none => none
    | none => none
def tAt (K : PySem.W.Frag) (n : Nat) (a : Addr) (cls : Value) (d : Option Addr) (t : At) : TE := fun τ G Q => τ[n]? = some (some (.ref a)) ∧ ∃ F x p, Rx K G F x cls d ∧ atVal x t = some p ∧ ∀ v, (∀ F', (∀ b, F b → F' b) → Rp K G F' p v f0) → p.pure = true → Q v G
def AtE (X : Cx) (n : Nat) (e : Expr) (t : At) : Prop := ∀ (a : Addr) (oe : Obj) (cls : Value) (d : Option Addr) (pn : List (Addr × Obj)), Zc cls d oe → (∃ vs, oe.data = .fields vs) → PE (X.suite a ((a, oe) :: pn)) e (tAt X.K n a cls d t)
theorem at_con {n : Nat} {e : Expr} {v : V} {p : PV} (h : ∀ a pn, PE (X.suite a pn) e (tC v)) (r : ∀ H F, Rp X.K H F p v f0) : AtE X n e (.con p) := fun a oe cls d pn hz hf => (h a _).imp fun τ G Q ⟨_, F, x, q, rx, e, k⟩ => by
  have e : (if p.pure = true then some p else none) = some q := e
  split at e
  · rename_i hp
    cases e
    exact k v (fun F' _ => r G F') hp
  · cases e
theorem at_str {n : Nat} {x : Str} {j : Nat} {p : Pos} (h : PyData.strOk x = true := by decide +kernel) : AtE X n (.Constant (.str x) j p) (.con (.str x)) := at_con (fun _ _ => pe_str) fun _ _ => ⟨rfl, h, fun _ => rfl⟩
theorem at_int {n : Nat} {i : Int} {j : Nat} {p : Pos} : AtE X n (.Constant (.int i) j p) (.con (.int i)) := at_con (fun _ _ => pe_int) fun _ _ => ⟨rfl, fun _ => rfl⟩
theorem zip_look {ns : List Str} {vs : List V} (f : Str) : (ns.zip vs).lookup f = valV (ns.zip vs) f := lookup_val f
theorem fld_at {K : PySem.W.Frag} {G : Hp} {F : Fz} {x : Xc} {cls : Value} {d : Option Addr} {C : Addr} {f : Str} {p : PV} (rx : Rx K G F x cls d) (e : fldOf x C f = some p) : cls = .ref C ∧ p.pure = true ∧ ∃ dd fs v, d = some dd ∧ G dd = some (.xd fs) ∧ fs.lookup f = some v ∧ Rp K G F p v f0 := by
  unfold fldOf at e
  split at e
  · rename_i hc
    obtain ⟨e1, e2, e3, e4⟩ := rx
    have hp : ∀ {ns : List Str} {xs : List PV}, pures xs = true → dget ns xs f = some p → p.pure = true := by
      intro ns
      induction ns with
      | nil => intro xs _ h; cases xs <;> cases h
      | cons k ns ih =>
        intro xs hx h
        cases xs with
        | nil => cases h
        | cons y ys =>
          rw [pures, Bool.and_eq_true] at hx
          rw [dget] at h
          split at h
          · cases h; exact hx.1
          · exact ih hx.2 h
    rcases e4 with e4 | ⟨dd, vs, rfl, hd, hx⟩
    · rw [e4] at e
      cases hxs : x.xs <;> rw [hxs] at e <;> cases e
    · have h1 := dget_v (ks := x.ns) f hx
      rw [e] at h1
      cases e5 : valV (x.ns.zip vs) f with
      | none => rw [e5] at h1; exact (show False from h1).elim
      | some w =>
        rw [e5] at h1
        obtain ⟨S3, r3⟩ : ∃ S, Rp K G F p w S := h1
        exact ⟨by rw [e1, hc], hp e2 e, dd, _, w, rfl, hd, by rw [lookup_val]; exact e5, rp_zero r3 (hp e2 e)⟩
  · cases e
theorem Rp.wid {K : PySem.W.Frag} {G : Hp} {F F' : Fz} {p : PV} {v : V} {S : Fp} (r : Rp K G F p v S) (h : ∀ b, F b → F' b) : Rp K G F' p v S := r.keep ⟨fun _ _ e _ _ => e, h⟩
theorem at_fld {n : Nat} {x f : Str} {C : Addr} {p1 p2 : Pos} (T : XfC X.K C) (hno : PySem.W.findIn X.K (.ref C) f = some none) (hN : X.N[n]? = some x := by rfl) (hv : Vis X.env.scope x := by first | exact Or.inl rfl | exact Or.inr (Or.inl rfl) | exact Or.inr (Or.inr rfl)) (hd : (x == ("__debug__" : Str)) = false := by decide)
    (hcd : (x == ("__classdict__" : Str)) = false := by decide) (hb : attributeBase (.Name x p1) f X.env (eval (.Name x p1) X.env) = eval (.Name x p1) X.env := by rfl) : AtE X n (.Attribute (.Name x p1) f p2) (.fld C f) := fun a oe cls d pn hz hf =>
  (pe_xf T hno hz hf (pe_var (X := X.suite a ((a, oe) :: pn)) (i := n) hN hv hd hcd) hb).imp fun τ G Q ⟨hσ, F, y, p, rx, e, k⟩ => by
    obtain ⟨ec, hp, dd, fs, v, ed, hg, hl, rp⟩ := fld_at rx (show fldOf y C f = some p from e)
    exact ⟨.ref a, hσ, rfl, ec, dd, fs, v, ed, hg, hl, k v (fun F' h => rp.wid h) hp⟩
theorem at_rep {n : Nat} {x f : Str} {C : Addr} {p1 p2 p3 p4 : Pos} {k : Nat} (hr : Rg k X.A) (T : XfC X.K C) (hno : PySem.W.findIn X.K (.ref C) f = some none) (hm : X.mg "repr" = none) (hg : Gl X "repr" := by rfl) (hN : X.N[n]? = some x := by rfl) (hv : Vis X.env.scope x := by first | exact Or.inl rfl | exact Or.inr (Or.inl rfl) | exact Or.inr (Or.inr rfl))
    (hd : (x == ("__debug__" : Str)) = false := by decide) (hcd : (x == ("__classdict__" : Str)) = false := by decide) (hb : attributeBase (.Name x p1) f X.env (eval (.Name x p1) X.env) = eval (.Name x p1) X.env := by rfl)
    (hbt : bootBuiltins "repr" = some (.builtin "repr") := by first | exact boot_repr | kernel_rfl)
    (he : starEach [.Attribute (.Name x p1) f p2] X.env = (false, eval (.Attribute (.Name x p1) f p2) X.env) :: starEach [] X.env := by rfl) : AtE X n (.Call (.Name "repr" p3) [.Attribute (.Name x p1) f p2] [] p4) (.rep C f) := fun a oe cls d pn hz hf => by
  have hu : (X.suite a ((a, oe) :: pn)).A.units + 70 < cLine := by have := hr.room.un; show X.A.units + 70 < cLine; omega
  have inner := pe_xf T hno hz hf (pe_var (X := X.suite a ((a, oe) :: pn)) (pos := p1) (i := n) hN hv hd hcd) (pos := p2) hb
  refine (pe_callB (X := X.suite a ((a, oe) :: pn)) (cr_repr hu hr.gd) hg hm hbt (pa_cons inner pa_nil he) (by decide) (by decide) he (by rfl)).imp fun τ G Q ⟨hσ, F, y, p, rx, e, k⟩ => ?_
  have e : (match fldOf y C f with
    | some p => opRepr [p]
    | none => none) = some p := e
  cases e1 : fldOf y C f with
  | none => rw [e1] at e; cases e
  | some p0 =>
    rw [e1] at e
    obtain ⟨ec, hp, dd, fs, v, ed, hg, hl, rp⟩ := fld_at rx e1
    refine ⟨.ref a, hσ, rfl, ec, dd, fs, v, ed, hg, hl, ?_⟩
    unfold opRepr at e
    simp only at e
    split at e
    · rename_i dt edt
      split at e
      · rename_i hc
        cases e
        exact ⟨v, dt, rfl, (rp.dp edt).1, hc.1, hc.2.1, hc.2.2.1, hc.2.2.2.1, k _ (fun F' _ => ⟨rfl, hc.2.2.2.2, fun _ => rfl⟩) rfl⟩
      · cases e
    · cases e
def tAts (K : PySem.W.Frag) (n : Nat) (a : Addr) (cls : Value) (d : Option Addr) (ts : List At) : TA := fun τ G Q => τ[n]? = some (some (.ref a)) ∧ ∃ F x ps, Rx K G F x cls d ∧ atVals x ts = some ps ∧ ∀ vs, (∀ F', (∀ b, F b → F' b) → Rps K G F' ps vs f0) → pures ps = true → Q vs G
def AtA (X : Cx) (n : Nat) (es : List Expr) (ts : List At) : Prop := ∀ (a : Addr) (oe : Obj) (cls : Value) (d : Option Addr) (pn : List (Addr × Obj)), Zc cls d oe → (∃ vs, oe.data = .fields vs) → PA (X.suite a ((a, oe) :: pn)) es (tAts X.K n a cls d ts)
theorem _root_.L2.PA.imp' {X : Cx} {e : List Expr} {t t' : TA} (h : PA X e t) (m : ∀ σ H Q, t' σ H Q → t σ H Q) : PA X e t' := h.imp m
theorem ata_nil {n : Nat} : AtA X n [] [] := fun a oe cls d pn hz hf => pa_nil.imp fun τ G Q ⟨hσ, F, x, ps, rx, e, k⟩ => by
  cases e
  exact k [] (fun F' _ => Rps.nil) rfl
theorem ata_cons {n : Nat} {e : Expr} {es : List Expr} {t : At} {ts : List At} (h : AtE X n e t) (r : AtA X n es ts) (hs : starEach (e :: es) X.env = (false, eval e X.env) :: starEach es X.env := by rfl) : AtA X n (e :: es) (t :: ts) := fun a oe cls d pn hz hf =>
  (pa_cons (X := X.suite a ((a, oe) :: pn)) (h a oe cls d pn hz hf) (r a oe cls d pn hz hf) hs).imp fun τ G Q ⟨hσ, F, x, ps, rx, e, k⟩ => by
    unfold atVals at e
    cases e1 : atVal x t with
    | none => rw [e1] at e; cases e
    | some p =>
      rw [e1] at e
      simp only at e
      cases e2 : atVals x ts with
      | none => rw [e2] at e; cases e
      | some qs =>
        rw [e2] at e
        cases e
        refine ⟨hσ, F, x, p, rx, e1, fun v hv hp => ⟨hσ, F, x, qs, rx, e2, fun vs hvs hps => k (v :: vs) (fun F' hF => (Rps.cons (hv F' hF) (hvs F' hF)).congr fun _ => rfl) ?_⟩⟩
        rw [pures, hp, hps]; rfl
/-- x = [..], the suite of a clause with a name -/
def jAtL (m : Nat) (ts : List At) : Xc → IS := fun x vw => match atVals x ts with
  | some ps => if m < vw.length ∧ ps.length ≤ sizeLine then .ok .nx (vw.set m (some (L ps))) else .no
  | none => .no
theorem su_setL {n m : Nat} {y : Str} {es : List Expr} {ts : List At} {p1 p2 p3 : Pos} (hN : X.N.Nodup) (ha : AtA X n es ts) (hi : X.N[m]? = some y := by rfl) (hx : Loc X.env.scope y := by first | exact Or.inl rfl | exact Or.inr rfl) (hfx : fx m = false := by rfl)
    (hf : X.fn y = true ∨ X.env.scope.names.lookup y = some .local := by first | exact .inl rfl | exact .inr rfl | assumption)
    (hs : swapsWithSole [.Name y p1] (.List es p2) p3.line X.env = pure false := by rfl) (hw : swappedStores [.Name y p1] (.List es p2) X.env = pure none := by rfl)
    (h1 : (assignEach [.Name y p1] X.env).map (·.2) = [assign (.Name y p1) X.env] := by rfl) : SuS X fx (some n) [.Assign [.Name y p1] (.List es p2) p3] (jAtL m ts) := fun a oe cls d pn hz hff =>
  (pss_one (ps_asg (X := X.suite a ((a, oe) :: pn)) (pe_lst (ha a oe cls d pn hz hff)) (pg_name (X := X.suite a ((a, oe) :: pn)) hN hi hx hf) hs hw h1)).imp fun D τ G ⟨F, vw, S, x, rv, g, rx, hσ, q⟩ => by
    unfold jAtL at q
    cases e : atVals x ts with
    | none => rw [e] at q; exact q.elim
    | some ps =>
      rw [e] at q
      have q' : PoS X.K fx D τ (fun _ _ _ _ => False) (if m < vw.length ∧ ps.length ≤ sizeLine then .ok .nx (vw.set m (some (L ps))) else .no) G F S := q
      by_cases hl : m < vw.length ∧ ps.length ≤ sizeLine
      · rw [if_pos hl] at q'
        refine ⟨hσ n rfl, F, x, ps, rx, e, fun vs hvs hp => ⟨by rw [← (hvs F fun _ h => h).length]; exact hl.2, fun l hn => ?_⟩⟩
        have rp : Rp X.K (upd G l (.lst vs)) F (L ps) (.ref l) (one l) := ⟨l, vs, f0, rfl, upd_same, (hvs F fun _ h => h).keep (kp_upd hn), fun b => rfl⟩
        have gn := new_gd1 (S1 := f0) (o := .lst vs) hn True.intro (gd_zero g)
        rw [fadd_zero] at gn
        obtain ⟨S3, l3, v3⟩ := (rv.keep (kp_upd (o := .lst vs) hn)).store hl.1 rp
        have lt : ∀ b, fadd (one l) S3 b ≤ fadd (one l) S b := fun b => Nat.add_le_add_left (l3 b) _
        refine q' _ _ F _ v3 (Fix.set hfx) (gn.sub lt) (new_step hn fun b z => ?_)
        by_cases c : b = l
        · exact .inr c
        · have z' : 0 < one l b + S3 b := z
          rw [one_ne c] at z'
          exact .inl (Nat.lt_of_lt_of_le (by omega) (l3 b))
      · rw [if_neg hl] at q'; exact q'.elim
/-- return (..) -/
def jAtT (ts : List At) : Xc → IS := fun x vw => match atVals x ts with
  | some ps => if ps.length ≤ sizeLine then .ok (.rt (T ps)) vw else .no
  | none => .no
theorem su_retT {n : Nat} {es : List Expr} {ts : List At} {k : Nat} {p1 p2 : Pos} (ha : AtA X n es ts) : SuS X fx (some n) [.Return (some (.Tuple es k p1)) p2] (jAtT ts) := fun a oe cls d pn hz hff =>
  (pss_one (ps_ret (pe_tup (ha a oe cls d pn hz hff)))).imp fun D τ G ⟨F, vw, S, x, rv, g, rx, hσ, q⟩ => by
    unfold jAtT at q
    cases e : atVals x ts with
    | none => rw [e] at q; exact q.elim
    | some ps =>
      rw [e] at q
      have q' : PoS X.K fx D τ (fun _ _ _ _ => False) (if ps.length ≤ sizeLine then .ok (.rt (T ps)) vw else .no) G F S := q
      by_cases hl : ps.length ≤ sizeLine
      · rw [if_pos hl] at q'
        refine ⟨hσ n rfl, F, x, ps, rx, e, fun vs hvs hp => ⟨by rw [← (hvs F fun _ h => h).length]; exact hl, fun l hn => ?_⟩⟩
        have rp : Rp X.K (upd G l (.tup vs)) F (T ps) (.ref l) f0 := ⟨l, vs, f0, rfl, upd_same, (hvs F fun _ h => h).keep (kp_upd hn), fun _ => rfl⟩
        exact q' _ _ _ F f0 S rp (rv.keep (kp_upd hn)) Fix.refl (new_gd hn (gd_zero g)) (new_step hn fun b z => .inl (by have z' : 0 < 0 + S b := z; omega))
      · rw [if_neg hl] at q'; exact q'.elim
end
end Bx
set_option Elab.async false
set_option linter.all false
set_option maxRecDepth 100000
set_option maxHeartbeats 4000000
/-! L4g: a lambda without parameters handed to a def that calls it once. -/
namespace Bx
open PySem PySem.Spec PyProof.Rows L2
variable [Tbs]
section
variable {X : Cx} {pins : List (Addr × Obj)} {σ : St} {H : Hp} {s : Shared}
/-- the context of a lambda's body -/
def LamC (X : Cx) (scope : Scope) (k : Nat) (E : XK) (Y : Cx) : Prop := ∃ (A : Around) (outer : List Env) (y : Shared) (G : Hp) (f c : Addr), Rg k (A.deeper (LamX.lamEnv X scope y.heap.objs.size f c)) ∧ Y = LamX.lamCx X A outer y G E scope f c
theorem LamC.takes {scope : Scope} {k : Nat} {E : XK} {Y : Cx} (h : LamC X scope k E Y) : Takes Y (fun cls d _ H => E cls d H) := by
  obtain ⟨A, outer, y, G, f, c, _, rfl⟩ := h
  exact takes_of (E₁ := fun e' y' => L2.CX X.prog X.w outer G y E e' y') rfl rfl rfl rfl
/-- a(), in the def that was handed the lambda f -/
theorem pe_actG {Ng : List Str} {qg : Str} {sg : Scope} {g f c : Addr} {cdg pm ctv : Value} {params : Arguments} {body : Expr} {scope : Scope} {k i : Nat} {a : Str} {pn : List (Addr × Obj)} {xe : Value → Shared → Prop} {W : WX} {E0 : XK} {tb : XK → TE} {p1 p2 : Pos} {Z : Cx}
    (eZ : Z = cxOf (L2.CX X.prog X.w) X.prog X.w X.K X.mg X.base Ng qg sg g cdg X.A X.stack s H E0) (I : Inv X pins σ H s) (L : LamX.LamS X.env.scope scope) (hf : s.heap.get? f = some (PySem.W.kla_obj "<lambda>" (X.env.qual ++ "<lambda>") params body scope (cloFrom X.env.cells scope.names []) pm c ctv)) (hfn : H f = none) (hfr : f ∉ frs X.stack)
    (hbind : bindArgs (PySem.W.kla_fn "<lambda>" (X.env.qual ++ "<lambda>") params body scope (cloFrom X.env.cells scope.names []) pm (.ref c) ctv) ⟨[], []⟩ = pure []) (tk : Takes (Z.tr pn xe) W) (hr : Rg (k + 1) Z.A)
    (hbody : ∀ (E : XK) (Y : Cx), LamC X scope k E Y → PE Y body (tb E)) (hN : Ng[i]? = some a) (hv : Vis sg a) (hd : (a == ("__debug__" : Str)) = false := by decide) (hcd : (a == ("__classdict__" : Str)) = false := by decide) :
    PE (Z.tr pn xe) (.Call (.Name a p1) [] [] p2) (fun τ G Q => τ[i]? = some (some (.ref f)) ∧ G c = some (LamX.CodeO c (X.env.qual ++ "<lambda>")) ∧ tb (WE W τ) σ G Q) := by
  subst eZ
  refine ⟨fun pz z τ G Q IZ ⟨hs, hc, ht⟩ => wpAny_Call_Name_kw (thn ((pe_var (pos := p1) (i := i) hN hv hd hcd).run pz z τ G (fun v G1 => v = .ref f ∧ G1 = G) IZ ⟨.ref f, hs, rfl, rfl⟩) fun u z1 ⟨v, G1, I1, r1, ev, eG⟩ => ?_)⟩
  subst ev
  rw [eG] at I1
  obtain rfl : u = Value.ref f := r1
  have of1 : z1.heap.get? f = some (PySem.W.kla_obj "<lambda>" (X.env.qual ++ "<lambda>") params body scope (cloFrom X.env.cells scope.names []) pm c ctv) := I1.base.keep f _ hf hfn hfr (fun w => nomatch (show f ∈ ([] : List Addr) from w))
  obtain ⟨⟨oc, vs, t, hoc, hdc, hvc⟩, _, _⟩ := I1.hok c _ hc
  have kept : Un (frs X.stack) [] H G s.heap z1.heap := I1.base
  have run1 : codeAny (model X.prog X.w) (X.A.deeper (envOfC qg sg s.heap.objs.size g cdg)) (.call (.ref f) ⟨[], []⟩) (CR (L2.CX X.prog X.w) (envOfC qg sg s.heap.objs.size g cdg :: X.stack) X.prog X.w G z1 Q (WE W τ)) z1 := by
    refine PySem.W.kla_callFunE hr.room.depth of1 rfl L.co L.gen rfl ⟨c, oc, vs, t, rfl, hoc, hdc, hvc⟩ ?_
    rw [hbind]
    refine wpAny_pure (wpAny_newFunctionEnv (fun y hy => (L.own y hy).2) (fun y hy => absurd hy (by simp)) (fun h₁ hns hsb => ⟨I1.nolimit.fresh _ hsb, ?_⟩) L.kind)
    have keep1 : ∀ b o, z1.heap.get? b = some o → h₁.get? b = some o := fun b o e => hsb.extBut b o (Nat.ne_of_lt (Heap.lt_size e)) (Heap.get?_push_of_some _ e)
    have J := LamX.lam_start2 (E := WE W τ) (f := f) (c' := c) (tk := z1.toks + 0) I L I1.env0 hr.room.hd kept hns keep1
    refine PySem.W.kla_codeExpr (wpAny_mono ((hbody (WE W τ) _ ⟨_, _, z1, G, f, c, ⟨hr.room.deeper _, hr.gd⟩, rfl⟩).run [] _ _ G Q J ht) (fun v z' hq => ?_) fun e z' hq => hq)
    obtain ⟨w', G', J', rv, q⟩ := hq
    exact ⟨w', G', J'.os, J'.bare, J'.base, J'.hok, rv, q⟩
  refine PySem.W.callWith_F0 ⟨_, _, _, _, of1⟩ (wpAny_call (codeAny_mono run1 fun r z' hq => ?_))
  match r, hq with
  | .error e, hq => exact passAt tk τ pz G z1 e z' I1 hq
  | .ok (.ret u), hq => exact I1.after hq
  | .ok .next, hq => exact False.elim hq
  | .ok .brk, hq => exact False.elim hq
  | .ok .cont, hq => exact False.elim hq
end
/-! ### the def that calls it -/
abbrev Wf : WX := fun _ _ _ _ => False
def fx0 : Nat → Bool := fun i => i == 0
/-- the context of its body -/
def HoC (P : Program) (w : World) (K : PySem.W.Frag) (mg : Str → Option Value) (base : Heap) (Ng : List Str) (x : Str) (sg : Scope) (g : Addr) (k : Nat) (Z : Cx) : Prop :=
  ∃ (cdg : Value) (A : Around) (outer : List Env) (s : Shared) (H : Hp), Rg k Z.A ∧ Z = cxOf (L2.CX P w) P w K mg base Ng x sg g cdg A outer s H (fun _ _ _ => False)
/-- its body: something, try: a() / except .., the rest -/
def HoD (P : Program) (w : World) (K : PySem.W.Frag) (mg : Str → Option Value) (base : Heap) (Ng : List Str) (x a : Str) (sg : Scope) (g : Addr) (k : Nat) (bg : List Stmt) (jpre jpost : IS) (l : List (Value × Option Nat × (Xc → IS))) : Prop :=
  ∀ Z, HoC P w K mg base Ng x sg g k Z → ∀ tB : WX → TE, (∀ (pn : List (Addr × Obj)) (xe : Value → Shared → Prop) (W : WX) (p1 p2 : Pos), Takes (Z.tr pn xe) W → PE (Z.tr pn xe) (.Call (.Name a p1) [] [] p2) (tB W)) →
    PSs Z bg (tSeq (tS K fx0 jpre Wf) (tSeq (fun D τ G => tB (wCl K Wf D (clauseTs K fx0 l)) τ G fun _ G1 => D.nx τ G1) (tS K fx0 jpost Wf)))
section
variable {P : Program} {w : World} {K : PySem.W.Frag} {mg : Str → Option Value} {base : Heap} {Ng : List Str} {x a : Str} {sg : Scope} {g : Addr} {k : Nat}
theorem hoD1 {st : Stmt} {post : List Stmt} {hd : ExceptHandler} {hds : List ExceptHandler} {l : List (Value × Option Nat × (Xc → IS))} {jpre jpost : IS} {p1 p2 ep tp : Pos} (hN : Ng.Nodup) (hpre : ∀ Z, HoC P w K mg base Ng x sg g k Z → SS Z fx0 st jpre) (hcl : ∀ Z, HoC P w K mg base Ng x sg g k Z → Cls' Z (hd :: hds) (clauseTs K fx0 l))
    (hpost : ∀ Z, HoC P w K mg base Ng x sg g k Z → SSs Z fx0 post jpost) : HoD P w K mg base Ng x a sg g k (st :: .Try [.Expr (.Call (.Name a p1) [] [] p2) ep] (hd :: hds) [] [] tp :: post) jpre jpost l := fun Z hz tB hB => by
  have h1 := hpre Z hz
  have h2 := hcl Z hz
  have h3 := hpost Z hz
  obtain ⟨cdg, A, outer, s, H, hr, rfl⟩ := hz
  exact pss_cons (h1 Wf takes_no) (pss_cons ((ps_tryA (tb := fun W D τ G => tB W τ G fun _ G1 => D.nx τ G1) (Wo := Wf) rfl rfl hN takes_no h2 fun W pn xe tk hp => pss_one (ps_expr (hB pn xe W p1 p2 tk)))) (h3 Wf takes_no))
theorem hoD0 {post : List Stmt} {hd : ExceptHandler} {hds : List ExceptHandler} {l : List (Value × Option Nat × (Xc → IS))} {jpost : IS} {p1 p2 ep tp : Pos} (hN : Ng.Nodup) (hcl : ∀ Z, HoC P w K mg base Ng x sg g k Z → Cls' Z (hd :: hds) (clauseTs K fx0 l))
    (hpost : ∀ Z, HoC P w K mg base Ng x sg g k Z → SSs Z fx0 post jpost) : HoD P w K mg base Ng x a sg g k (.Try [.Expr (.Call (.Name a p1) [] [] p2) ep] (hd :: hds) [] [] tp :: post) jNx jpost l := fun Z hz tB hB => by
  have h2 := hcl Z hz
  have h3 := hpost Z hz
  obtain ⟨cdg, A, outer, s, H, hr, rfl⟩ := hz
  refine PSs.imp (pss_cons ((ps_tryA (tb := fun W D τ G => tB W τ G fun _ G1 => D.nx τ G1) (Wo := Wf) rfl rfl hN takes_no h2 fun W pn xe tk hp => pss_one (ps_expr (hB pn xe W p1 p2 tk)))) (h3 Wf takes_no)) fun D τ G h => ?_
  obtain ⟨F, vw, S, hv, gd, q⟩ := h
  exact q τ G F S hv Fix.refl gd Step.refl
end
/-- the whole, as a value -/
def lamFin (vw' : Vw) : R Sr → R PV
  | .ok .nx _ => .ok .non vw'
  | .ok (.rt q) _ => .ok q vw'
  | _ => .no
def lamPost (jpost : IS) (vw' : Vw) : R Sr → R PV
  | .ok .nx z => lamFin vw' (jpost z)
  | .ok (.rt q) _ => .ok q vw'
  | _ => .no
def iLam (kit : Value → Value → Option Bool) (n : Nat) (jpre jpost : IS) (l : List (Value × Option Nat × (Xc → IS))) (i : IE) : IE := fun vw => match jpre (List.replicate n none) with
  | .ok .nx z1 => (match i vw with
    | .no => .no
    | .ok _ vw' => lamFin vw' (jpost z1)
    | .exc x vw' => lamPost jpost vw' (jClauses kit l x z1))
  | _ => .no
theorem rvw_nones {K : PySem.W.Frag} {H : Hp} {F : Fz} : ∀ (σ : St), Rvw K H F (List.replicate σ.length none) σ f0
  | [] => ⟨rfl, fun _ => rfl⟩
  | x :: σ => ⟨x, σ, rfl, rvw_nones σ⟩
section
variable {K : PySem.W.Frag} {σ τ : St} {H : Hp} {F : Fz} {S S2 : Fp} {vw' : Vw} {Q : VK} {W : WX} {jpost : IS} {D : Ends}
/-- behind the def's end: what the caller has is there -/
theorem lam_end {r : R Sr} {S0 : Fp} {D : Ends} (hD : D.rt = Q) (hn : D.nx = fun _ G => Q .non G) (h : Po (rlE K) K σ W Q (lamFin vw' r) H F S0) (hv : Rvw K H F vw' σ S) (g : Gd H F (fadd S S2)) (lt : ∀ b, S b + S2 b ≤ S0 b) : PoS K fx0 D τ Wf r H F S2 := by
  have back : ∀ {p : PV} {v : V} {H' : Hp} {F' : Fz} {T1 T2 : Fp}, Po (rlE K) K σ W Q (.ok p vw') H F S0 → Rp K H' F' p v T1 → Gd H' F' (fadd T1 T2) → Step H F S2 H' F' (fadd T1 T2) → Q v H' := fun {p v H' F' T1 T2} q rp g' st => by
    have g2 := g.frame st g'
    have kp := Kp.of g st
    have le : ∀ b, fadd T1 S b ≤ fadd S (fadd T1 T2) b := fun b => by show T1 b + S b ≤ S b + (T1 b + T2 b); omega
    refine q v H' F' T1 S rp (hv.keep kp) (g2.sub le) ((Step.refl.sub (T := fadd S S2) lt).trans (st.frame.sub le))
  cases r with
  | no => exact h
  | exc x z => exact False.elim h
  | ok o z =>
    cases o with
    | bk => exact False.elim h
    | ct => exact False.elim h
    | nx =>
      intro σ' H' F' U a b c d
      rw [hn]
      exact back (T1 := f0) (T2 := U) h ⟨rfl, fun _ => rfl⟩ (gd_zero c) (by rw [fz_add]; exact d)
    | rt q =>
      intro v σ' H' F' U1 U2 a b c d e
      rw [hD]
      exact back h a d e
end
theorem gd_ext {H H1 : Hp} {F : Fz} {S : Fp} (e : LamX.ExtN H H1) (t : LamX.Tabs Tbs.l H1) (g : Gd H F S) : Gd H1 F S ∧ Step H F S H1 F S := by
  have nf : ∀ a, ¬ Fre H a → ¬ Fre H1 a := fun a h z => by
    cases q : H a with
    | none => exact h (.inl q)
    | some o =>
      by_cases ho : ∃ ps, o = .tbl ps
      · obtain ⟨ps, rfl⟩ := ho
        exact h (.inr ⟨ps, q⟩)
      · exact ho (z.eq (e a o q fun ps h => ho ⟨ps, h⟩))
  refine ⟨⟨g.le, g.nf, fun a z => ?_, fun a z => nf a (g.fr a z), t⟩, ⟨fun a o h _ n => e a o h n, fun a z => .inl z, fun _ z => z, fun _ z => .inl z⟩⟩
  have m := g.mu a z
  obtain ⟨o, eo⟩ := Mut.some m
  rw [e a o eo (fun ps h => by rw [eo, h] at m; exact m), ← eo]
  exact m
section
variable {X : Cx}
/-- x(lambda: body) -/
theorem se_lam {x a : Str} {g c P : Addr} {k : Nat} {pg params : Arguments} {bg : List Stmt} {sg scope : Scope} {fdg : FuncData} {Ng : List Str} {body : Expr} {p lpos pos : Pos} {kit : Value → Value → Option Bool} {jpre jpost : IS} {l : List (Value × Option Nat × (Xc → IS))} {i : IE}
    (Fg : FunD X.K x x pg bg sg [] [] g fdg) (hb : Binds X.K fdg [a] []) (Sg : FnScope Ng [a] sg) (hNg : Ng[0]? = some a) (hva : Vis sg a) (hG : HoD X.prog X.w X.K X.mg X.base Ng x a sg g (k + 1) bg jpre jpost l)
    (hk : ∀ t c b, kit t c = some b → PySem.W.exmOne X.K t c = some b) (hfx : fxOk fx0 Ng.length l = true) (hm : X.mg x = some (.ref g)) (TB : LamX.TabB X.base X.mg c P) (hcode : X.env.code = .ref c) (hmT : (P, X.env.qual ++ "<lambda>") ∈ Tbs.l) (hu : ∀ p ∈ Tbs.l, p.1 = P → p.2 = X.env.qual ++ "<lambda>")
    (hr : Rg (k + 2) X.A) (L : LamX.LamS X.env.scope scope) (hdef : defaultsOf params X.env = ([], [])) (hbind : ∀ (q : Str) (cl : List (Str × Addr)) (pm cv ctv : Value), bindArgs (PySem.W.kla_fn "<lambda>" q params body scope cl pm cv ctv) ⟨[], []⟩ = pure [])
    (hi : ∀ E Y, LamC X scope k E Y → SE Y body i) (hg : Gl X x := by rfl) (hdb : (x == ("__debug__" : Str)) = false := by decide) (hd : (a == ("__debug__" : Str)) = false := by decide) (hcd : (a == ("__classdict__" : Str)) = false := by decide) :
    SE X (.Call (.Name x p) [.Lambda params body scope lpos] [] pos) (iLam kit Ng.length jpre jpost l i) := fun W tk => by
  refine ⟨fun pins s σ H Q I h => ?_⟩
  obtain ⟨F, vw, S, hv, gd, h⟩ := h
  refine wpAny_Call_Name_kw (ld_glob I hg hm (PySem.W.callWith_K (h₀ := X.base) I.ok.mod.kin Fg.kp ?_ (by rfl) (by rfl)) hdb)
  show wpAny _ _ (spliced ((false, eval (.Lambda params body scope lpos) X.env) :: backTo pos (starEach [] X.env))) _ _ s
  refine Calls.spliced_cons (LamX.lam_make2 I TB hcode hmT hu gd.tb hdef (L.has I.ok) fun f c' pm' ctv H1 s' I1 eN T1 hf hfn hfr hco => Calls.spliced_nil ⟨I1.kIn, ?_⟩)
  obtain ⟨gd1, st1⟩ := gd_ext eN T1 gd
  have hv1 : Rvw X.K H1 F vw σ S := hv.keep (Kp.of (T := S) (S := f0) (by rw [fadd_zero]; exact gd) ⟨fun a o e _ n => eN a o e n, fun a z => .inl z, fun _ z => z, fun _ z => .inl z⟩)
  have h1 : Po (rlE X.K) X.K σ W Q (iLam kit Ng.length jpre jpost l i vw) H1 F S := Po.stp st1 h
  clear h hv gd st1 eN T1
  obtain ⟨oc, od, dV, kV, doc, pm, an, cdv, ct, osl, rfl, lk, hcg, _, _⟩ := Fg.ex
  have bd := hb s' [.ref f] I1.kIn rfl
  rw [List.append_nil] at bd
  have rc : codeAny (model X.prog X.w) X.A (.call (.ref g) ⟨[.ref f], []⟩) (CR (L2.CX X.prog X.w) X.stack X.prog X.w H1 s' Q (fun _ _ _ => False)) s' := by
    refine LamX.run_ofS (N := Ng) (ps := [a]) (us := [.ref f]) (vs := [.ref f]) lk hcg Sg hr.room I1.env0 bd (.cons rfl .nil) rfl fun hr' => ?_
    have hz : HoC X.prog X.w X.K X.mg X.base Ng x sg g (k + 1) (cxOf (L2.CX X.prog X.w) X.prog X.w X.K X.mg X.base Ng x sg g cdv X.A X.stack s' H1 (fun _ _ _ => False)) := ⟨cdv, X.A, X.stack, s', H1, ⟨hr', hr.gd⟩, rfl⟩
    refine ⟨_, hG _ hz (fun W' τ G Q' => τ[0]? = some (some (.ref f)) ∧ G c' = some (LamX.CodeO c' (X.env.qual ++ "<lambda>")) ∧ tE X.K i (fun cls d _ G' => W' cls d τ G') σ G Q') (fun pn xe W' p1 p2 tk' =>
      pe_actG (tb := fun E => tE X.K i (fun cls d _ G' => E cls d G')) rfl I1 L hf hfn hfr (hbind _ _ _ _ _) tk' ⟨hr', hr.gd⟩ (fun E Y hy => by
        have he := hi E Y hy _ hy.takes
        obtain ⟨_, _, _, _, _, _, _, rfl⟩ := hy
        exact he) hNg hva hd hcd), ?_⟩
    -- the reading
    have hlen : (L2.start Ng [V.ref f]).length = Ng.length := by
      have : [a].length ≤ Ng.length := by have := congrArg List.length Sg.pre; simp at this; simp; omega
      unfold L2.start
      simp at this ⊢
      omega
    have f00 : (L2.start Ng [V.ref f])[0]? = some (some (.ref f)) := rfl
    unfold iLam at h1
    cases e1 : jpre (List.replicate Ng.length none) with
    | no => rw [e1] at h1; exact h1.elim
    | exc x z => rw [e1] at h1; exact h1.elim
    | ok o z1 =>
      cases o with
      | bk => rw [e1] at h1; exact h1.elim
      | ct => rw [e1] at h1; exact h1.elim
      | rt q => rw [e1] at h1; exact h1.elim
      | nx =>
        rw [e1] at h1
        simp only at h1
        refine ⟨F, List.replicate Ng.length none, f0, by rw [← hlen]; exact rvw_nones _, gd1.sub fun _ => Nat.zero_le _, ?_⟩
        rw [e1]
        intro τ H2 F2 S2 rz fz g2 st2
        -- behind what stands ahead of the try
        have gd1' : Gd H1 F (fadd S f0) := by rw [fadd_zero]; exact gd1
        have gd2 := gd1'.frame st2 g2
        have hv2 := hv1.keep (Kp.of gd1' st2)
        have sf2 : Step H1 F S H2 F2 (fadd S S2) := by have := st2.frame (T := S); rw [fadd_zero] at this; exact this
        have co2 : H2 c' = some (LamX.CodeO c' (X.env.qual ++ "<lambda>")) := st2.kp c' _ hco rfl LamX.codeO_ne
        have tau0 : τ[0]? = some (some (.ref f)) := by rw [fz.2 0 rfl]; exact f00
        refine ⟨tau0, co2, F2, vw, S, hv2, gd2.sub fun _ => Nat.le_add_right _ _, ?_⟩
        cases e2 : i vw with
        | no => rw [e2] at h1; exact h1.elim
        | ok p0 vw' =>
          rw [e2] at h1
          intro v H3 F3 T1 T2 rp hv3 g3 st3
          have gc2 : Gd H2 F2 (fadd S2 S) := by rw [fadd_comm]; exact gd2
          have rz3 := rz.keep (Kp.of gc2 st3)
          have g3' := gc2.frame st3 g3
          have g4 : Gd H3 F3 (fadd T2 S2) := g3'.sub fun b => by show T2 b + S2 b ≤ S2 b + (T1 b + T2 b); omega
          have sf3 : Step H1 F S H3 F3 (fadd S2 (fadd T1 T2)) := sf2.trans (by rw [fadd_comm]; exact st3.frame)
          refine ⟨F3, z1, S2, rz3, g4.sub fun _ => Nat.le_add_left _ _, ?_⟩
          exact lam_end rfl rfl (Po.stp sf3 h1) hv3 g4 fun b => by show T2 b + S2 b ≤ S2 b + (T1 b + T2 b); omega
        | exc y vw' =>
          rw [e2] at h1
          intro cls d H3 F3 T2 rx hv3 g3 st3
          have gc2 : Gd H2 F2 (fadd S2 S) := by rw [fadd_comm]; exact gd2
          have rz3 := rz.keep (Kp.of gc2 st3)
          have g3' := gc2.frame st3 g3
          have g4 : Gd H3 F3 (fadd T2 S2) := by rw [fadd_comm]; exact g3'
          have sf3 : Step H1 F S H3 F3 (fadd S2 T2) := sf2.trans (by rw [fadd_comm]; exact st3.frame)
          have h3 : Po (rlE X.K) X.K σ W Q (lamPost jpost vw' (jClauses kit l y z1)) H3 F3 (fadd S2 T2) := Po.stp sf3 h1
          refine wCl_ok (m := Ng.length) hk hfx (by rw [fz.1, hlen]) rx rz3 (g4.sub fun _ => Nat.le_add_left _ _) ?_
          generalize jClauses kit l y z1 = r at h3
          cases r with
          | no => exact h3
          | exc _ _ => exact False.elim h3
          | ok o z2 =>
            cases o with
            | bk => exact False.elim h3
            | ct => exact False.elim h3
            | nx =>
              intro τ5 H5 F5 S5 rz5 fz5 g5 st5
              have hv5 := hv3.keep (Kp.of g4 st5)
              have g6 := g4.frame st5 g5
              have lt : ∀ b, fadd T2 S2 b ≤ fadd S2 T2 b := fun b => by show T2 b + S2 b ≤ S2 b + T2 b; omega
              refine ⟨F5, z2, S5, rz5, g5, ?_⟩
              exact lam_end rfl rfl (Po.stp ((Step.refl.sub lt).trans st5.frame) h3) hv5 g6 fun b => Nat.le_refl _
            | rt q =>
              have e := lam_end (K := X.K) (τ := τ) (D := { nx := fun _ G => Q .non G, rt := Q }) (r := .ok (.rt q) z2) rfl rfl h3 hv3 g4 fun b => by show T2 b + S2 b ≤ S2 b + T2 b; omega
              exact e
  refine wpAny_call (codeAny_mono rc fun r s2 hq => ?_)
  match r, hq with
  | .error e, hq => exact (by obtain ⟨_, _, _, _, _, _, _, _, _, _, _, _, z⟩ := hq; exact z.elim)
  | .ok (.ret u), hq => exact I1.after hq
  | .ok .next, hq => exact False.elim hq
  | .ok .brk, hq => exact False.elim hq
  | .ok .cont, hq => exact False.elim hq
end
end Bx
set_option Elab.async false
set_option linter.all false
set_option maxRecDepth 100000
set_option maxHeartbeats 4000000
/-! L4h: module names, chains, calls of handed defs, dict displays, small methods. -/
namespace Bx
open PySem PySem.Spec PyProof.Rows L2
variable [Tbs]
section
variable {X : Cx} {pos : Pos}
theorem gd_same {H H' : Hp} {F : Fz} {S : Fp} (e : Same H H') (g : Gd H F S) : Gd H' F S ∧ Step H F S H' F S :=
  ⟨⟨g.le, g.nf, fun a z => by
    obtain ⟨o, eo⟩ := Mut.some (g.mu a z)
    rw [e a o eo, ← eo]; exact g.mu a z, fun a z => nfre_same e (g.fr a z), tabs_same e g.tb⟩, ⟨fun a o h _ _ => e a o h, fun a z => .inl z, fun _ z => z, fun _ z => .inl z⟩⟩
/-- a name of the module -/
theorem se_glob {x : Str} {v : V} {p : PV} (hm : ∃ u, X.mg x = some u ∧ RelV v u) (r : ∀ H F, Rp X.K H F p v f0) (hg : Gl X x := by rfl) (hd : (x == ("__debug__" : Str)) = false := by decide) : SE X (.Name x pos) (iC p) := by
  obtain ⟨u, hm, ru⟩ := hm
  exact se_of (pe_glob hg hm ru hd) r
theorem se_gstr {x z : Str} (hm : ∃ t, X.mg x = some (.str z t)) (hz : PyData.strOk z = true := by decide +kernel) (hg : Gl X x := by rfl) (hd : (x == ("__debug__" : Str)) = false := by decide) : SE X (.Name x pos) (iC (.str z)) := by
  obtain ⟨t, hm⟩ := hm
  exact se_glob (v := .str z) ⟨_, hm, ⟨t, rfl⟩⟩ (fun _ _ => ⟨rfl, hz, fun _ => rfl⟩) hg hd
theorem se_gint {x : Str} {i : Int} (hm : ∃ t, X.mg x = some (.int i t)) (hg : Gl X x := by rfl) (hd : (x == ("__debug__" : Str)) = false := by decide) : SE X (.Name x pos) (iC (.int i)) := by
  obtain ⟨t, hm⟩ := hm
  exact se_glob (v := .int i) ⟨_, hm, ⟨t, rfl⟩⟩ (fun _ _ => ⟨rfl, fun _ => rfl⟩) hg hd
/-- a def, a class of the module as a value -/
theorem se_gref {x : Str} {a : Addr} (hm : X.mg x = some (.ref a)) (hg : Gl X x := by rfl) (hd : (x == ("__debug__" : Str)) = false := by decide) : SE X (.Name x pos) (iC (.ref a)) :=
  se_glob (v := .ref a) ⟨_, hm, rfl⟩ (fun _ _ => ⟨rfl, fun _ => rfl⟩) hg hd
/-- a built-in type as a value -/
theorem se_ty {x : Str} {n : String} (hm : X.mg x = none) (hv : bootBuiltins x = some (.type n) := by kernel_rfl) (hg : Gl X x := by rfl) (hn : x ≠ "__name__" := by decide) (hd : (x == ("__debug__" : Str)) = false := by decide) : SE X (.Name x pos) (iC (.ty n)) :=
  se_of (v := .ty n) (pe_bltn hg hm hv rfl hn hd) fun _ _ => ⟨rfl, fun _ => rfl⟩
/-! ### a op b op' c -/
def chain2 (g : List PV → Option PV) (ic : IE) (y : PV) (b : PV) (vw : Vw) : R PV := match b with
  | .bl true => (ic vw).bind fun z vw3 => match g [y, z] with
    | some (.bl k) => .ok (.bl k) vw3
    | _ => .no
  | .bl false => .ok (.bl false) vw
  | _ => .no
def chain1 (f g : List PV → Option PV) (ic : IE) (x y : PV) (vw : Vw) : R PV := match f [x, y] with
  | some b => chain2 g ic y b vw
  | none => .no
def iChain (f g : List PV → Option PV) (ia ib ic : IE) : IE := fun vw => (ia vw).bind fun x vw1 => (ib vw1).bind fun y vw2 => chain1 f g ic x y vw2
theorem rq_2 {K : PySem.W.Frag} {H : Hp} {F : Fz} {p q : PV} {v u : V} {S S' : Fp} (h : Rp K H F p v S) (g : Rp K H F q u S') : Rq K H F [p, q] [v, u] := ⟨v, [u], rfl, ⟨S, h⟩, u, [], rfl, ⟨S', g⟩, rfl⟩
theorem chain_ok {a b c : Expr} {ia ib ic : IE} {r r' : R2} {f g : List PV → Option PV} {W : WX} {σ : St} {H : Hp} {Q : VK} (hf : OpS X (r2l r) f) (hg : OpS X (r2l r') g) (h : tE X.K (iChain f g ia ib ic) W σ H Q) : tChain r r' (tE X.K ia W) (tE X.K ib W) (tE X.K ic W) σ H Q := by
  obtain ⟨F, vw, S, hv, gd, h⟩ := h
  let O := oblX (rlE X.K) X.K σ W Q
  refine run (T := f0) (rlE X.K) O hv (gd_zero gd) (by rw [fz_add]; exact h) fun x vw1 v H1 F1 S1 S2 r1 v1 g1 _ q1 => ?_
  rw [fz_add] at g1 q1
  refine run (T := S1) (rlE X.K) O v1 g1 q1 fun y vw2 u H2 F2 T1 T2 r2 v2 g2 k2 q2 => ?_
  have r1' : Rp X.K H2 F2 x v S1 := Rp.keep r1 k2
  have q2' : O.p (chain1 f g ic x y vw2) H2 F2 (fadd S1 (fadd T1 T2)) := q2
  unfold chain1 at q2'
  cases e : f [x, y] with
  | none => rw [e] at q2'; exact (O.no q2').elim
  | some b =>
    rw [e] at q2'
    refine hf [x, y] [v, u] b H2 F2 _ (rq_2 r1' r2) e fun w H3 S3 sm rw' _ _ => ?_
    have g2' : Gd H2 F2 (fadd T1 T2) := g2.sub fun _ => Nat.le_add_left _ _
    obtain ⟨g3, st3⟩ := gd_same sm g2'
    have r2' : Rp X.K H3 F2 y u T1 := Rp.keep r2 (same_kp sm)
    have v3 := v2.keep (same_kp sm)
    have q3 : O.p (chain2 g ic y b vw2) H3 F2 (fadd T1 T2) := O.stp ((Step.refl.sub fun _ => Nat.le_add_left _ _).trans st3) q2'
    cases b with
    | bl k =>
      obtain ⟨rfl, _⟩ := rw'
      refine ⟨k, rfl, ?_⟩
      cases k with
      | false =>
        show if false = true then _ else Q (.bl false) H3
        rw [if_neg Bool.false_ne_true]
        exact (show Po (rlE X.K) X.K σ W Q (.ok (.bl false) vw2) H3 F2 (fadd T1 T2) from q3) _ H3 F2 f0 T2 ⟨rfl, fun _ => rfl⟩ v3 (gd_zero (g3.sub fun _ => Nat.le_add_left _ _)) (by rw [fz_add]; exact Step.refl.sub fun _ => Nat.le_add_left _ _)
      | true =>
        show if true = true then _ else _
        rw [if_pos rfl]
        refine run (T := T1) (rlE X.K) O v3 g3 q3 fun z vw4 t H4 F4 U1 U2 r4 v4 g4 k4 q4 => ?_
        have r2'' : Rp X.K H4 F4 y u T1 := Rp.keep r2' k4
        have q4' : O.p (match g [y, z] with
          | some (.bl k) => .ok (.bl k) vw4
          | _ => .no) H4 F4 (fadd T1 (fadd U1 U2)) := q4
        cases e2 : g [y, z] with
        | none => rw [e2] at q4'; exact (O.no q4').elim
        | some b2 =>
          rw [e2] at q4'
          cases b2 with
          | bl k =>
            refine hg [y, z] [u, t] (.bl k) H4 F4 _ (rq_2 r2'' r4) e2 fun w5 H5 S5 sm5 rw5 _ _ => ?_
            obtain ⟨rfl, _⟩ := rw5
            have g4' : Gd H4 F4 U2 := g4.sub fun b => by show U2 b ≤ T1 b + (U1 b + U2 b); omega
            obtain ⟨g5, st5⟩ := gd_same sm5 g4'
            exact (show Po (rlE X.K) X.K σ W Q (.ok (.bl k) vw4) H4 F4 (fadd T1 (fadd U1 U2)) from q4') _ H5 F4 f0 U2 ⟨rfl, fun _ => rfl⟩ (v4.keep (same_kp sm5)) (gd_zero g5) (by rw [fz_add]; exact (Step.refl.sub fun b => by show U2 b ≤ T1 b + (U1 b + U2 b); omega).trans st5)
          | _ => exact (O.no q4').elim
    | _ => exact (O.no q3).elim
theorem se_chain {a b c : Expr} {ia ib ic : IE} {op op' : CmpOp} {r r' : R2} {f g : List PV → Option PV} (ho : OpR X (compareOp op) r) (hf : OpS X (r2l r) f) (ho' : OpR X (compareOp op') r') (hg : OpS X (r2l r') g) (ha : SE X a ia) (hb : SE X b ib) (hc : SE X c ic)
    (hm : lastMarks [op, op'] [b, c] = false := by with_unfolding_all rfl) : SE X (.Compare a [op, op'] [b, c] pos) (iChain f g ia ib ic) := fun W tk =>
  (pe_chain ho ho' (ha W tk) (hb W tk) (hc W tk) hm).imp fun σ H Q q => chain_ok (a := a) (b := b) (c := c) hf hg q
theorem st_chain {a b c : Expr} {ia ib ic : IE} {op op' : CmpOp} {r r' : R2} {f g : List PV → Option PV} (ho : OpR X (compareOp op) r) (hf : OpS X (r2l r) f) (ho' : OpR X (compareOp op') r') (hg : OpS X (r2l r') g) (ha : SE X a ia) (hb : SE X b ib) (hc : SE X c ic)
    (hm : lastMarks [op, op'] [b, c] = false := by with_unfolding_all rfl) : ST X (.Compare a [op, op'] [b, c] pos) (iB (iChain f g ia ib ic)) := fun W tk =>
  (pt_chain ho ho' (ha W tk) (hb W tk) (hc W tk) hm).imp fun σ H Q q => chain_ok (a := a) (b := b) (c := c) hf hg (ib_ok q)
end
end Bx
set_option Elab.async false
set_option linter.all false
set_option maxRecDepth 100000
set_option maxHeartbeats 4000000
/-! L4i: texts times ints, calls of handed defs, dict displays, small methods. -/
namespace Bx
open PySem PySem.Spec PyProof.Rows L2
variable [Tbs]
section
variable {X : Cx} {pos : Pos}
/-! ### text * int -/
def rMulS : R2 := fun x y H Q => ∃ i n, x = .str i ∧ y = .int n ∧ 0 ≤ n ∧ n ≤ 1000 ∧ i.length ≤ 1000 ∧ Q (.str (Txt.mul i n)) H
theorem op_mulS : OpR X (binaryOp .Mult) rMulS := by
  intro pins s σ H x y v u Q I rx ry h
  obtain ⟨i, n, rfl, rfl, h1, h2, h3, q⟩ := h
  obtain ⟨t, rfl⟩ := rx
  obtain ⟨t', rfl⟩ := ry
  have hs := sizeLine_eq
  refine SB.mul ⟨?_, fun _ _ => ?_, fun _ _ => (show decide (_ > sizeLine) = false from decide_eq_false (Nat.not_lt.mpr ?_))⟩ fun t' k => ⟨.str _, H, I.tok _, ⟨t', rfl⟩, q⟩
  · rw [Bool.or_eq_false_iff]
    exact ⟨decide_eq_false (by omega), decide_eq_false (by omega)⟩
  · have : (1000 : Int) ≤ (2 ^ 63 - 1) / n := by
      by_cases h0 : n = 0
      · omega
      · exact (Int.le_ediv_iff_mul_le (by omega)).mpr (by omega)
    omega
  · have : n.toNat ≤ 1000 := by omega
    have := Nat.mul_le_mul h3 this
    omega
theorem foldl_mem {c : Nat} {y : Array Nat} : ∀ {m : Nat} {acc : Array Nat}, c ∈ (List.replicate m y).foldl (· ++ ·) acc → c ∈ acc ∨ c ∈ y
  | 0, acc, h => .inl h
  | m + 1, acc, h => by
    rw [List.replicate_succ, List.foldl_cons] at h
    rcases foldl_mem h with h | h
    · exact Array.mem_append.mp h
    · exact .inr h
theorem strOk_mul {x : Str} {n : Int} (h : PyData.strOk x = true) : PyData.strOk (Txt.mul x n) = true := by
  unfold Txt.mul
  split
  · decide +kernel
  · split
    · exact h
    · rw [strOk_iff] at h ⊢
      intro c hc
      rcases foldl_mem hc with z | z
      · simp at z
      · exact h c z
def opMul2 : List PV → Option PV
  | [.str x, .int n] => if 0 ≤ n ∧ n ≤ 1000 ∧ x.length ≤ 1000 then some (.str (Txt.mul x n)) else none
  | ps => opMul ps
def rMul2 (K : PySem.W.Frag) : R2 := fun x y H Q => rMulAll K x y H Q ∨ rMulS x y H Q
theorem or_mul2 : OpR X (binaryOp .Mult) (rMul2 X.K) := OpR.or or_mulAll op_mulS
theorem os_mul2 : OpS X (r2l (rMul2 X.K)) opMul2 := by
  intro ps vs p H F Q rq e k
  unfold opMul2 at e
  split at e
  · split at e
    · rename_i hc
      cases e
      obtain ⟨v, u, S, S', rfl, ⟨rfl, h1, _⟩, rfl, _⟩ := rq2 rq
      exact .inr ⟨_, _, rfl, rfl, hc.1, hc.2.1, hc.2.2, kstr k (strOk_mul h1)⟩
    · cases e
  · have := os_mul (X := X) ps vs p H F Q rq e k
    match vs, this with
    | [x, y], this => exact .inl this
/-! ### s.upper() -/
def opUpper : List PV → Option PV
  | [.str x] => if x.length ≤ 5592405 ∧ PyData.strOk (Txt.upper x) = true then some (.str (Txt.upper x)) else none
  | _ => none
theorem se_m0 {o : Expr} {oo : Opd} {name : Str} {apos pos : Pos} {id : String} {r : V → List V → Hp → VK → Prop} {f : List PV → Option PV} (slot : Slot "str" name id) (ty : typeOf (.builtin id) = pure (.type "method_descriptor")) (rule : MtR X id r)
    (hf : OpS X (fun vs H Q => match vs with | x :: xs => r x xs H Q | _ => False) f) (ho : SO X o oo) (hbase : attributeBase o name X.env (eval o X.env) = eval o X.env := by rfl) (hline : (apos.endLine == pos.line) = true := by rfl) :
    SE X (.Call (.Attribute o name apos) [] [] pos) (iMt isStr f oo []) := fun W tk =>
  (pe_m0 slot ty rule (ho W tk) hbase hline).imp fun σ H Q q => imt_ok (os := []) (C := fun x _ => ∃ a, x = .str a) (fun _ _ _ _ _ r e => isStr_ok r e) hf q
theorem os_upper : OpS X (fun vs H Q => match vs with | x :: xs => (∃ a, x = .str a ∧ xs = [] ∧ a.length ≤ 5592405 ∧ Q (.str (Txt.upper a)) H) | _ => False) opUpper := by
  intro ps vs p H F Q rq e k
  unfold opUpper at e
  split at e
  · split at e
    · rename_i hc
      cases e
      obtain ⟨v, S, rfl, rfl, h1, _⟩ := rq1 (ps := []) rq
      exact ⟨_, rfl, rfl, hc.1, kstr k hc.2⟩
    · cases e
  · cases e
theorem se_upper {o : Expr} {oo : Opd} {apos pos : Pos} (ho : SO X o oo) (hbase : attributeBase o "upper" X.env (eval o X.env) = eval o X.env := by rfl) (hline : (apos.endLine == pos.line) = true := by rfl) :
    SE X (.Call (.Attribute o "upper" apos) [] [] pos) (iMt isStr opUpper oo []) := se_m0 F.slot_str_upper F.type_str_upper mt_upper os_upper ho hbase hline
/-! ### x(e, ..), x a name that was handed a def -/
def iCallV (n : Nat) (tab : Addr → Option (DF × List Bool)) (os : List Opd) : IE := fun vw => match vw[n]? with
  | some (some (.ref f)) => (match tab f with
    | some (D, fl) => (evO os vw).bind (callFin D fl)
    | none => .no)
  | _ => .no
theorem se_callV {k : Nat} {x : Str} {p : Pos} {e : Expr} {es : List Expr} {os : List Opd} {tab : Addr → Option (DF × List Bool)} (n : Nat) (ht : ∀ f D fl, tab f = some (D, fl) → ∃ fd ps, FnG X.prog X.w X.K X.mg X.base k f fd ps (spI X.K fl D) ∧ Binds X.K fd ps [] ∧ PySem.W.keepIn X.K (.ref f) = true) (hr : Rg k X.A) (ha : SOs X (e :: es) os)
    (hN : X.N[n]? = some x := by rfl) (hv : Vis X.env.scope x := by first | exact Or.inl rfl | exact Or.inr (Or.inl rfl) | exact Or.inr (Or.inr rfl)) (hd : (x == ("__debug__" : Str)) = false := by decide) (hcd : (x == ("__classdict__" : Str)) = false := by decide)
    (he : starEach (e :: es) X.env = (false, eval e X.env) :: starEach es X.env := by rfl) (hpl : (backTo pos (starEach es X.env)).any (·.1) = false := by rfl) : SE X (.Call (.Name x p) (e :: es) [] pos) (iCallV n tab os) := fun W tk => by
  refine ⟨fun pins s σ H Q I h => ?_⟩
  obtain ⟨F, vw, S, hvw, gd, h⟩ := h
  unfold iCallV at h
  split at h
  · rename_i f e1
    split at h
    · rename_i D fl e2
      obtain ⟨fd, ps, Fn, hb, hk⟩ := ht f D fl e2
      obtain ⟨v, S1, S2, hσ, _, ⟨rfl, _⟩, _⟩ := hvw.focus e1
      refine wpAny_Call_Name_kw (thn ((pe_var (pos := p) (i := n) hN hv hd hcd).run pins s σ H (fun v H1 => v = .ref f ∧ H1 = H) I ⟨.ref f, hσ, rfl, rfl⟩) fun u s1 ⟨v, H1, I1, r1, ev, eH⟩ => ?_)
      subst ev
      rw [eH] at I1
      obtain rfl : u = Value.ref f := r1
      have q := icall_ok (K := X.K) (W := W) (D := D) (fl := fl) (os := os) (H := H) (Q := Q) ⟨F, vw, S, hvw, gd, h⟩
      exact PySem.W.callWith_K (h₀ := X.base) I1.ok.mod.kin hk (thn ((ha W tk).run pos pins s1 σ H _ I1 q) fun us s2 ⟨vs, H2, I2, r, q⟩ => ⟨I2.kIn, run_m Fn hr hb tk I2 r q⟩) he hpl
    · exact h.elim
  · exact h.elim
/-! ### dict displays -/
def iDn (k : Kd) : IE := fun vw => .ok (.nd k true []) vw
theorem se_dnK : SE X (.Dict [] [] pos) (iDn (.dk [])) := fun W tk => pe_dnewK.imp fun σ H Q ⟨F, vw, S, hv, g, h⟩ => fun p hp =>
  h (.ref p) _ F (one p) S ⟨p, [], f0, rfl, ⟨rfl, upd_same⟩, Rps.nil, fun b => rfl⟩ (hv.keep (kp_upd hp)) (by have := new_gd1 (S1 := f0) (o := .dK []) hp True.intro (gd_zero g); rw [fadd_zero] at this; exact this) (new_step hp fun a z => by
    by_cases e : a = p
    · exact .inr e
    · have z' : 0 < one p a + S a := z
      rw [one_ne e] at z'
      exact .inl (by omega))
theorem se_dnT : SE X (.Dict [] [] pos) (iDn (.dt [])) := fun W tk => pe_dnewT.imp fun σ H Q ⟨F, vw, S, hv, g, h⟩ => fun p hp =>
  h (.ref p) _ F (one p) S ⟨p, [], f0, rfl, ⟨rfl, upd_same⟩, Rps.nil, fun b => rfl⟩ (hv.keep (kp_upd hp)) (by have := new_gd1 (S1 := f0) (o := .dT []) hp True.intro (gd_zero g); rw [fadd_zero] at this; exact this) (new_step hp fun a z => by
    by_cases e : a = p
    · exact .inr e
    · have z' : 0 < one p a + S a := z
      rw [one_ne e] at z'
      exact .inl (by omega))
def nodupS : List Str → Bool
  | [] => true
  | x :: xs => !(xs.contains x) && nodupS xs
def dispFin (ks : List Str) (ps : List PV) (vw : Vw) : R PV := if ps.length = ks.length then .ok (.nd (.dk (ks.map .inr)) true ps) vw else .no
def iDisp (ks : List Str) (is : List IE) : IE := fun vw => (evA is vw).bind (dispFin ks)
def trsOf (K : PySem.W.Frag) (W : WX) : List Str → List IE → List (TE × TE)
  | k :: ks, i :: is => (tC (.str k), tE K i W) :: trsOf K W ks is
  | _, _ => []
theorem runP' {K : PySem.W.Frag} {W : WX} {σ : St} {γ : Type} (O : Obl K W σ γ) : ∀ {ks : List Str} {is : List IE} {H : Hp} {F : Fz} {vw : Vw} {S T : Fp} {f : List PV → Vw → R γ} {Q' : List (V × V) → Hp → Prop}, ks.length = is.length → Rvw K H F vw σ S → Gd H F (fadd T S) →
    O.p ((evA is vw).bind f) H F (fadd T S) →
    (∀ ps vw' vs H' F' S1 S2, Rps K H' F' ps vs S1 → Rvw K H' F' vw' σ S2 → Gd H' F' (fadd T (fadd S1 S2)) → Kp H F H' F' T → O.p (f ps vw') H' F' (fadd T (fadd S1 S2)) → Q' ((ks.map V.str).zip vs) H') → tPairs (trsOf K W ks is) σ H Q'
  | [], [], H, F, vw, S, T, f, Q', hl, hv, g, h, k => k [] vw [] H F f0 S ⟨rfl, fun _ => rfl⟩ hv (by rw [fz_add]; exact g) ⟨fun a o e _ _ => e, fun a z => z⟩ (by rw [fz_add]; exact h)
  | [], _ :: _, _, _, _, _, _, _, _, hl, _, _, _, _ => by cases hl
  | _ :: _, [], _, _, _, _, _, _, _, hl, _, _, _, _ => by cases hl
  | key :: ks, i :: is, H, F, vw, S, T, f, Q', hl, hv, g, h, k => by
    unfold evA at h
    rw [R.bind_assoc] at h
    refine run (rlE K) O hv g h fun p vw1 v H1 F1 S1 S2 a b c d q => ?_
    rw [← fadd_assoc] at c q
    rw [R.bind_assoc] at q
    refine runP' O (by simpa using hl) b c q fun ps vw' vs H' F' T1 T2 a' b' c' d' q' => ?_
    have kt : Kp H1 F1 H' F' T := d'.mono fun b => Nat.le_add_right _ _
    have ks1 : Rp K H' F' p v S1 := Rp.keep a (d'.mono fun b => Nat.le_add_left _ _)
    have e : fadd (fadd T S1) (fadd T1 T2) = fadd T (fadd (fadd S1 T1) T2) := by rw [fadd_assoc, fadd_assoc]
    rw [e] at c' q'
    refine k (p :: ps) vw' (v :: vs) H' F' (fadd S1 T1) T2 ⟨v, vs, S1, T1, rfl, fun _ => rfl, ks1, a'⟩ b' c' ⟨fun x o hx z n => ?_, fun x z => d'.2 x (d.2 x z)⟩ q'
    refine kt.1 x o (d.1 x o hx z n) ?_ n
    rcases z with z | z | z
    · exact .inl z
    · exact .inr (.inl (d.2 x z))
    · exact .inr (.inr z)
theorem mergeK_nodup : ∀ {ks : List Str} {vs : List V} {acc : List (Key × V)}, nodupS ks = true → ks.length = vs.length → (∀ k ∈ ks, ∀ p ∈ acc, p.1 ≠ .inr k) → mergeK acc ((ks.map (Sum.inr (α := Int))).zip vs) = acc ++ (ks.map Sum.inr).zip vs
  | [], _, acc, _, _, _ => by simp [mergeK]
  | _ :: _, [], _, _, h, _ => by cases h
  | k :: ks, v :: vs, acc, hn, hl, ha => by
    obtain ⟨h1, h2⟩ := Bool.and_eq_true_iff.mp (show (!(ks.contains k) && nodupS ks) = true from hn)
    have e : putK acc (Sum.inr k) v = acc ++ [(Sum.inr k, v)] := by
      unfold putK
      rw [if_neg]
      rw [List.any_eq_true]
      rintro ⟨p, hp, z⟩
      exact ha k List.mem_cons_self p hp (of_decide_eq_true z)
    show mergeK (putK acc (Sum.inr k) v) ((ks.map Sum.inr).zip vs) = _
    rw [e, mergeK_nodup h2 (by simpa using hl) fun k' hk' p hp => ?_]
    · simp
    · rcases List.mem_append.mp hp with hp | hp
      · exact ha k' (List.mem_cons_of_mem _ hk') p hp
      · have : p = (Sum.inr k, v) := by simpa using hp
        subst this
        intro z
        have : k = k' := by injection z
        subst this
        simp [hk'] at h1
theorem pps_of {W : WX} {ks : List Str} {is : List IE} {vs : List Expr} {keys : List (Option Expr)} (h : PPs X pos keys vs (trsOf X.K W ks is)) : PPs X pos keys vs (trsOf X.K W ks is) := h
/-- the display's parts -/
inductive DiS (X : Cx) (pos : Pos) : List (Option Expr) → List Expr → List Str → List IE → Prop
  | nil : DiS X pos [] [] [] []
  | cons {k : Str} {j : Nat} {kp : Pos} {e : Expr} {keys : List (Option Expr)} {es : List Expr} {ks : List Str} {i : IE} {is : List IE} (h : SE X e i) (r : DiS X pos keys es ks is) : DiS X pos (some (.Constant (.str k) j kp) :: keys) (e :: es) (k :: ks) (i :: is)
theorem DiS.pps {keys : List (Option Expr)} {es : List Expr} {ks : List Str} {is : List IE} (h : DiS X pos keys es ks is) {W : WX} (tk : Takes X W) : PPs X pos keys es (trsOf X.K W ks is) ∧ keys.all (·.isSome) = true ∧ keys.length = es.length ∧ ks.length = is.length ∧ keys.length = ks.length := by
  induction h with
  | nil => exact ⟨pps_nil, rfl, rfl, rfl, rfl⟩
  | cons h r ih =>
    obtain ⟨h1, h2, h3, h4, h5⟩ := ih
    exact ⟨pps_cons pe_str (h W tk) h1, by simpa using h2, by simp [h3], by simp [h4], by simp [h5]⟩
theorem zip_kV : ∀ {ks : List Str} {vs : List V}, (ks.map V.str).zip vs = ((ks.map (Sum.inr (α := Int))).zip vs).map fun kv => (kV kv.1, kv.2)
  | [], _ => rfl
  | _ :: _, [] => rfl
  | k :: ks, v :: vs => by
    rw [List.map_cons, List.map_cons, List.zip_cons_cons, List.zip_cons_cons, List.map_cons, zip_kV]; rfl
theorem se_disp {keys : List (Option Expr)} {es : List Expr} {ks : List Str} {is : List IE} (h : DiS X pos keys es ks is) (h0 : keys ≠ []) (hn : nodupS ks = true := by decide +kernel) (h15 : keys.length ≤ 15 := by decide) : SE X (.Dict keys es pos) (iDisp ks is) := fun W tk => by
  obtain ⟨h1, h2, h3, h4, h5⟩ := h.pps tk
  refine (pe_disp h1 h2 h3 h0 h15).imp fun σ H Q ⟨F, vw, S, hv, g, q⟩ => fun p hp => ?_
  have gn := new_gd1 (S1 := f0) (o := .dK []) hp True.intro (gd_zero g)
  rw [fadd_zero] at gn
  have st := new_step (S := S) (S' := fadd (one p) S) (F := F) (o := .dK []) hp fun a z => by
    by_cases e : a = p
    · exact .inr e
    · have z' : 0 < one p a + S a := z
      rw [one_ne e] at z'
      exact .inl (by omega)
  refine runP' (T := one p) (oblX (rlE X.K) X.K σ W Q) h4 (hv.keep (kp_upd hp)) gn (Po.stp st q) fun ps vw' vs H2 F2 S1 S2 a b c d q2 => ?_
  have ep : H2 p = some (.dK []) := d.1 p _ upd_same (.inl (by rw [one_self]; omega)) (by intro _ z; cases z)
  have hl := a.length
  have q3 : Po (rlE X.K) X.K σ W Q (if ps.length = ks.length then .ok (.nd (.dk (ks.map .inr)) true ps) vw' else .no) H2 F2 (fadd (one p) (fadd S1 S2)) := q2
  by_cases hz : ps.length = ks.length
  · rw [if_pos hz] at q3
    have hlen : ks.length = vs.length := by omega
    refine ⟨ep, (ks.map Sum.inr).zip vs, zip_kV, ?_, ?_⟩
    · rw [List.length_zip, List.length_map, ← hlen, Nat.min_self, ← h5]; exact h15
    · rw [mergeK_nodup hn hlen (fun _ _ p hp => by cases hp), List.nil_append]
      have tot : ∀ b, fadd (one p) (fadd S1 S2) b = one p b + (S1 b + S2 b) := fun b => rfl
      have lp := c.le p
      rw [tot p, one_self] at lp
      have nf := c.nf p (by rw [tot p, one_self]; omega)
      have kp : ∀ U : Fp, U p = 0 → Kp H2 F2 (upd H2 p (.dK ((ks.map Sum.inr).zip vs))) F2 U := fun U hU => ⟨fun b u hb z _ => by
        have : b ≠ p := fun e => by
          subst e
          rcases z with z | z | z
          · omega
          · exact nf z
          · rw [ep] at hb; cases hb; exact z True.intro
        rw [upd_ne this]; exact hb, fun _ z => z⟩
      have eq : fadd (one p) (fadd S1 S2) = fadd (fadd (one p) S1) S2 := (fadd_assoc _ _ _).symm
      rw [eq] at c q3
      refine q3 (.ref p) _ F2 (fadd (one p) S1) S2 ⟨p, vs, S1, rfl, ⟨by simp [hlen], upd_same⟩, a.keep (kp S1 (by omega)), fun b => rfl⟩ (b.keep (kp S2 (by omega))) ⟨c.le, c.nf, fun b z => ?_, fun b z => nfre_upd True.intro (c.fr b z), tabs_upd ⟨(fun ps z => by rw [ep] at z; cases z), (fun φ z => by rw [ep] at z; cases z)⟩ c.tb⟩ ⟨fun b u hb z _ => ?_, fun b z => .inl z, fun _ z => z, fun _ z => .inl z⟩
      · by_cases e : b = p
        · subst e; rw [upd_same]; exact True.intro
        · rw [upd_ne e]; exact c.mu b z
      · have : b ≠ p := fun e => by
          subst e
          have z' : one b b + S1 b + S2 b = 0 := z
          rw [one_self] at z'
          omega
        rw [upd_ne this]; exact hb
  · rw [if_neg hz] at q3; exact q3.elim
end
end Bx
set_option Elab.async false
set_option linter.all false
set_option maxRecDepth 100000
set_option maxHeartbeats 4000000
/-! L4j: order of data; room facts. -/
namespace Bx
open PySem PySem.Spec PyProof.Rows L2
variable [Tbs]
/-! ### order of alike data: tuples, lists -/
def someD : PyData → Bool
  | .none => false
  | _ => true
theorem someD_ne {d : PyData} (h : someD d = true) : d ≠ .none := fun z => by rw [z] at h; cases h
def ordD (f : PyData → PyData → Bool) : List PV → Option PV := dat2 fun d e => if PySem.W.alike d e = true ∧ someD d = true ∧ min d.depth e.depth ≤ 64 then some (.bl (f d e)) else none
def fLt (d e : PyData) : Bool := PySem.W.dataLt d e
def fGt (d e : PyData) : Bool := PySem.W.dataLt e d
def fLe (d e : PyData) : Bool := !PySem.W.dataLt e d
def fGe (d e : PyData) : Bool := !PySem.W.dataLt d e
def orE (f g : List PV → Option PV) (ps : List PV) : Option PV := match f ps with
  | some r => some r
  | none => g ps
def opLt2 : List PV → Option PV := orE opLt (ordD fLt)
def opGt2 : List PV → Option PV := orE opGt (ordD fGt)
def opLe2 : List PV → Option PV := orE opLe (ordD fLe)
def opGe2 : List PV → Option PV := orE opGe (ordD fGe)
def rOrdD (K : PySem.W.Frag) (f : PyData → PyData → Bool) : R2 := fun x y H Q => ∃ d e, Dp K H x d ∧ Dp K H y e ∧ PySem.W.alike d e = true ∧ d ≠ .none ∧ min d.depth e.depth ≤ 64 ∧ Q (.bl (f d e)) H
section
variable {X : Cx}
theorem or_ltD (hu : X.A.units + 64 < cLine) : OpR X (compareOp .Lt) (rOrdD X.K fLt) := by
  intro pins s σ H x y v u Q I rx ry ⟨d, e, hd, he, ha, hn, hm, q⟩
  obtain ⟨as, r1⟩ := Dp.reads I d x v hd rx
  obtain ⟨bs, r2⟩ := Dp.reads I e y u he ry
  exact PySem.W.lt_data r1 r2 ha hn (by omega) ⟨.bl _, H, I, rfl, q⟩
theorem or_gtD (hu : X.A.units + 64 < cLine) : OpR X (compareOp .Gt) (rOrdD X.K fGt) := by
  intro pins s σ H x y v u Q I rx ry ⟨d, e, hd, he, ha, hn, hm, q⟩
  obtain ⟨as, r1⟩ := Dp.reads I d x v hd rx
  obtain ⟨bs, r2⟩ := Dp.reads I e y u he ry
  exact PySem.W.gt_data r1 r2 ha hn (by omega) ⟨.bl _, H, I, rfl, q⟩
theorem or_leD (hu : X.A.units + 64 < cLine) : OpR X (compareOp .LtE) (rOrdD X.K fLe) := by
  intro pins s σ H x y v u Q I rx ry ⟨d, e, hd, he, ha, hn, hm, q⟩
  obtain ⟨as, r1⟩ := Dp.reads I d x v hd rx
  obtain ⟨bs, r2⟩ := Dp.reads I e y u he ry
  exact PySem.W.le_data r1 r2 ha hn (by omega) ⟨.bl _, H, I, rfl, q⟩
theorem or_geD (hu : X.A.units + 64 < cLine) : OpR X (compareOp .GtE) (rOrdD X.K fGe) := by
  intro pins s σ H x y v u Q I rx ry ⟨d, e, hd, he, ha, hn, hm, q⟩
  obtain ⟨as, r1⟩ := Dp.reads I d x v hd rx
  obtain ⟨bs, r2⟩ := Dp.reads I e y u he ry
  exact PySem.W.ge_data r1 r2 ha hn (by omega) ⟨.bl _, H, I, rfl, q⟩
theorem os_ordD {f : PyData → PyData → Bool} : OpS X (r2l (rOrdD X.K f)) (ordD f) := by
  intro ps vs p H F Q rq e k
  obtain ⟨a, b, d, d', rfl, e1, e2, e3⟩ := dat2_some e
  split at e3
  · rename_i hc
    cases e3
    obtain ⟨v, u, S, S', rfl, r1, r2⟩ := rq2 rq
    exact ⟨d, d', (r1.dp e1).1, (r2.dp e2).1, hc.1, someD_ne hc.2.1, hc.2.2, kbl k⟩
  · cases e3
theorem os_orE {r r' : R2} {f g : List PV → Option PV} (hf : OpS X (r2l r) f) (hg : OpS X (r2l r') g) : OpS X (r2l fun x y H Q => r x y H Q ∨ r' x y H Q) (orE f g) := by
  intro ps vs p H F Q rq e k
  have fin : ∀ (z : r2l r vs H Q ∨ r2l r' vs H Q), r2l (fun x y H Q => r x y H Q ∨ r' x y H Q) vs H Q := fun z => by
    match vs, z with
    | [x, y], z => exact z
    | [], z => exact z.elim id id
    | [_], z => exact z.elim id id
    | _ :: _ :: _ :: _, z => exact z.elim id id
  unfold orE at e
  cases q : f ps with
  | some r => rw [q] at e; cases e; exact fin (.inl (hf ps vs p H F Q rq q k))
  | none => rw [q] at e; exact fin (.inr (hg ps vs p H F Q rq e k))
/-! ### room -/
theorem Rg.u {k : Nat} {A : Around} (h : Rg k A) : A.units + 1 < cLine := by have := h.room.un; omega
theorem Rg.u64 {k : Nat} {A : Around} (h : Rg k A) : A.units + 64 < cLine := by have := h.room.un; omega
theorem Rg.u65 {k : Nat} {A : Around} (h : Rg k A) : A.units + 65 < cLine := by have := h.room.un; omega
theorem Rg.u70 {k : Nat} {A : Around} (h : Rg k A) : A.units + 70 < cLine := by have := h.room.un; omega
end
end Bx
set_option Elab.async false
set_option linter.all false
set_option maxRecDepth 100000
set_option maxHeartbeats 4000000
/-! L5a: the law's own call. -/
namespace Bx
open PySem PySem.Spec PyProof.Rows L2
/-- the heap that is tracked when the law is called: the script, the tables -/
def H00 (o : Option Obj) (a : Addr) (ns : List Int) (tr : List Addr) : Hp := fun b => if b ∈ tr then some (.tbl #[]) else match o with
  | some ob => if b = a then some (.frz ob (.lst (ns.map V.int))) else none
  | none => none
section
variable {P : Program} {w : World} {K : PySem.W.Frag} {mg mb : Str → Option Value} {k : Nat} {fa a : Addr} {cs : List (Addr × Addr)} {fd : FuncData} {x : Str} {sp : Sp} {z1 : Shared} {vs : List Value} {ns : List Int}
/-- what the law's call starts from -/
structure Start (P : Program) (w : World) (K : PySem.W.Frag) (mg mb : Str → Option Value) (cs : List (Addr × Addr)) (a : Addr) (vs : List Value) (ns : List Int) (z1 : Shared) : Prop where
  kin : K.In z1.heap
  glo : z1.heap.Ns mainGlobals mg
  blt : z1.heap.Ns builtinsNs mb
  bbt : ∀ y : Str, y ≠ "__name__" → mb y = bootBuiltins y
  lim : z1.heap.NoLimit
  gen : z1.gens = #[]
  tab : ∀ t ∈ cs, z1.heap.get? t.2 = some { cls := .none, data := .fields #[] }
  tno : ∀ t ∈ cs, K.lookup t.2 = none
  cod : ∀ t ∈ cs, PySem.W.CodeHd z1.heap t.1 t.2
  bmo : ∃ (bm : Addr) (ob : Obj), mg "__builtins__" = some (.ref bm) ∧ bm ≠ builtinsNs ∧ z1.heap.get? bm = some ob ∧ ob.cls = .type "module" ∧ ob.dict = some builtinsNs ∧ ob.data = .plain
  scr : z1.heap.get? a = some { cls := .type "list", data := .seq vs.toArray }
  its : IntsAre vs ns
  len : ns.length ≤ sizeLine
/-- nothing else is tracked in G -/
structure Bare0 (cs : List (Addr × Addr)) (a : Addr) (G : Hp) : Prop where
  tb : ∀ t ∈ cs, G t.2 = some (.tbl #[])
  fz : ∀ b u, G b = some u → (∃ t ∈ cs, t.2 = b ∧ u = .tbl #[]) ∨ (b = a ∧ ∃ o xs, u = .frz o (.lst xs))
theorem Start.apart (S : Start P w K mg mb cs a vs ns z1) {t : Addr × Addr} (ht : t ∈ cs) : t.2 ≠ a := fun e => by
  have h1 := S.tab t ht
  rw [e, S.scr] at h1
  have h2 : Data.seq vs.toArray _ = Data.fields #[] := congrArg Obj.data (Option.some.inj h1)
  cases h2
/-- an object of another sort is not tracked -/
theorem Start.free (S : Start P w K mg mb cs a vs ns z1) {G : Hp} (B : Bare0 cs a G) {b : Addr} {o : Obj} (e : z1.heap.get? b = some o) (n1 : ∀ us n, o.data ≠ .seq us n) (n2 : o.data ≠ .fields #[]) : G b = none := by
  cases q : G b with
  | none => rfl
  | some u =>
    rcases B.fz b u q with ⟨t, ht, rfl, _⟩ | ⟨rfl, _⟩
    · rw [S.tab t ht] at e; cases e; exact (n2 rfl).elim
    · rw [S.scr] at e; cases e; exact (n1 _ _ rfl).elim
theorem Start.hid (S : Start P w K mg mb cs a vs ns z1) {G : Hp} (B : Bare0 cs a G) {b : Addr} {o : Obj} (e : z1.heap.get? b = some o) (n1 : ∀ us n, o.data ≠ .seq us n) (n2 : o.data ≠ .fields #[]) : (hidT z1.heap G).get? b = some o := hidT_get e (S.free B e n1 n2)
theorem Start.nsp (S : Start P w K mg mb cs a vs ns z1) {G : Hp} (B : Bare0 cs a G) {b : Addr} {m : Str → Option Value} (h : z1.heap.Ns b m) : (hidT z1.heap G).Ns b m := by
  obtain ⟨o, es, ep, e, d, r⟩ := h
  exact ⟨o, es, ep, S.hid B e (fun us n y => by rw [d] at y; cases y) (fun y => by rw [d] at y; cases y), d, r⟩
theorem Start.kb (S : Start P w K mg mb cs a vs ns z1) {G : Hp} (B : Bare0 cs a G) (hK : G a ≠ none → K.lookup a = none) : K.In (hidT z1.heap G) := fun b o e => by
  refine hidT_get (S.kin b o e) ?_
  cases q : G b with
  | none => rfl
  | some u =>
    rcases B.fz b u q with ⟨t, ht, rfl, _⟩ | ⟨rfl, _⟩
    · rw [S.tno t ht] at e; cases e
    · rw [hK (by rw [q]; exact fun y => by cases y)] at e; cases e
theorem Start.mod (S : Start P w K mg mb cs a vs ns z1) {G : Hp} (B : Bare0 cs a G) (hK : G a ≠ none → K.lookup a = none) : Mod K mg (hidT z1.heap G) := by
  obtain ⟨mc, l1, l2⟩ := S.lim
  exact ⟨S.kb B hK, S.nsp B S.glo, ⟨mb, S.nsp B S.blt, S.bbt⟩, ⟨mc, S.nsp B l1, l2⟩⟩
theorem Start.tbs (S : Start P w K mg mb cs a vs ns z1) {G : Hp} (B : Bare0 cs a G) {t : Addr × Addr} (ht : t ∈ cs) : LamX.TabB (hidT z1.heap G) mg t.1 t.2 := by
  have hT := S.tab t ht
  refine ⟨?_, ?_, fun y => ?_⟩
  · obtain ⟨o, us, fi, tf, fl, tg, nf, tx, tt, e1, r1, r2, r3, rest⟩ := S.cod t ht
    refine ⟨o, us, fi, tf, fl, tg, nf, tx, tt, S.hid B e1 (fun us' n y => by rw [r2] at y; cases y) (fun y => ?_), r1, r2, r3, rest⟩
    rw [r2] at y
    cases y
    simp at r3
  · obtain ⟨bm, ob, b1, b2, b3, b4, b5, b6⟩ := S.bmo
    refine ⟨bm, ob, b1, b2, fun q => ?_, fun q => ?_, S.hid B b3 (fun us' n y => by rw [b6] at y; cases y) (fun y => by rw [b6] at y; cases y), b4, b5, b6⟩
    · obtain ⟨o, es, ep, e, d, _⟩ := S.glo
      rw [q, e] at b3; cases b3
      rw [d] at b6; cases b6
    · rw [q, hT] at b3; cases b3
      cases b6
  · obtain ⟨o, es, ep, e, d, _⟩ := S.glo
    rw [y, hT] at e; cases e
    cases d
/-- from a heap in which nothing but the script and the tables is tracked -/
theorem Start.go [Tbs] (S : Start P w K mg mb cs a vs ns z1) {G : Hp} (B : Bare0 cs a G) (hS : SqL K G a (ns.map V.int)) (ok : HOk P w G z1.heap) (hK : G a ≠ none → K.lookup a = none) (hr : Rg k callerA)
    (F : ∀ base : Heap, K.In base → base.Ns mainGlobals mg → (∀ t ∈ cs, LamX.TabB base mg t.1 t.2) → FnG P w K mg base k fa fd [x] sp) (hbind : ∀ (s : Shared) (u : Value), BindsTo s fd ⟨[u], []⟩ [(x, u)])
    (hsp : sp [.ref a] G (fun v _ => v = .bl true) fun _ _ _ => False) : codeAny (model P w) callerA (.call (.ref fa) ⟨[.ref a], []⟩) (fun r z => r = .ok (.ret (.bool true)) ∧ OldK z1.heap z.heap ∧ z.os = z1.os ∧ AllBare z.gens) z1 := by
  have env : Env0 P w K mg (hidT z1.heap G) callerA [] z1 G := ⟨rfl, S.mod B hK, fun b o e => of_hidT e, Nat.le_of_eq (hidT_size _ _), trivial, (fun b y => nomatch y), ok, .of_eq S.gen⟩
  refine codeAny_mono ((F _ (S.kb B hK) (S.nsp B S.glo) fun t ht => S.tbs B ht).run callerA [] z1 G ⟨[.ref a], []⟩ [.ref a] [.ref a] _ _ hr env (hbind z1 (.ref a)) (.cons rfl .nil) hsp) fun r z h => ?_
  match r, h with
  | .error e, h => exact (by obtain ⟨_, _, _, _, _, _, _, _, _, _, _, _, y⟩ := h; exact y.elim)
  | .ok .next, h => exact False.elim h
  | .ok .brk, h => exact False.elim h
  | .ok .cont, h => exact False.elim h
  | .ok (.ret u), h =>
    obtain ⟨v, G', eo, eg, un, ok', rv, ev⟩ := h
    have ev : v = .bl true := ev
    subst ev
    obtain rfl : u = Value.bool true := rv
    have same : ∀ b o, (∀ t ∈ cs, t.2 ≠ b) → z1.heap.get? b = some o → z.heap.get? b = some o := fun b o nb e => by
      cases q : G b with
      | none => exact un.keep b o e q (fun y => nomatch y) (fun y => nomatch y)
      | some u =>
        rcases B.fz b u q with ⟨t, ht, e', _⟩ | ⟨rfl, ob, xs, rfl⟩
        · exact (nb t ht e').elim
        · obtain ⟨e1, _⟩ := ok b _ q
          obtain ⟨e2, _⟩ := ok' b _ (un.frzs b ob _ q)
          rw [e] at e1
          cases e1
          exact e2
    have grown : ∀ t ∈ cs, ∃ more : Array Value, z.heap.get? t.2 = some { cls := .none, data := .fields more } := fun t ht => by
      obtain ⟨more, y⟩ := un.tbls t.2 #[] (B.tb t ht)
      exact ⟨_, ok' t.2 _ y⟩
    refine ⟨rfl, ⟨fun b o e => ?_, fun b o e => ?_⟩, eo, eg⟩
    · by_cases hb : ∃ t ∈ cs, t.2 = b
      · obtain ⟨t, ht, rfl⟩ := hb
        obtain ⟨more, hm⟩ := grown t ht
        have hT := S.tab t ht
        rw [hT] at e
        cases e
        exact .inr (.inl ⟨((S.cod t ht).tab hT).isCodeTable, rfl, #[], more, rfl, by rw [Array.empty_append]; exact hm⟩)
      · exact .inl (same b o (fun t ht e' => hb ⟨t, ht, e'⟩) e)
    · by_cases hb : ∃ t ∈ cs, t.2 = b
      · obtain ⟨t, ht, rfl⟩ := hb
        obtain ⟨more, hm⟩ := grown t ht
        exact ⟨_, hm⟩
      · exact ⟨o, same b o (fun t ht e' => hb ⟨t, ht, e'⟩) e⟩
/-- the law's call -/
theorem law_callG [Tbs] (S : Start P w K mg mb cs a vs ns z1) (hr : Rg k callerA) (F : ∀ base : Heap, K.In base → base.Ns mainGlobals mg → (∀ t ∈ cs, LamX.TabB base mg t.1 t.2) → FnG P w K mg base k fa fd [x] sp) (hbind : ∀ (s : Shared) (u : Value), BindsTo s fd ⟨[u], []⟩ [(x, u)])
    (hsp : ∀ G : Hp, (∀ t ∈ cs, G t.2 = some (.tbl #[])) → (∀ b, ¬ Mut (G b)) → SqL K G a (ns.map V.int) → sp [.ref a] G (fun v _ => v = .bl true) fun _ _ _ => False) :
    codeAny (model P w) callerA (.call (.ref fa) ⟨[.ref a], []⟩) (fun r z => r = .ok (.ret (.bool true)) ∧ OldK z1.heap z.heap ∧ z.os = z1.os ∧ AllBare z.gens) z1 := by
  have rv := vals_ints S.its
  have hl := S.its.length
  have mem : ∀ t ∈ cs, t.2 ∈ cs.map (·.2) := fun t ht => List.mem_map.mpr ⟨t, ht, rfl⟩
  have aN : a ∉ cs.map (·.2) := fun y => by
    obtain ⟨t, ht, e⟩ := List.mem_map.mp y
    exact S.apart ht e
  have tabOk : ∀ b, b ∈ cs.map (·.2) → z1.heap.get? b = some { cls := .none, data := .fields #[] } := fun b y => by
    obtain ⟨t, ht, rfl⟩ := List.mem_map.mp y
    exact S.tab t ht
  cases hk : K.lookup a with
  | some o =>
    have e := S.kin a o hk
    rw [S.scr] at e
    cases e
    have at1 : ∀ b, b ∈ cs.map (·.2) → H00 none a ns (cs.map (·.2)) b = some (.tbl #[]) := fun b y => if_pos y
    have at2 : ∀ b, b ∉ cs.map (·.2) → H00 none a ns (cs.map (·.2)) b = none := fun b y => if_neg y
    have B : Bare0 cs a (H00 none a ns (cs.map (·.2))) := ⟨fun t ht => at1 _ (mem t ht), fun b u y => by
      by_cases hb : b ∈ cs.map (·.2)
      · rw [at1 b hb] at y
        cases y
        obtain ⟨t, ht, e'⟩ := List.mem_map.mp hb
        exact .inl ⟨t, ht, e', rfl⟩
      · rw [at2 b hb] at y; cases y⟩
    have sq : SqL K (H00 none a ns (cs.map (·.2))) a (ns.map V.int) := .inr ⟨_, vs.toArray, _, hk, rfl, rfl, rfl, by rw [List.size_toArray, hl]; exact S.len, by simpa using rv⟩
    refine S.go B sq (fun b u y => ?_) (fun y => (y (at2 a aN)).elim) hr F hbind (hsp _ B.tb (fun b y => ?_) sq)
    · by_cases hb : b ∈ cs.map (·.2)
      · rw [at1 b hb] at y; cases y; exact tabOk b hb
      · rw [at2 b hb] at y; cases y
    · by_cases hb : b ∈ cs.map (·.2)
      · rw [at1 b hb] at y; exact y
      · rw [at2 b hb] at y; exact y
  | none =>
    let ob : Obj := { cls := .type "list", data := .seq vs.toArray }
    have at1 : ∀ b, b ∈ cs.map (·.2) → H00 (some ob) a ns (cs.map (·.2)) b = some (.tbl #[]) := fun b y => if_pos y
    have at2 : H00 (some ob) a ns (cs.map (·.2)) a = some (.frz ob (.lst (ns.map V.int))) := (if_neg aN).trans (if_pos rfl)
    have at3 : ∀ b, b ∉ cs.map (·.2) → b ≠ a → H00 (some ob) a ns (cs.map (·.2)) b = none := fun b y y2 => (if_neg y).trans (if_neg y2)
    have B : Bare0 cs a (H00 (some ob) a ns (cs.map (·.2))) := ⟨fun t ht => at1 _ (mem t ht), fun b u y => by
      by_cases hb : b ∈ cs.map (·.2)
      · rw [at1 b hb] at y
        cases y
        obtain ⟨t, ht, e'⟩ := List.mem_map.mp hb
        exact .inl ⟨t, ht, e', rfl⟩
      · by_cases e' : b = a
        · subst e'
          rw [at2] at y
          cases y
          exact .inr ⟨rfl, _, _, rfl⟩
        · rw [at3 b hb e'] at y; cases y⟩
    have sq : SqL K (H00 (some ob) a ns (cs.map (·.2))) a (ns.map V.int) := .inl (.inr ⟨ob, at2⟩)
    refine S.go B sq (fun b u y => ?_) (fun _ => hk) hr F hbind (hsp _ B.tb (fun b y => ?_) sq)
    · by_cases hb : b ∈ cs.map (·.2)
      · rw [at1 b hb] at y; cases y; exact tabOk b hb
      · by_cases e' : b = a
        · subst e'
          rw [at2] at y
          cases y
          exact ⟨S.scr, by rw [List.length_map]; exact S.len, vs, _, rv, S.scr⟩
        · rw [at3 b hb e'] at y; cases y
    · by_cases hb : b ∈ cs.map (·.2)
      · rw [at1 b hb] at y; exact y
      · by_cases e' : b = a
        · subst e'; rw [at2] at y; exact y
        · rw [at3 b hb e'] at y; exact y
end
end Bx
set_option Elab.async false
set_option linter.all false
set_option maxRecDepth 100000
set_option maxHeartbeats 4000000
/-! L5b: a law's row from its def's value. -/
namespace Bx
open PySem PySem.Spec PyProof.Rows L2
/-- the script as a value -/
def scrP (ns : List Int) : PV := .nd .frl false (ns.map PV.int)
theorem pures_ints : ∀ ns : List Int, pures (ns.map PV.int) = true
  | [] => rfl
  | n :: ns => by rw [List.map_cons, pures, pures_ints ns]; rfl
theorem rps_ints [Tbs] {K : PySem.W.Frag} {H : Hp} {F : Fz} : ∀ ns : List Int, Rps K H F (ns.map PV.int) (ns.map V.int) f0
  | [] => ⟨rfl, fun _ => rfl⟩
  | n :: ns => ⟨.int n, ns.map V.int, f0, f0, rfl, fun _ => rfl, ⟨rfl, fun _ => rfl⟩, rps_ints ns⟩
/-- the promise of the law's def, at the law's call -/
theorem spI_law [Tbs] {K : PySem.W.Frag} {D : DF} {a : Addr} {ns : List Int} {G : Hp} (htb : LamX.Tabs Tbs.l G) (hS : SqL K G a (ns.map V.int)) (hm : ∀ b, ¬ Mut (G b)) (hD : ∃ ws, D [scrP ns] = .ret (.bl true) ws) :
    spI K [false] D [.ref a] G (fun v _ => v = .bl true) fun _ _ _ => False := by
  obtain ⟨ws, e⟩ := hD
  have hf : FrL K G a (ns.map V.int) := by
    rcases hS with (h | h) | h
    · exact (hm a (by rw [h]; trivial)).elim
    · exact .inl h
    · exact .inr h
  refine ⟨rfl, fun _ => False, [scrP ns], f0, ⟨.ref a, [], f0, f0, rfl, fun _ => rfl, ⟨a, ns.map V.int, f0, rfl, hf, rps_ints ns, fun _ => rfl⟩, rfl, fun _ => rfl⟩, ⟨fun _ => Nat.zero_le _, fun _ z => (Nat.lt_irrefl 0 z).elim, fun _ z => (Nat.lt_irrefl 0 z).elim, fun _ z => (z : False).elim, htb⟩, ?_⟩
  rw [e]
  intro v H' F' S1 S2 r1 r2 g st
  exact r1.1
def LawG (l : PySem.W.OpenLaw) (w : World) (K : PySem.W.Frag) (k n : Nat) (x : Str) (mg : Str → Option Value) (fa : Addr) (h : Heap) : Prop :=
  ∃ (fd : FuncData) (cs : List (Addr × Addr)) (T : Tbs) (D : DF), (∀ t ∈ cs, h.get? t.2 = some { cls := .none, data := .fields #[] }) ∧ (∀ t ∈ cs, K.lookup t.2 = none) ∧ (∀ t ∈ cs, PySem.W.CodeHd h t.1 t.2) ∧ (∀ (s : Shared) (u : Value), BindsTo s fd ⟨[u], []⟩ [(x, u)]) ∧
    (∀ G : Hp, (∀ t ∈ cs, G t.2 = some (.tbl #[])) → LamX.Tabs T.l G) ∧
    (∀ ns : List Int, ns.length ≤ n → (∀ z ∈ ns, Builtin.Int.intBits z ≤ 1048576) → ∃ ws, D [scrP ns] = .ret (.bl true) ws) ∧
    ∀ base : Heap, K.In base → base.Ns mainGlobals mg → (∀ t ∈ cs, LamX.TabB base mg t.1 t.2) → FnG l.prog w K mg base k fa fd [x] (@spI T K [false] D)
theorem walk_ofG {l : PySem.W.OpenLaw} {n k : Nat} {q : Program} {loose : List Str} {XP : (Str → Option Value) → Heap → Prop} {YP : World → Heap → Prop} {d : DefRec} {x : Str}
    (hn : l.most = some n) (hn2 : n ≤ sizeLine) (hdf : d.params.defaults = []) (hr : Rg k callerA)
    (F : ∀ (w : World) (mg : Str → Option Value) (fa : Addr) (h : Heap), YP w h → h.Ns mainGlobals mg → mg d.name = some (.ref fa) → ∃ K : PySem.W.Frag, K.In h ∧ LawG l w K k n x mg fa h) :
    PySem.W.WalkO q loose XP YP l.row.toRowW d [] (fun f vs => PySem.call f vs) := by
  refine Att.attach_callB hn hdf fun w s₀ z1 mg mb fa o pm cd doc a vs ns G Y ho hd hcd hmg hobj hints hlen hbits hg => ?_
  obtain ⟨K, KX, fd, cs, T, D, hT, nT, C, hb, hTb, hD, hF⟩ := F w mg fa _ Y G.T.g hmg
  have St : Start l.prog w K mg mb cs a vs ns z1 := ⟨KX, G.T.g, G.T.b, G.T.builtins, G.T.nolimit, hg, hT, nT, C, G.T.bmain, hobj, hints, Nat.le_trans hlen hn2⟩
  exact law_callG St hr hF hb fun G1 h1 h2 h3 => @spI_law T _ _ _ _ _ (hTb G1 h1) h3 h2 (hD ns hlen hbits)
end Bx
set_option Elab.async false
set_option linter.all false
set_option maxRecDepth 100000
set_option maxHeartbeats 4000000
/-! L5c: what a head tells, taken by number; defs, methods, classes as one fact each. -/
namespace Bx
open PySem PySem.Spec PyProof.Rows L2
/-! ### exceptions' classes -/
def oexB (K : PySem.W.Frag) (C : Addr) : Bool := match K.lookup C with
  | some ⟨.type t, _, .cls cd, sl⟩ => (match cd.mro, sl.toList with
    | .ref C' :: bm, [_, _, _, _, some (.builtin n), _] => t == "type" && C' == C && n == "ValueError.__new__" && !cd.hasDel && cd.hasDict && PySem.HandSPX.refsVE bm
    | _, _ => false) && decide (PySem.W.findIn K (.ref C) "__setattr__" = some (some (.builtin "object.__setattr__"))) && decide (PySem.W.subIn K (.ref C) (.type "BaseException") = some true) && decide (PySem.W.typeIn K (.ref C) = some (.type "type")) && PySem.W.keepIn K (.ref C)
  | _ => false
theorem oexB_ok {K : PySem.W.Frag} {C : Addr} (h : oexB K C = true) : OexC K C := by
  unfold oexB at h
  split at h
  · rename_i t dd cd sl ho
    simp only [Bool.and_eq_true, decide_eq_true_eq] at h
    obtain ⟨⟨⟨⟨h1, h2⟩, h3⟩, h4⟩, h5⟩ := h
    refine ⟨?_, h2, h3, h4, h5⟩
    split at h1
    · rename_i C' bm k0 k1 k2 k3 n k5 hm hs
      simp only [Bool.and_eq_true, beq_iff_eq, Bool.not_eq_true'] at h1
      obtain ⟨⟨⟨⟨⟨rfl, rfl⟩, rfl⟩, hdel⟩, hdt⟩, hbm⟩ := h1
      obtain ⟨nm, bs, mro, ns, qn, hd, sn, sub, ab, col, del⟩ := cd
      dsimp only at hm hdel hdt
      subst hm hdel hdt
      have hsl : sl = #[k0, k1, k2, k3, some (.builtin "ValueError.__new__"), k5] := by
        obtain ⟨l⟩ := sl
        simp only at hs
        rw [hs]
      subst hsl
      exact ⟨nm, qn, ns, bs, bm, sn, sub, ab, col, dd, k0, k1, k2, k3, k5, ho, hbm⟩
    · cases h1
  · cases h
/-- an exception's class of the module: its fields in the order of its __init__ -/
def excB (K : PySem.W.Frag) (x : Str) (fs : List Str) : Bool := oexB K (He.ga K x) && xfB K (He.ga K x) && (fs.all fun f => He.eqO (PySem.W.findIn K (.ref (He.ga K x)) f) (some none)) && He.eqO (PySem.W.findIn K (.ref (He.ga K x)) "__init__") (some (some (.ref (He.ma K (He.ga K x) "__init__")))) &&
  decide (PySem.W.typeIn K (.ref (He.ma K (He.ga K x) "__init__")) = some (.type "function"))
structure ExB (K : PySem.W.Frag) (x : Str) (fs : List Str) : Prop where
  oex : OexC K (He.ga K x)
  xf : XfC K (He.ga K x)
  fnd : ∀ f ∈ fs, PySem.W.findIn K (.ref (He.ga K x)) f = some none
  ini : PySem.W.findIn K (.ref (He.ga K x)) "__init__" = some (some (.ref (He.ma K (He.ga K x) "__init__")))
  fun_ : PySem.W.typeIn K (.ref (He.ma K (He.ga K x) "__init__")) = some (.type "function")
theorem excB_ok {K : PySem.W.Frag} {x : Str} {fs : List Str} (h : excB K x fs = true) : ExB K x fs := by
  unfold excB at h
  simp only [Bool.and_eq_true, decide_eq_true_eq, List.all_eq_true] at h
  obtain ⟨⟨⟨⟨h1, h2⟩, h3⟩, h4⟩, h5⟩ := h
  exact ⟨oexB_ok h1, xfB_ok h2, fun f hf => He.eqO_ok (h3 f hf), He.eqO_ok h4, h5⟩
/-! ### what the head tells -/
structure Ev (fa : List He.Fa) (fn : List He.DefD) (xs : List (Str × List Str)) (K : PySem.W.Frag) (mg : Str → Option Value) : Prop where
  sd : He.SaysD fa fn K
  xc : ∀ p ∈ xs, excB K p.1 p.2 = true
  hp : ∃ h : Heap, K.In h ∧ h.Ns mainGlobals mg
section
variable {fa : List He.Fa} {fn : List He.DefD} {xs : List (Str × List Str)} {K : PySem.W.Frag} {mg : Str → Option Value}
theorem Ev.free (E : Ev fa fn xs K mg) (i : Nat) {x : Str} (h : fa[i]? = some (.free x) := by rfl) : mg x = none := let ⟨_, a, b⟩ := E.hp; He.free_ok a b (E.sd.fact i h)
theorem Ev.glo (E : Ev fa fn xs K mg) (i : Nat) {x : Str} (h : fa[i]? = some (.glo x) := by rfl) : mg x = some (.ref (He.ga K x)) := let ⟨_, a, b⟩ := E.hp; He.glo_ok a b (E.sd.fact i h)
theorem Ev.gint (E : Ev fa fn xs K mg) (i : Nat) {x : Str} {n : Int} (h : fa[i]? = some (.int x n) := by rfl) : ∃ t, mg x = some (.int n t) := let ⟨_, a, b⟩ := E.hp; He.int_ok a b (E.sd.fact i h)
theorem Ev.gstr (E : Ev fa fn xs K mg) (i : Nat) {x z : Str} (h : fa[i]? = some (.str x z) := by rfl) : ∃ t, mg x = some (.str z t) := let ⟨_, a, b⟩ := E.hp; He.str_ok a b (E.sd.fact i h)
theorem Ev.cls (E : Ev fa fn xs K mg) (i : Nat) {x : Str} (h : fa[i]? = some (.cls x) := by rfl) : Cls K (He.ga K x) := He.cls_ok (E.sd.fact i h)
theorem Ev.noat (E : Ev fa fn xs K mg) (i : Nat) {x f : Str} (h : fa[i]? = some (.noat x f) := by rfl) : NoAttr K (He.ga K x) f := He.noat_ok (E.sd.fact i h)
theorem Ev.meth (E : Ev fa fn xs K mg) (i : Nat) {x m : Str} (h : fa[i]? = some (.meth x m) := by rfl) : Meth K (He.ga K x) m (He.ma K (He.ga K x) m) := He.meth_ok (E.sd.fact i h)
theorem Ev.mkr (E : Ev fa fn xs K mg) (i : Nat) {x : Str} (h : fa[i]? = some (.mkr x) := by rfl) : Mk K (He.ga K x) (He.ma K (He.ga K x) "__init__") := He.mkr_ok (E.sd.fact i h)
theorem Ev.exm (E : Ev fa fn xs K mg) (i : Nat) {x y : Str} {b : Bool} (h : fa[i]? = some (.exm x y b) := by rfl) : PySem.W.exmOne K (.ref (He.ga K x)) (.ref (He.ga K y)) = some b := He.exm_ok (E.sd.fact i h)
theorem Ev.exc (E : Ev fa fn xs K mg) (i : Nat) {x : Str} {fs : List Str} (h : xs[i]? = some (x, fs) := by rfl) : ExB K x fs := excB_ok (E.xc (x, fs) (List.mem_of_getElem? h))
/-- classes whose field f is read -/
def isC (K : PySem.W.Frag) (cs : List Str) (C : Addr) : Bool := cs.any fun x => decide (C = He.ga K x)
theorem fld1 {x f : Str} (c : Cls K (He.ga K x)) (n : NoAttr K (He.ga K x) f) : FldOk K (isC K [x]) f := fun C h => by
  have e : C = He.ga K x := by simpa [isC] using h
  rw [e]; exact ⟨c, n⟩
end
/-! ### defs -/
section
variable [Tbs] {P : Program} {w : World} {K : PySem.W.Frag} {mg : Str → Option Value} {base : Heap}
/-- the def at f makes of its arguments what D tells -/
def Gf (P : Program) (w : World) (K : PySem.W.Frag) (mg : Str → Option Value) (base : Heap) (k : Nat) (f : Addr) (fl : List Bool) (D : DF) : Prop :=
  ∃ (fd : FuncData) (ps : List Str), FnG P w K mg base k f fd ps (spI K fl D) ∧ Binds K fd ps [] ∧ PySem.W.keepIn K (.ref f) = true
theorem Gf.mono {j k : Nat} {f : Addr} {fl : List Bool} {D : DF} (h : Gf P w K mg base j f fl D) (hk : j ≤ k) : Gf P w K mg base k f fl D := let ⟨fd, ps, a, b, c⟩ := h; ⟨fd, ps, a.mono hk, b, c⟩
theorem Gf.def {fa : List He.Fa} {fn : List He.DefD} {xs : List (Str × List Str)} (E : Ev fa fn xs K mg) (i : Nat) {d : He.DefD} {N ps : List Str} {fl : List Bool} {j : IS} {k : Nat} (hi : fn[i]? = some d) (S : FnScope N ps d.scope) (hl : fl.length = ps.length) (hn : ps.length ≤ N.length)
    (hd : d.dfl = []) (hk : d.kwd = [])
    (hbind : ∀ (kV doc pm : Value) (an : Option Addr) (cdv ct : Value) (us : List Value), us.length = ps.length → bindArgs (PySem.W.fnOf d.name d.qual d.params d.body d.scope .none kV doc pm an cdv ct) ⟨us, []⟩ = pure (ps.zip us))
    (hb : ∀ (cdv : Value) (A : Around) (outer : List Env) (s : Shared) (H : Hp) (E : XK), Rg k (A.deeper (envOfC d.qual d.scope s.heap.objs.size (He.fAd K d.at_) cdv)) → SSs (cxOf (L2.CX P w) P w K mg base N d.qual d.scope (He.fAd K d.at_) cdv A outer s H E) (fxP fl) d.body j) :
    Gf P w K mg base (k + 1) (He.fAd K d.at_) fl (defOf fl N.length j) := by
  obtain ⟨fd, F⟩ := E.sd.def_ i hi
  have e1 : d.dvs K = [] := by unfold He.DefD.dvs; rw [hd]; rfl
  have e2 : d.kws K = [] := by unfold He.DefD.kws; rw [hk]; rfl
  rw [e1, e2] at F
  exact ⟨fd, ps, okD F S hl hn hb, F.bindsN hbind, F.kp⟩
theorem Gf.none {fa : List He.Fa} {fn : List He.DefD} {xs : List (Str × List Str)} (E : Ev fa fn xs K mg) (i : Nat) {d : He.DefD} {ps : List Str} {fl : List Bool} {k : Nat} (hi : fn[i]? = some d) (hl : fl.length = ps.length)
    (hd : d.dfl = []) (hk : d.kwd = [])
    (hbind : ∀ (kV doc pm : Value) (an : Option Addr) (cdv ct : Value) (us : List Value), us.length = ps.length → bindArgs (PySem.W.fnOf d.name d.qual d.params d.body d.scope .none kV doc pm an cdv ct) ⟨us, []⟩ = pure (ps.zip us)) :
    Gf P w K mg base k (He.fAd K d.at_) fl (fun _ => .no) := by
  obtain ⟨fd, F⟩ := E.sd.def_ i hi
  have e1 : d.dvs K = [] := by unfold He.DefD.dvs; rw [hd]; rfl
  have e2 : d.kws K = [] := by unfold He.DefD.kws; rw [hk]; rfl
  rw [e1, e2] at F
  refine ⟨fd, ps, ⟨fun vs H Q E h => ?_, fun A outer s H args us vs Q E hr e0 hb hv hs => ?_⟩, F.bindsN hbind, F.kp⟩
  · obtain ⟨_, _, _, _, _, _, q⟩ := h; exact q.elim
  · obtain ⟨_, _, _, _, _, _, q⟩ := hs; exact q.elim
theorem Gf.law {fa : List He.Fa} {fn : List He.DefD} {xs : List (Str × List Str)} (E : Ev fa fn xs K mg) (i : Nat) {d : He.DefD} {N : List Str} {x : Str} (hi : fn[i]? = some d) (S : FnScope N [x] d.scope) (hn : 1 ≤ N.length)
    (hd : d.dfl = []) (hk : d.kwd = [])
    (hbind : ∀ (kV doc pm : Value) (an : Option Addr) (cdv ct : Value) (us : List Value), us.length = [x].length → bindArgs (PySem.W.fnOf d.name d.qual d.params d.body d.scope .none kV doc pm an cdv ct) ⟨us, []⟩ = pure ([x].zip us)) :
    ∃ fd : FuncData, (∀ (s : Shared) (u : Value), BindsTo s fd ⟨[u], []⟩ [(x, u)]) ∧ ∀ (T : Tbs) (base : Heap) (j : IS) (k : Nat),
      (∀ (cdv : Value), cdv = .ref (He.codeOf K d.at_) → ∀ (A : Around) (outer : List Env) (s : Shared) (H : Hp) (E : XK), Rg k (A.deeper (envOfC d.qual d.scope s.heap.objs.size (He.fAd K d.at_) cdv)) → @SSs T (cxOf (L2.CX P w) P w K mg base N d.qual d.scope (He.fAd K d.at_) cdv A outer s H E) (fxP [false]) d.body j) →
      FnG P w K mg base (k + 1) (He.fAd K d.at_) fd [x] (@spI T K [false] (defOf [false] N.length j)) := by
  obtain ⟨fd, F⟩ := E.sd.def_ i hi
  have e1 : d.dvs K = [] := by unfold He.DefD.dvs; rw [hd]; rfl
  have e2 : d.kws K = [] := by unfold He.DefD.kws; rw [hk]; rfl
  rw [e1, e2] at F
  exact ⟨fd, fun s u => FunD.bindsA (ps := [x]) F hbind s [u] rfl, fun T base j k hb => @okDc T _ _ _ _ _ _ _ _ _ _ _ _ _ _ _ _ _ _ _ F S rfl hn fun cdv A outer s H E ⟨oc, od, osl, lk⟩ ec hcd => hb cdv (by
    obtain ⟨c, rfl⟩ := He.codeIn_ref hcd
    rw [He.codeOf_eq lk ec]) A outer s H E⟩
/-- an exception's __init__ -/
theorem ExK.def {fa : List He.Fa} {fn : List He.DefD} {xs : List (Str × List Str)} (E : Ev fa fn xs K mg) {x : Str} {f1 : Str} {fs : List Str} (B : ExB K x (f1 :: fs)) (hg : mg x = some (.ref (He.ga K x))) (i : Nat) {d : He.DefD} {N ps : List Str} (hi : fn[i]? = some d) (hat : d.at_ = (x, some ("__init__" : Str))) (S : FnScope N ps d.scope) (hl : ps.length = fs.length + 2) (hz : fs.length ≤ 700)
    (hd : d.dfl = []) (hk : d.kwd = [])
    (hbind : ∀ (kV doc pm : Value) (an : Option Addr) (cdv ct : Value) (us : List Value), us.length = ps.length → bindArgs (PySem.W.fnOf d.name d.qual d.params d.body d.scope .none kV doc pm an cdv ct) ⟨us, []⟩ = pure (ps.zip us))
    (hb : ∀ (cdv : Value) (A : Around) (outer : List Env) (s : Shared) (H : Hp) (E : XK), PSs (cxOf (L2.CX P w) P w K mg base N d.qual d.scope (He.fAd K d.at_) cdv A outer s H E) d.body (stF K ((f1, 1) :: fs.zipIdx 2))) :
    ExK P w K mg base x (He.ga K x) (f1 :: fs) := by
  obtain ⟨fd, F⟩ := E.sd.def_ i hi
  have e1 : d.dvs K = [] := by unfold He.DefD.dvs; rw [hd]; rfl
  have e2 : d.kws K = [] := by unfold He.DefD.kws; rw [hk]; rfl
  rw [e1, e2] at F
  have ef : He.fAd K d.at_ = He.ma K (He.ga K x) "__init__" := by rw [hat]; rfl
  have G := okX (k := 0) F S hl hz hb
  rw [ef] at G
  exact ⟨B.oex, B.fnd, hg, _, fd, ps, B.ini, B.fun_, G, F.bindsN hbind⟩
end
section
variable [Tbs] {X : Cx} {pos : Pos} {x m : Str} {C f : Addr} {D : DF} {fl : List Bool} {e o : Expr} {es : List Expr} {os : List Opd} {j k : Nat}
theorem gf_call {p : Pos} (G : Gf X.prog X.w X.K X.mg X.base j f fl D) (hm : X.mg x = some (.ref f)) (hr : Rg k X.A) (ha : SOs X (e :: es) os) (hj : j ≤ k := by decide) (hg : Gl X x := by rfl)
    (hdb : (x == ("__debug__" : Str)) = false := by decide) (he : starEach (e :: es) X.env = (false, eval e X.env) :: starEach es X.env := by rfl) (hpl : (backTo pos (starEach es X.env)).any (·.1) = false := by rfl) :
    SE X (.Call (.Name x p) (e :: es) [] pos) (iCall D fl os) := let ⟨_, _, a, b, c⟩ := G; se_call a (hr.mono hj) hm c b ha hg hdb he hpl
theorem gf_call0 {p : Pos} (G : Gf X.prog X.w X.K X.mg X.base j f fl D) (hm : X.mg x = some (.ref f)) (hr : Rg k X.A) (hj : j ≤ k := by decide) (hg : Gl X x := by rfl) (hdb : (x == ("__debug__" : Str)) = false := by decide) :
    SE X (.Call (.Name x p) [] [] pos) (iCall D fl []) := let ⟨_, _, a, b, c⟩ := G; se_call0 a (hr.mono hj) hm c b hg hdb
theorem gf_make {p : Pos} (M : Mk X.K C f) (G : Gf X.prog X.w X.K X.mg X.base j f (true :: fl) D) (hm : X.mg x = some (.ref C)) (hr : Rg k X.A) (ha : SOs X (e :: es) os) (hj : j + 1 ≤ k := by decide) (hg : Gl X x := by rfl)
    (hdb : (x == ("__debug__" : Str)) = false := by decide) (he : starEach (e :: es) X.env = (false, eval e X.env) :: starEach es X.env := by rfl) (hpl : (backTo pos (starEach es X.env)).any (·.1) = false := by rfl) :
    SE X (.Call (.Name x p) (e :: es) [] pos) (iCall (mkD C D) fl os) := let ⟨_, _, a, b, _⟩ := G; se_make M a (hr.mono hj) hm b ha hg hdb he hpl
theorem gf_make0 {p : Pos} (M : Mk X.K C f) (G : Gf X.prog X.w X.K X.mg X.base j f (true :: fl) D) (hm : X.mg x = some (.ref C)) (hr : Rg k X.A) (hj : j + 1 ≤ k := by decide) (hg : Gl X x := by rfl) (hdb : (x == ("__debug__" : Str)) = false := by decide) :
    SE X (.Call (.Name x p) [] [] pos) (iCall (mkD C D) fl []) := let ⟨_, _, a, b, _⟩ := G; se_make0 M a (hr.mono hj) hm b hg hdb
theorem gf_meth {pl : Sem Bool} {oo : Opd} {apos : Pos} (G : Gf X.prog X.w X.K X.mg X.base j f fl D) (c : Cls X.K C) (hm : Meth X.K C m f) (hr : Rg k X.A) (ho : SO X o oo) (ha : SOs X (e :: es) os) (hj : j ≤ k := by decide)
    (hst : starEach (e :: es) X.env = (false, eval e X.env) :: starEach es X.env := by rfl) (hpl : (backTo pos (starEach es X.env)).any (·.1) = false := by rfl)
    (ht : eval (.Call (.Attribute o m apos) (e :: es) [] pos) X.env = (do
      let ov ← eval o X.env
      standAt apos.atName
      let (f, first) ← holding [ov] (getMethod ov m pl)
      callWith pos f first (backTo pos (starEach (e :: es) X.env)) (backToKw pos (keywordEach [] X.env))) := by rfl) : SE X (.Call (.Attribute o m apos) (e :: es) [] pos) (iMeth C m D fl oo os) := let ⟨_, _, a, b, _⟩ := G; se_meth a (hr.mono hj) c hm b ho ha hst hpl ht
theorem gf_meth0 {pl : Sem Bool} {oo : Opd} {apos : Pos} (G : Gf X.prog X.w X.K X.mg X.base j f fl D) (c : Cls X.K C) (hm : Meth X.K C m f) (hr : Rg k X.A) (ho : SO X o oo) (hj : j ≤ k := by decide)
    (ht : eval (.Call (.Attribute o m apos) [] [] pos) X.env = (do
      let ov ← eval o X.env
      standAt apos.atName
      let (f, first) ← holding [ov] (getMethod ov m pl)
      callWith pos f first (backTo pos (starEach [] X.env)) (backToKw pos (keywordEach [] X.env))) := by rfl) : SE X (.Call (.Attribute o m apos) [] [] pos) (iMeth C m D fl oo []) := let ⟨_, _, a, b, _⟩ := G; se_meth0 a (hr.mono hj) c hm b ho ht
end
/-! ### kits -/
def kTy (T c : String) : Option Bool := if T = "tuple" ∨ T = "str" ∨ T = "int" ∨ T = "list" ∨ T = "dict" ∨ T = "bool" ∨ T = "NoneType" then (if c = "tuple" ∨ c = "str" ∨ c = "list" ∨ c = "dict" ∨ c = "bool" then some (decide (T = c)) else if c = "int" then some (decide (T = "int" ∨ T = "bool")) else none) else none
/-- isinstance of values that are no instances of the program's classes -/
def kitT (t c : Value) : Option Bool := match t, c with
  | .type T, .type U => kTy T U
  | _, _ => none
theorem kTy_ok (K : PySem.W.Frag) (T c : String) (b : Bool) (e : kTy T c = some b) : PySem.W.kitOne K (.type T) (.type c) = some b := by
  unfold kTy at e
  split at e
  · rename_i h
    split at e
    · rename_i g
      cases e
      rcases h with rfl | rfl | rfl | rfl | rfl | rfl | rfl <;> rcases g with rfl | rfl | rfl | rfl | rfl <;> first | rfl | kernel_rfl
    · split at e
      · rename_i g
        cases e
        subst g
        rcases h with rfl | rfl | rfl | rfl | rfl | rfl | rfl <;> first | rfl | kernel_rfl
      · cases e
  · cases e
theorem kitT_ok (K : PySem.W.Frag) : KitOk K kitT := by
  refine ⟨fun t c b e => ?_, fun C c b e => ?_⟩
  · unfold kitT at e
    split at e
    · exact kTy_ok K _ _ _ e
    · cases e
  · cases c <;> cases e
end Bx
set_option Elab.async false
set_option linter.all false
set_option maxRecDepth 100000
set_option maxHeartbeats 4000000
/-! L5d: the rules by short names, for printed derivations. -/
namespace Bx
open PySem PySem.Spec PyProof.Rows L2
section
variable [Tbs] {X : Cx} {pos p apos cpos : Pos} {a b e : Expr} {oa ob : Opd} {i : IE} {k : Nat}
/-! ### operators -/
theorem x_add (ha : SO X a oa) (hb : SO X b ob) : SE X (.BinOp a .Add b pos) (iOp opAdd [oa, ob]) := se_bin or_addAll os_add ha hb
theorem x_sub (ha : SO X a oa) (hb : SO X b ob) : SE X (.BinOp a .Sub b pos) (iOp opSub [oa, ob]) := se_bin op_sub os_sub ha hb
theorem x_mul (ha : SO X a oa) (hb : SO X b ob) : SE X (.BinOp a .Mult b pos) (iOp opMul2 [oa, ob]) := se_bin or_mul2 os_mul2 ha hb
theorem x_fdiv (ha : SO X a oa) (hb : SO X b ob) : SE X (.BinOp a .FloorDiv b pos) (iOp opFdiv [oa, ob]) := se_bin op_fdivN os_fdiv ha hb
theorem x_mod (ha : SO X a oa) (hb : SO X b ob) : SE X (.BinOp a .Mod b pos) (iOp opMod [oa, ob]) := se_bin op_modN os_mod ha hb
theorem x_pow (ha : SO X a oa) (hb : SO X b ob) : SE X (.BinOp a .Pow b pos) (iOp opPow [oa, ob]) := se_bin op_pow os_pow ha hb
theorem x_eq (hr : Rg k X.A) (ha : SO X a oa) (hb : SO X b ob) (hm : behindInMarks .Eq b = false := by rfl) : SE X (.Compare a [.Eq] [b] pos) (iOp opEq [oa, ob]) := se_cmp (or_eqD2 hr.u64) os_eq ha hb hm
theorem t_eq (hr : Rg k X.A) (ha : SO X a oa) (hb : SO X b ob) (hm : behindInMarks .Eq b = false := by rfl) : ST X (.Compare a [.Eq] [b] pos) (iB (iOp opEq [oa, ob])) := st_cmp (or_eqD2 hr.u64) os_eq ha hb hm
theorem x_ne (hr : Rg k X.A) (ha : SO X a oa) (hb : SO X b ob) (hm : behindInMarks .NotEq b = false := by rfl) : SE X (.Compare a [.NotEq] [b] pos) (iOp opNe [oa, ob]) := se_cmp (or_neD2 hr.u64) os_ne ha hb hm
theorem t_ne (hr : Rg k X.A) (ha : SO X a oa) (hb : SO X b ob) (hm : behindInMarks .NotEq b = false := by rfl) : ST X (.Compare a [.NotEq] [b] pos) (iB (iOp opNe [oa, ob])) := st_cmp (or_neD2 hr.u64) os_ne ha hb hm
theorem x_is (hr : Rg k X.A) (ha : SO X a oa) (hb : SO X b ob) (hm : behindInMarks .Is b = false := by rfl) : SE X (.Compare a [.Is] [b] pos) (iOp opIs [oa, ob]) := se_cmp or_is os_is ha hb hm
theorem t_is (hr : Rg k X.A) (ha : SO X a oa) (hb : SO X b ob) (hm : behindInMarks .Is b = false := by rfl) : ST X (.Compare a [.Is] [b] pos) (iB (iOp opIs [oa, ob])) := st_cmp or_is os_is ha hb hm
theorem x_isnt (hr : Rg k X.A) (ha : SO X a oa) (hb : SO X b ob) (hm : behindInMarks .IsNot b = false := by rfl) : SE X (.Compare a [.IsNot] [b] pos) (iOp opIsnt [oa, ob]) := se_cmp or_isnt os_isnt ha hb hm
theorem t_isnt (hr : Rg k X.A) (ha : SO X a oa) (hb : SO X b ob) (hm : behindInMarks .IsNot b = false := by rfl) : ST X (.Compare a [.IsNot] [b] pos) (iB (iOp opIsnt [oa, ob])) := st_cmp or_isnt os_isnt ha hb hm
theorem x_in (hr : Rg k X.A) (ha : SO X a oa) (hb : SO X b ob) (hm : behindInMarks .In b = false := by rfl) : SE X (.Compare a [.In] [b] pos) (iOp opIn [oa, ob]) := se_cmp (or_in hr.u65) os_in ha hb hm
theorem t_in (hr : Rg k X.A) (ha : SO X a oa) (hb : SO X b ob) (hm : behindInMarks .In b = false := by rfl) : ST X (.Compare a [.In] [b] pos) (iB (iOp opIn [oa, ob])) := st_cmp (or_in hr.u65) os_in ha hb hm
theorem x_nin (hr : Rg k X.A) (ha : SO X a oa) (hb : SO X b ob) (hm : behindInMarks .NotIn b = false := by rfl) : SE X (.Compare a [.NotIn] [b] pos) (iOp opNotIn [oa, ob]) := se_cmp (or_notIn hr.u65) os_notIn ha hb hm
theorem t_nin (hr : Rg k X.A) (ha : SO X a oa) (hb : SO X b ob) (hm : behindInMarks .NotIn b = false := by rfl) : ST X (.Compare a [.NotIn] [b] pos) (iB (iOp opNotIn [oa, ob])) := st_cmp (or_notIn hr.u65) os_notIn ha hb hm
theorem x_lt (hr : Rg k X.A) (ha : SO X a oa) (hb : SO X b ob) (hm : behindInMarks .Lt b = false := by rfl) : SE X (.Compare a [.Lt] [b] pos) (iOp opLt2 [oa, ob]) := se_cmp (OpR.or or_lt (or_ltD hr.u64)) (os_orE os_lt os_ordD) ha hb hm
theorem t_lt (hr : Rg k X.A) (ha : SO X a oa) (hb : SO X b ob) (hm : behindInMarks .Lt b = false := by rfl) : ST X (.Compare a [.Lt] [b] pos) (iB (iOp opLt2 [oa, ob])) := st_cmp (OpR.or or_lt (or_ltD hr.u64)) (os_orE os_lt os_ordD) ha hb hm
theorem x_le (hr : Rg k X.A) (ha : SO X a oa) (hb : SO X b ob) (hm : behindInMarks .LtE b = false := by rfl) : SE X (.Compare a [.LtE] [b] pos) (iOp opLe2 [oa, ob]) := se_cmp (OpR.or or_le (or_leD hr.u64)) (os_orE os_le os_ordD) ha hb hm
theorem t_le (hr : Rg k X.A) (ha : SO X a oa) (hb : SO X b ob) (hm : behindInMarks .LtE b = false := by rfl) : ST X (.Compare a [.LtE] [b] pos) (iB (iOp opLe2 [oa, ob])) := st_cmp (OpR.or or_le (or_leD hr.u64)) (os_orE os_le os_ordD) ha hb hm
theorem x_gt (hr : Rg k X.A) (ha : SO X a oa) (hb : SO X b ob) (hm : behindInMarks .Gt b = false := by rfl) : SE X (.Compare a [.Gt] [b] pos) (iOp opGt2 [oa, ob]) := se_cmp (OpR.or or_gt (or_gtD hr.u64)) (os_orE os_gt os_ordD) ha hb hm
theorem t_gt (hr : Rg k X.A) (ha : SO X a oa) (hb : SO X b ob) (hm : behindInMarks .Gt b = false := by rfl) : ST X (.Compare a [.Gt] [b] pos) (iB (iOp opGt2 [oa, ob])) := st_cmp (OpR.or or_gt (or_gtD hr.u64)) (os_orE os_gt os_ordD) ha hb hm
theorem x_ge (hr : Rg k X.A) (ha : SO X a oa) (hb : SO X b ob) (hm : behindInMarks .GtE b = false := by rfl) : SE X (.Compare a [.GtE] [b] pos) (iOp opGe2 [oa, ob]) := se_cmp (OpR.or or_ge (or_geD hr.u64)) (os_orE os_ge os_ordD) ha hb hm
theorem t_ge (hr : Rg k X.A) (ha : SO X a oa) (hb : SO X b ob) (hm : behindInMarks .GtE b = false := by rfl) : ST X (.Compare a [.GtE] [b] pos) (iB (iOp opGe2 [oa, ob])) := st_cmp (OpR.or or_ge (or_geD hr.u64)) (os_orE os_ge os_ordD) ha hb hm
theorem x_neg (ha : SO X a oa) : SE X (.UnaryOp .USub a pos) (iOp opNeg [oa]) := se_un un_neg os_neg ha
theorem x_ix (hr : Rg k X.A) (ha : SO X a oa) (hb : SO X b ob) (hs : PlainIx b := by exact fun _ _ => rfl) : SE X (.Subscript a b pos) (iOp opIx [oa, ob]) := se_ix hr.u ha hb hs
theorem x_chLeLe {c : Expr} {ia ib ic : IE} (hr : Rg k X.A) (ha : SE X a ia) (hb : SE X b ib) (hc : SE X c ic) (hm : lastMarks [.LtE, .LtE] [b, c] = false := by with_unfolding_all rfl) : SE X (.Compare a [.LtE, .LtE] [b, c] pos) (iChain opLe2 opLe2 ia ib ic) := se_chain (OpR.or or_le (or_leD hr.u64)) (os_orE os_le os_ordD) (OpR.or or_le (or_leD hr.u64)) (os_orE os_le os_ordD) ha hb hc hm
theorem t_chLeLe {c : Expr} {ia ib ic : IE} (hr : Rg k X.A) (ha : SE X a ia) (hb : SE X b ib) (hc : SE X c ic) (hm : lastMarks [.LtE, .LtE] [b, c] = false := by with_unfolding_all rfl) : ST X (.Compare a [.LtE, .LtE] [b, c] pos) (iB (iChain opLe2 opLe2 ia ib ic)) := st_chain (OpR.or or_le (or_leD hr.u64)) (os_orE os_le os_ordD) (OpR.or or_le (or_leD hr.u64)) (os_orE os_le os_ordD) ha hb hc hm
/-! ### built-in functions -/
theorem x_len (hm : X.mg "len" = none) (h : SO X e oa) (hg : Gl X "len" := by rfl) (he : starEach [e] X.env = [(false, eval e X.env)] := by rfl) : SE X (.Call (.Name "len" p) [e] [] pos) (iOp opLen [oa]) := se_callB (e := e) (es := []) cr_len os_len (sos_cons h sos_nil he) hm hg (he := he) (hpl := rfl)
theorem x_tuple (hm : X.mg "tuple" = none) (h : SO X e oa) (hg : Gl X "tuple" := by rfl) (he : starEach [e] X.env = [(false, eval e X.env)] := by rfl) : SE X (.Call (.Name "tuple" p) [e] [] pos) (iOp opTuple [oa]) := se_callTy (e := e) (es := []) call_tuple_of os_tuple (sos_cons h sos_nil he) hm hg (he := he) (hpl := rfl)
theorem x_list (hc : X.calm = true) (hm : X.mg "list" = none) (h : SO X e oa) (hg : Gl X "list" := by rfl) (he : starEach [e] X.env = [(false, eval e X.env)] := by rfl) : SE X (.Call (.Name "list" p) [e] [] pos) (iOp opList [oa]) := se_callTy (e := e) (es := []) (cr_list hc) os_list (sos_cons h sos_nil he) hm hg (he := he) (hpl := rfl)
theorem x_int (hm : X.mg "int" = none) (h : SO X e oa) (hg : Gl X "int" := by rfl) (he : starEach [e] X.env = [(false, eval e X.env)] := by rfl) : SE X (.Call (.Name "int" p) [e] [] pos) (iOp opInt [oa]) := se_callTy (e := e) (es := []) cr_int os_int (sos_cons h sos_nil he) hm hg (he := he) (hpl := rfl)
theorem x_str (hm : X.mg "str" = none) (h : SO X e oa) (hg : Gl X "str" := by rfl) (he : starEach [e] X.env = [(false, eval e X.env)] := by rfl) : SE X (.Call (.Name "str" p) [e] [] pos) (iOp opStr [oa]) := se_callTy (e := e) (es := []) cr_str os_str (sos_cons h sos_nil he) hm hg (he := he) (hpl := rfl)
theorem x_sorted (hr : Rg k X.A) (hm : X.mg "sorted" = none) (h : SO X e oa) (hg : Gl X "sorted" := by rfl) (he : starEach [e] X.env = [(false, eval e X.env)] := by rfl) : SE X (.Call (.Name "sorted" p) [e] [] pos) (iOp opSorted [oa]) := se_callB (e := e) (es := []) (cr_sortD hr.u64) os_sorted (sos_cons h sos_nil he) hm hg (he := he) (hpl := rfl)
theorem x_sum (hc : X.calm = true) (hm : X.mg "sum" = none) (h : SO X e oa) (hg : Gl X "sum" := by rfl) (he : starEach [e] X.env = [(false, eval e X.env)] := by rfl) : SE X (.Call (.Name "sum" p) [e] [] pos) (iOp opSum [oa]) := se_callB (e := e) (es := []) (cr_sum hc) os_sum (sos_cons h sos_nil he) hm hg (he := he) (hpl := rfl)
theorem x_all (hc : X.calm = true) (hm : X.mg "all" = none) (h : SO X e oa) (hg : Gl X "all" := by rfl) (he : starEach [e] X.env = [(false, eval e X.env)] := by rfl) : SE X (.Call (.Name "all" p) [e] [] pos) (iOp opAll [oa]) := se_callB (e := e) (es := []) (cr_all hc) os_all (sos_cons h sos_nil he) hm hg (he := he) (hpl := rfl)
theorem x_any (hc : X.calm = true) (hm : X.mg "any" = none) (h : SO X e oa) (hg : Gl X "any" := by rfl) (he : starEach [e] X.env = [(false, eval e X.env)] := by rfl) : SE X (.Call (.Name "any" p) [e] [] pos) (iOp opAny [oa]) := se_callB (e := e) (es := []) (cr_any hc) os_any (sos_cons h sos_nil he) hm hg (he := he) (hpl := rfl)
theorem x_min (hc : X.calm = true) (hm : X.mg "min" = none) (h : SO X e oa) (hg : Gl X "min" := by rfl) (he : starEach [e] X.env = [(false, eval e X.env)] := by rfl) : SE X (.Call (.Name "min" p) [e] [] pos) (iOp opMin [oa]) := se_callB (e := e) (es := []) (cr_minAll hc) os_min (sos_cons h sos_nil he) hm hg (he := he) (hpl := rfl)
theorem x_max (hc : X.calm = true) (hm : X.mg "max" = none) (h : SO X e oa) (hg : Gl X "max" := by rfl) (he : starEach [e] X.env = [(false, eval e X.env)] := by rfl) : SE X (.Call (.Name "max" p) [e] [] pos) (iOp opMax [oa]) := se_callB (e := e) (es := []) (cr_maxAll hc) os_max (sos_cons h sos_nil he) hm hg (he := he) (hpl := rfl)
theorem x_repr (hr : Rg k X.A) (hm : X.mg "repr" = none) (h : SO X e oa) (hg : Gl X "repr" := by rfl) (he : starEach [e] X.env = [(false, eval e X.env)] := by rfl) : SE X (.Call (.Name "repr" p) [e] [] pos) (iOp opRepr [oa]) := se_callB (e := e) (es := []) (cr_repr hr.u70 hr.gd) os_repr (sos_cons h sos_nil he) hm hg (he := he) (hpl := rfl)
theorem x_isi {kit : Value → Value → Option Bool} (hk : KitOk X.K kit) (hm : X.mg "isinstance" = none) (ha : SO X a oa) (hb : SO X b ob) (hg : Gl X "isinstance" := by rfl) (he : starEach [a, b] X.env = (false, eval a X.env) :: starEach [b] X.env := by rfl) (he2 : starEach [b] X.env = [(false, eval b X.env)] := by rfl) (hpl : (backTo pos (starEach [b] X.env)).any (·.1) = false := by rfl) : SE X (.Call (.Name "isinstance" p) [a, b] [] pos) (iOp (opIsi kit) [oa, ob]) := se_callB (e := a) (es := [b]) cr_isi (os_isi hk) (sos_cons ha (sos_cons hb sos_nil he2) he) hm hg (he := he) (hpl := hpl)
theorem x_min2 (hc : X.calm = true) (hm : X.mg "min" = none) (ha : SO X a oa) (hb : SO X b ob) (hg : Gl X "min" := by rfl) (he : starEach [a, b] X.env = (false, eval a X.env) :: starEach [b] X.env := by rfl) (he2 : starEach [b] X.env = [(false, eval b X.env)] := by rfl) (hpl : (backTo pos (starEach [b] X.env)).any (·.1) = false := by rfl) : SE X (.Call (.Name "min" p) [a, b] [] pos) (iOp opMin [oa, ob]) := se_callB (e := a) (es := [b]) (cr_minAll hc) os_min (sos_cons ha (sos_cons hb sos_nil he2) he) hm hg (he := he) (hpl := hpl)
theorem x_max2 (hc : X.calm = true) (hm : X.mg "max" = none) (ha : SO X a oa) (hb : SO X b ob) (hg : Gl X "max" := by rfl) (he : starEach [a, b] X.env = (false, eval a X.env) :: starEach [b] X.env := by rfl) (he2 : starEach [b] X.env = [(false, eval b X.env)] := by rfl) (hpl : (backTo pos (starEach [b] X.env)).any (·.1) = false := by rfl) : SE X (.Call (.Name "max" p) [a, b] [] pos) (iOp opMax [oa, ob]) := se_callB (e := a) (es := [b]) (cr_maxAll hc) os_max (sos_cons ha (sos_cons hb sos_nil he2) he) hm hg (he := he) (hpl := hpl)
/-! ### methods of texts, lists -/
theorem x_join (ho : SO X a oa) (he : SO X e ob) (hs : starEach [e] X.env = [(false, eval e X.env)] := by rfl) (hbase : attributeBase a "join" X.env (eval a X.env) = eval a X.env := by rfl) (hline : (apos.endLine == cpos.line) = true := by rfl) : SE X (.Call (.Attribute a "join" apos) [e] [] cpos) (iMt isStr opJoin oa [ob]) := se_m1 F.slot_str_join F.type_str_join mt_join os_join ho he hs hbase hline
theorem x_split (ho : SO X a oa) (he : SO X e ob) (hs : starEach [e] X.env = [(false, eval e X.env)] := by rfl) (hbase : attributeBase a "split" X.env (eval a X.env) = eval a X.env := by rfl) (hline : (apos.endLine == cpos.line) = true := by rfl) : SE X (.Call (.Attribute a "split" apos) [e] [] cpos) (iMt isStr opSplit oa [ob]) := se_m1 F.slot_str_split F.type_str_split mt_split os_split ho he hs hbase hline
theorem x_append {x : Str} {p0 : Pos} (n : Nat) (h : SE X e i) (hN : X.N[n]? = some x := by rfl) (hv : Vis X.env.scope x := by first | exact Or.inl rfl | exact Or.inr (Or.inl rfl) | exact Or.inr (Or.inr rfl)) (hd : (x == ("__debug__" : Str)) = false := by decide) (hcd : (x == ("__classdict__" : Str)) = false := by decide) (hbase : attributeBase (.Name x p0) "append" X.env (eval (.Name x p0) X.env) = eval (.Name x p0) X.env := by rfl) (hfew : ((backTo cpos (starEach [e] X.env)).all (fun x => !x.1) && (backToKw cpos (keywordEach [] X.env)).all (fun x => x.1.isSome) && decide ([e].length + ([] : List Keyword).length + (if ([] : List Keyword).isEmpty then 0 else 1) < 30)) = true := by rfl) (hline : (apos.endLine == cpos.line) = true := by rfl) (hst : starEach [e] X.env = [(false, eval e X.env)] := by rfl) : SE X (.Call (.Attribute (.Name x p0) "append" apos) [e] [] cpos) (iMu muAppend isLK n [i]) := se_muL n PySem.F.slot_list_append PySem.F.type_list_append mt_append ms_append (sas_cons h sas_nil hst) hN hv hd hcd hbase hfew hline hst rfl
theorem x_extend {x : Str} {p0 : Pos} (n : Nat) (h : SE X e i) (hN : X.N[n]? = some x := by rfl) (hv : Vis X.env.scope x := by first | exact Or.inl rfl | exact Or.inr (Or.inl rfl) | exact Or.inr (Or.inr rfl)) (hd : (x == ("__debug__" : Str)) = false := by decide) (hcd : (x == ("__classdict__" : Str)) = false := by decide) (hbase : attributeBase (.Name x p0) "extend" X.env (eval (.Name x p0) X.env) = eval (.Name x p0) X.env := by rfl) (hfew : ((backTo cpos (starEach [e] X.env)).all (fun x => !x.1) && (backToKw cpos (keywordEach [] X.env)).all (fun x => x.1.isSome) && decide ([e].length + ([] : List Keyword).length + (if ([] : List Keyword).isEmpty then 0 else 1) < 30)) = true := by rfl) (hline : (apos.endLine == cpos.line) = true := by rfl) (hst : starEach [e] X.env = [(false, eval e X.env)] := by rfl) : SE X (.Call (.Attribute (.Name x p0) "extend" apos) [e] [] cpos) (iMu muExtend isLK n [i]) := se_muL n PySem.F.slot_list_extend PySem.F.type_list_extend mt_extend ms_extend (sas_cons h sas_nil hst) hN hv hd hcd hbase hfew hline hst rfl
theorem x_popAt {x : Str} {p0 : Pos} (n : Nat) (h : SE X e i) (hN : X.N[n]? = some x := by rfl) (hv : Vis X.env.scope x := by first | exact Or.inl rfl | exact Or.inr (Or.inl rfl) | exact Or.inr (Or.inr rfl)) (hd : (x == ("__debug__" : Str)) = false := by decide) (hcd : (x == ("__classdict__" : Str)) = false := by decide) (hbase : attributeBase (.Name x p0) "pop" X.env (eval (.Name x p0) X.env) = eval (.Name x p0) X.env := by rfl) (hfew : ((backTo cpos (starEach [e] X.env)).all (fun x => !x.1) && (backToKw cpos (keywordEach [] X.env)).all (fun x => x.1.isSome) && decide ([e].length + ([] : List Keyword).length + (if ([] : List Keyword).isEmpty then 0 else 1) < 30)) = true := by rfl) (hline : (apos.endLine == cpos.line) = true := by rfl) (hst : starEach [e] X.env = [(false, eval e X.env)] := by rfl) : SE X (.Call (.Attribute (.Name x p0) "pop" apos) [e] [] cpos) (iMu muPopAt isLK n [i]) := se_muL n PySem.F.slot_list_pop PySem.F.type_list_pop mt_popAt ms_popAt (sas_cons h sas_nil hst) hN hv hd hcd hbase hfew hline hst rfl
theorem x_pop {x : Str} {p0 : Pos} (n : Nat) (hN : X.N[n]? = some x := by rfl) (hv : Vis X.env.scope x := by first | exact Or.inl rfl | exact Or.inr (Or.inl rfl) | exact Or.inr (Or.inr rfl)) (hd : (x == ("__debug__" : Str)) = false := by decide) (hcd : (x == ("__classdict__" : Str)) = false := by decide) (hbase : attributeBase (.Name x p0) "pop" X.env (eval (.Name x p0) X.env) = eval (.Name x p0) X.env := by rfl) (hline : (apos.endLine == cpos.line) = true := by rfl) : SE X (.Call (.Attribute (.Name x p0) "pop" apos) [] [] cpos) (iMu muPop isLK n []) := se_mu0L n PySem.F.slot_list_pop PySem.F.type_list_pop mt_pop ms_pop hN hv hd hcd hbase hline
theorem x_reverse {x : Str} {p0 : Pos} (n : Nat) (hN : X.N[n]? = some x := by rfl) (hv : Vis X.env.scope x := by first | exact Or.inl rfl | exact Or.inr (Or.inl rfl) | exact Or.inr (Or.inr rfl)) (hd : (x == ("__debug__" : Str)) = false := by decide) (hcd : (x == ("__classdict__" : Str)) = false := by decide) (hbase : attributeBase (.Name x p0) "reverse" X.env (eval (.Name x p0) X.env) = eval (.Name x p0) X.env := by rfl) (hline : (apos.endLine == cpos.line) = true := by rfl) : SE X (.Call (.Attribute (.Name x p0) "reverse" apos) [] [] cpos) (iMu muReverse isLK n []) := se_mu0L n PySem.F.slot_list_reverse PySem.F.type_list_reverse mt_reverse ms_reverse hN hv hd hcd hbase hline
theorem x_clear {x : Str} {p0 : Pos} (n : Nat) (hN : X.N[n]? = some x := by rfl) (hv : Vis X.env.scope x := by first | exact Or.inl rfl | exact Or.inr (Or.inl rfl) | exact Or.inr (Or.inr rfl)) (hd : (x == ("__debug__" : Str)) = false := by decide) (hcd : (x == ("__classdict__" : Str)) = false := by decide) (hbase : attributeBase (.Name x p0) "clear" X.env (eval (.Name x p0) X.env) = eval (.Name x p0) X.env := by rfl) (hline : (apos.endLine == cpos.line) = true := by rfl) : SE X (.Call (.Attribute (.Name x p0) "clear" apos) [] [] cpos) (iMu muClear isLK n []) := se_mu0L n PySem.F.slot_list_clear PySem.F.type_list_clear mt_clear ms_clear hN hv hd hcd hbase hline
/-! ### names handed a def -/
def tabN : Addr → Option (DF × List Bool) := fun _ => none
def tabC (f0 : Addr) (D : DF) (fl : List Bool) (t : Addr → Option (DF × List Bool)) : Addr → Option (DF × List Bool) := fun a => if a = f0 then some (D, fl) else t a
def TabG (P : Program) (w : World) (K : PySem.W.Frag) (mg : Str → Option Value) (base : Heap) (k : Nat) (t : Addr → Option (DF × List Bool)) : Prop := ∀ f D fl, t f = some (D, fl) → Gf P w K mg base k f fl D
theorem tabN_ok {P : Program} {w : World} {K : PySem.W.Frag} {mg : Str → Option Value} {base : Heap} : TabG P w K mg base k tabN := fun f D fl h => by cases h
theorem tabC_ok {P : Program} {w : World} {K : PySem.W.Frag} {mg : Str → Option Value} {base : Heap} {j : Nat} {f0 : Addr} {D0 : DF} {fl0 : List Bool} {t : Addr → Option (DF × List Bool)} (G : Gf P w K mg base j f0 fl0 D0) (r : TabG P w K mg base k t) (hj : j ≤ k := by decide) : TabG P w K mg base k (tabC f0 D0 fl0 t) := fun f D fl h => by
  unfold tabC at h
  split at h
  · rename_i e
    cases h
    rw [e]
    exact G.mono hj
  · exact r f D fl h
theorem gf_callV {x : Str} {es : List Expr} {os : List Opd} {j : Nat} {tab : Addr → Option (DF × List Bool)} (n : Nat) (ht : TabG X.prog X.w X.K X.mg X.base j tab) (hr : Rg k X.A) (ha : SOs X (e :: es) os) (hj : j ≤ k := by decide)
    (hN : X.N[n]? = some x := by rfl) (hv : Vis X.env.scope x := by first | exact Or.inl rfl | exact Or.inr (Or.inl rfl) | exact Or.inr (Or.inr rfl)) (hd : (x == ("__debug__" : Str)) = false := by decide) (hcd : (x == ("__classdict__" : Str)) = false := by decide)
    (he : starEach (e :: es) X.env = (false, eval e X.env) :: starEach es X.env := by rfl) (hpl : (backTo pos (starEach es X.env)).any (·.1) = false := by rfl) : SE X (.Call (.Name x p) (e :: es) [] pos) (iCallV n tab os) := se_callV n ht (hr.mono hj) ha hN hv hd hcd he hpl
/-! ### comprehensions in their contexts -/
theorem in_blk {scope : Scope} {Q : Cx → Prop} (h : ∀ (s : Shared) (H : Hp) (C : Addr) (cl : List (Str × Addr)) (fp : List Addr), Q (X.blk s H scope (compEnvC scope cl C X.env) fp)) : ∀ Y, Blk X scope Y → Q Y := fun Y ⟨s, H, C, cl, fp, e⟩ => by rw [e]; exact h s H C cl fp
theorem in_lam {scope : Scope} {k : Nat} {E : XK} {Q : Cx → Prop} (h : ∀ (A : Around) (outer : List Env) (y : Shared) (G : Hp) (f c : Addr), Rg k (A.deeper (LamX.lamEnv X scope y.heap.objs.size f c)) → Q (LamX.lamCx X A outer y G E scope f c)) : ∀ Y, LamC X scope k E Y → Q Y := fun Y ⟨A, outer, y, G, f, c, hr, e⟩ => by rw [e]; exact h A outer y G f c hr
/-- a def that is never called to its end -/
theorem Gf.zero {P : Program} {w : World} {K : PySem.W.Frag} {mg : Str → Option Value} {base : Heap} {f : Addr} {fl : List Bool} {D : DF} {j : Nat} (G : Gf P w K mg base j f fl D) : Gf P w K mg base k f fl (fun _ => .no) := by
  obtain ⟨fd, ps, a, b, c⟩ := G
  refine ⟨fd, ps, ⟨fun vs H Q E h => ?_, fun A outer s H args us vs Q E hr e0 hb hv hs => ?_⟩, b, c⟩
  · obtain ⟨_, _, _, _, _, _, q⟩ := h; exact q.elim
  · obtain ⟨_, _, _, _, _, _, q⟩ := hs; exact q.elim
end
end Bx
set_option Elab.async false
set_option linter.all false
set_option maxRecDepth 100000
set_option maxHeartbeats 4000000
/-! L5e: a lambda handed to a def that tries it, by number; the class's parts. -/
namespace Bx
open PySem PySem.Spec PyProof.Rows L2
/-- a class's statement -/
def clsAt (st : Stmt) (i : Nat) : Stmt := match st with
  | .ClassDef _ _ _ body _ _ _ _ _ _ _ => body.getD i (.Pass ⟨0, 0, 0, 0⟩)
  | _ => .Pass ⟨0, 0, 0, 0⟩
section
variable [Tbs] {P : Program} {w : World} {K : PySem.W.Frag} {mg : Str → Option Value} {base : Heap}
theorem in_hoc {Ng : List Str} {x : Str} {sg : Scope} {g : Addr} {k : Nat} {Q : Cx → Prop} (h : ∀ (cdg : Value) (A : Around) (outer : List Env) (s : Shared) (H : Hp), Rg k (cxOf (L2.CX P w) P w K mg base Ng x sg g cdg A outer s H (fun _ _ _ => False)).A → Q (cxOf (L2.CX P w) P w K mg base Ng x sg g cdg A outer s H (fun _ _ _ => False))) :
    ∀ Z, HoC P w K mg base Ng x sg g k Z → Q Z := fun Z ⟨cdg, A, outer, s, H, hr, e⟩ => by
  subst e; exact h cdg A outer s H hr
theorem gf_lam {X : Cx} {fa : List He.Fa} {fn : List He.DefD} {xs : List (Str × List Str)} (E : Ev fa fn xs X.K X.mg) (iE iG : Nat) {d : He.DefD} {a : Str} {P0 c : Addr} {k : Nat} {params : Arguments} {scope : Scope} {Ng : List Str} {body : Expr} {p lpos pos : Pos} {jpre jpost : IS} {l : List (Value × Option Nat × (Xc → IS))} {i : IE}
    (hi : fn[iE]? = some d) (hat : d.at_ = (d.name, none)) (hq : d.qual = d.name) (hdf : d.dfl = []) (hkw : d.kwd = []) (hgl : fa[iG]? = some (.glo d.name)) (Sg : FnScope Ng [a] d.scope)
    (hbind : ∀ (kV doc pm : Value) (an : Option Addr) (cdv ct : Value) (us : List Value), us.length = [a].length → bindArgs (PySem.W.fnOf d.name d.qual d.params d.body d.scope .none kV doc pm an cdv ct) ⟨us, []⟩ = pure ([a].zip us))
    (hG : HoD X.prog X.w X.K X.mg X.base Ng d.name a d.scope (He.ga X.K d.name) (k + 1) d.body jpre jpost l) (hfx : fxOk fx0 Ng.length l = true)
    (TB : LamX.TabB X.base X.mg c P0) (hcode : X.env.code = .ref c) (hmT : (P0, X.env.qual ++ "<lambda>") ∈ Tbs.l) (hu : ∀ p ∈ Tbs.l, p.1 = P0 → p.2 = X.env.qual ++ "<lambda>") (hr : Rg (k + 2) X.A)
    (hL : LamX.lamSB X.env.scope scope = true) (hdef : defaultsOf params X.env = ([], [])) (hbl : ∀ (q : Str) (cl : List (Str × Addr)) (pm cv ctv : Value), bindArgs (PySem.W.kla_fn "<lambda>" q params body scope cl pm cv ctv) ⟨[], []⟩ = pure [])
    (hb : ∀ E Y, LamC X scope k E Y → SE Y body i) (hNg : Ng[0]? = some a := by rfl) (hva : Vis d.scope a := by exact Or.inl rfl) (hg : Gl X d.name := by rfl) (hdb : (d.name == ("__debug__" : Str)) = false := by decide) (hd : (a == ("__debug__" : Str)) = false := by decide) (hcd : (a == ("__classdict__" : Str)) = false := by decide) :
    SE X (.Call (.Name d.name p) [.Lambda params body scope lpos] [] pos) (iLam (PySem.W.exmOne X.K) Ng.length jpre jpost l i) := by
  obtain ⟨fd, F⟩ := E.sd.def_ iE hi
  have e1 : d.dvs X.K = [] := by unfold He.DefD.dvs; rw [hdf]; rfl
  have e2 : d.kws X.K = [] := by unfold He.DefD.kws; rw [hkw]; rfl
  have ef : He.fAd X.K d.at_ = He.ga X.K d.name := by rw [hat]; rfl
  rw [e1, e2, ef] at F
  rw [hq] at F hbind
  exact se_lam F (F.bindsN hbind) Sg hNg hva hG (fun t c b h => h) hfx (E.glo iG hgl) TB hcode hmT hu hr (LamX.lamS_by hL) hdef hbl hb hg hdb hd hcd
end
end Bx
set_option Elab.async false
set_option linter.all false
set_option maxRecDepth 100000
set_option maxHeartbeats 4000000
/-! L5f: a law's row from what the head tells. -/
namespace Bx
open PySem PySem.Spec PyProof.Rows L2
def xcB (xs : List (Str × List Str)) (K : PySem.W.Frag) : Bool := xs.all fun p => excB K p.1 p.2
theorem Ev.of {fa : List He.Fa} {fn : List He.DefD} {xs : List (Str × List Str)} {tf : List He.Defn} {w : World} {h : Heap} {K : PySem.W.Frag} {mg : Str → Option Value} (KX : K.In h) (G : h.Ns mainGlobals mg) (c : He.SaysX fa fn [] tf (xcB xs) w h K) : Ev fa fn xs K mg :=
  ⟨c.t.d, fun p hp => List.all_eq_true.mp c.more p hp, h, KX, G⟩
section
variable {l : PySem.W.OpenLaw} {w : World} {K : PySem.W.Frag} {mg : Str → Option Value} {fa0 : Addr} {h : Heap} {fa : List He.Fa} {fn : List He.DefD} {xs : List (Str × List Str)} {d : He.DefD} {N : List Str} {x : Str} {n k : Nat} {j : IS}
/-- a law that makes lambdas -/
theorem lawG_lam (KX : K.In h) (G : h.Ns mainGlobals mg) (c : He.SaysX fa fn [] [("law", none)] (xcB xs) w h K) (hmg : mg "law" = some (.ref fa0)) (ig : Nat) (hgl : fa[ig]? = some (.glo "law")) (i : Nat) (hi : fn[i]? = some d) (hat : d.at_ = (("law" : Str), none)) (S : FnScope N [x] d.scope) (hn : 1 ≤ N.length) (hd : d.dfl = []) (hk : d.kwd = [])
    (hbind : ∀ (kV doc pm : Value) (an : Option Addr) (cdv ct : Value) (us : List Value), us.length = [x].length → bindArgs (PySem.W.fnOf d.name d.qual d.params d.body d.scope .none kV doc pm an cdv ct) ⟨us, []⟩ = pure ([x].zip us)) (nm : Str)
    (body : ∀ (T : Tbs) (base : Heap), Ev fa fn xs K mg → ∀ (P1 : Addr) (cdv : Value) (c0 : Addr), cdv = .ref c0 → LamX.TabB base mg c0 P1 → (P1, nm) ∈ T.l → (∀ p ∈ T.l, p.1 = P1 → p.2 = nm) → ∀ (A : Around) (outer : List Env) (s : Shared) (H : Hp) (E : XK), Rg k (A.deeper (envOfC d.qual d.scope s.heap.objs.size (He.fAd K d.at_) cdv)) →
      @SSs T (cxOf (L2.CX l.prog w) l.prog w K mg base N d.qual d.scope (He.fAd K d.at_) cdv A outer s H E) (fxP [false]) d.body j)
    (hD : ∀ ns : List Int, ns.length ≤ n → (∀ z ∈ ns, Builtin.Int.intBits z ≤ 1048576) → ∃ ws, defOf [false] N.length j [scrP ns] = .ret (.bl true) ws) : LawG l w K (k + 1) n x mg fa0 h := by
  have E := Ev.of KX G c
  obtain ⟨fd, b, F⟩ := (letI : Tbs := ⟨[]⟩; Gf.law (P := l.prog) (w := w) E i hi S hn hd hk hbind)
  have ef : fa0 = He.fAd K d.at_ := by
    have e := hmg.symm.trans (E.glo ig hgl)
    cases e
    rw [hat]; rfl
  refine ⟨fd, [He.cT K ("law", none)], ⟨[((He.cT K ("law", none)).2, nm)]⟩, defOf [false] N.length j, fun t ht => ?_, fun t ht => ?_, fun t ht => ?_, b, fun G1 h1 => ?_, hD, fun base kb gb tb => ?_⟩
  · rw [List.mem_singleton] at ht; subst ht; exact c.empty _ (by simp)
  · rw [List.mem_singleton] at ht; subst ht; exact c.out _ (by simp)
  · rw [List.mem_singleton] at ht; subst ht; exact PySem.W.codeHd_of_K KX (c.hd _ (by simp))
  · intro p hp
    have hp' : p = ((He.cT K ("law", none)).2, nm) := List.mem_singleton.mp hp
    subst hp'
    have z := h1 (He.cT K ("law", none)) (by simp)
    exact LamX.TabS.nil z
  · rw [ef]
    refine F ⟨[((He.cT K ("law", none)).2, nm)]⟩ base j k fun cdv ec A outer s H E' hr => body _ base E (He.cT K ("law", none)).2 cdv _ ec ?_ (List.mem_singleton.mpr rfl) (fun p hp e => by rw [List.mem_singleton.mp (show p ∈ [((He.cT K ("law", none)).2, nm)] from hp)]) A outer s H E' hr
    have z := tb (He.cT K ("law", none)) (by simp)
    rw [hat]
    exact z
/-- a law that makes none -/
theorem lawG_non (KX : K.In h) (G : h.Ns mainGlobals mg) (c : He.SaysX fa fn [] [] (xcB xs) w h K) (hmg : mg "law" = some (.ref fa0)) (ig : Nat) (hgl : fa[ig]? = some (.glo "law")) (i : Nat) (hi : fn[i]? = some d) (hat : d.at_ = (("law" : Str), none)) (S : FnScope N [x] d.scope) (hn : 1 ≤ N.length) (hd : d.dfl = []) (hk : d.kwd = [])
    (hbind : ∀ (kV doc pm : Value) (an : Option Addr) (cdv ct : Value) (us : List Value), us.length = [x].length → bindArgs (PySem.W.fnOf d.name d.qual d.params d.body d.scope .none kV doc pm an cdv ct) ⟨us, []⟩ = pure ([x].zip us))
    (body : ∀ (T : Tbs) (base : Heap), Ev fa fn xs K mg → ∀ (cdv : Value) (A : Around) (outer : List Env) (s : Shared) (H : Hp) (E : XK), Rg k (A.deeper (envOfC d.qual d.scope s.heap.objs.size (He.fAd K d.at_) cdv)) →
      @SSs T (cxOf (L2.CX l.prog w) l.prog w K mg base N d.qual d.scope (He.fAd K d.at_) cdv A outer s H E) (fxP [false]) d.body j)
    (hD : ∀ ns : List Int, ns.length ≤ n → (∀ z ∈ ns, Builtin.Int.intBits z ≤ 1048576) → ∃ ws, defOf [false] N.length j [scrP ns] = .ret (.bl true) ws) : LawG l w K (k + 1) n x mg fa0 h := by
  have E := Ev.of KX G c
  obtain ⟨fd, b, F⟩ := (letI : Tbs := ⟨[]⟩; Gf.law (P := l.prog) (w := w) E i hi S hn hd hk hbind)
  have ef : fa0 = He.fAd K d.at_ := by
    have e := hmg.symm.trans (E.glo ig hgl)
    cases e
    rw [hat]; rfl
  refine ⟨fd, [], ⟨[]⟩, defOf [false] N.length j, fun t ht => by simp at ht, fun t ht => by simp at ht, fun t ht => by simp at ht, b, fun G1 h1 => ?_, hD, fun base kb gb tb => ?_⟩
  · intro p hp; exact absurd (show p ∈ ([] : List (Addr × Str)) from hp) (by simp)
  · rw [ef]
    exact F ⟨[]⟩ base j k fun cdv ec A outer s H E' hr => body _ base E cdv A outer s H E' hr
end
end Bx
set_option Elab.async false
set_option linter.all false
set_option maxRecDepth 100000
set_option maxHeartbeats 4000000
/-! L6: how the Lean functions are evaluated: one lemma a combinator, told of its application alone. -/
namespace Bx
open PySem PySem.Spec PyProof.Rows
open L2 (St V)
/-! ### what stands behind a part -/
def zSeq (r : R Sr) (j : IS) : R Sr := match r with
  | .ok .nx vw => j vw
  | r => r
def zIf (r : R Bool) (a b : IS) : R Sr := match r with
  | .ok true vw => a vw
  | .ok false vw => b vw
  | .no => .no
  | .exc x vw => .exc x vw
def zRet (r : R PV) : R Sr := match r with
  | .ok p vw => .ok (.rt p) vw
  | .no => .no
  | .exc x vw => .exc x vw
def zExpr (r : R PV) : R Sr := match r with
  | .ok _ vw => .ok .nx vw
  | .no => .no
  | .exc x vw => .exc x vw
def zAsg (n : Nat) (r : R PV) : R Sr := match r with
  | .ok p vw => if n < vw.length then .ok .nx (vw.set n (some p)) else .no
  | .no => .no
  | .exc x vw => .exc x vw
def zPut1 (n : Nat) (ii : IE) (r : R PV) : R Sr := r.bind fun p => atK n fun vw1 => (ii vw1).bind fun q vw2 => (muFin muPut n [q, p] vw2).bind fun _ vw3 => .ok .nx vw3
def zPut2 (n : Nat) (p : PV) (r : R PV) : R Sr := r.bind fun q vw2 => (muFin muPut n [q, p] vw2).bind fun _ vw3 => .ok .nx vw3
def zOp (f : List PV → Option PV) (r : R (List Od)) : R PV := r.bind fun ods vw' => fin f ods vw'
def zFin (f : List PV → Option PV) (o : Option (List PV)) (vw : Vw) : R PV := match o with
  | none => .no
  | some ps => match f ps with
    | none => .no
    | some p => .ok p vw
def zRes (o : Option PV) (vw : Vw) : R PV := match o with
  | none => .no
  | some p => .ok p vw
def zVal (r : R PV) (os : List Opd) : R (List Od) := r.bind fun p vw1 => (evO os vw1).bind fun l vw' => .ok (.val p :: l) vw'
def zCons (o : Od) (r : R (List Od)) : R (List Od) := r.bind fun l vw' => .ok (o :: l) vw'
def zBor (n : Nat) (x : Option (Option PV)) (r : R (List Od)) : R (List Od) := match x with
  | some (some _) => r.bind fun l vw' => .ok (.bor n :: l) vw'
  | _ => .no
def zVar (n : Nat) (x : Option (Option PV)) (vw : Vw) : R PV := match x with
  | some (some p) => if p.pure = true then .ok p vw else .ok p.shr (vw.set n (some p.shr))
  | _ => .no
def zB (r : R PV) : R Bool := r.bind fun p vw' => match p with
  | .bl k => .ok k vw'
  | _ => .no
def zTr (r : R (List Od)) : R Bool := r.bind fun ods vw' => match resAll vw' ods with
  | some [p] => match truth p with
    | some k => .ok k vw'
    | none => .no
  | _ => .no
def zTrue (o : Option (List PV)) (vw : Vw) : R Bool := match o with
  | some [p] => match truth p with
    | some k => .ok k vw
    | none => .no
  | _ => .no
def zTruth (o : Option Bool) (vw : Vw) : R Bool := match o with
  | some k => .ok k vw
  | none => .no
def zAnd (r : R Bool) (t : IT) : R Bool := match r with
  | .ok true vw => t vw
  | .ok false vw => .ok false vw
  | .no => .no
  | .exc x vw => .exc x vw
def zOr (r : R Bool) (t : IT) : R Bool := match r with
  | .ok true vw => .ok true vw
  | .ok false vw => t vw
  | .no => .no
  | .exc x vw => .exc x vw
def zNot (r : R Bool) : R Bool := match r with
  | .ok k vw => .ok (!k) vw
  | .no => .no
  | .exc x vw => .exc x vw
def zNotE (r : R Bool) : R PV := match r with
  | .ok k vw => .ok (.bl (!k)) vw
  | .no => .no
  | .exc x vw => .exc x vw
def zIfE (r : R Bool) (a b : IE) : R PV := match r with
  | .ok true vw => a vw
  | .ok false vw => b vw
  | .no => .no
  | .exc x vw => .exc x vw
def zAndE (r : R PV) (j : IE) : R PV := r.bind fun p vw' => match truth p with
  | some true => j vw'
  | some false => .ok p vw'
  | none => .no
def zOrE (r : R PV) (j : IE) : R PV := r.bind fun p vw' => match truth p with
  | some true => .ok p vw'
  | some false => j vw'
  | none => .no
def zAndT (o : Option Bool) (p : PV) (vw : Vw) (j : IE) : R PV := match o with
  | some true => j vw
  | some false => .ok p vw
  | none => .no
def zOrT (o : Option Bool) (p : PV) (vw : Vw) (j : IE) : R PV := match o with
  | some true => .ok p vw
  | some false => j vw
  | none => .no
def zA (r : R PV) (is : List IE) : R (List PV) := r.bind fun p vw1 => (evA is vw1).bind fun l vw' => .ok (p :: l) vw'
def zACons (p : PV) (r : R (List PV)) : R (List PV) := r.bind fun l vw' => .ok (p :: l) vw'
def zTup (r : R (List PV)) : R PV := r.bind fun ps vw' => if ps.length ≤ sizeLine then .ok (T ps) vw' else .no
def zLst (r : R (List PV)) : R PV := r.bind fun ps vw' => if ps.length ≤ sizeLine then .ok (L ps) vw' else .no
def zDisp (ks : List Str) (r : R (List PV)) : R PV := r.bind (dispFin ks)
def zShr (r : R PV) : R PV := match r with
  | .ok p vw => .ok p.shr vw
  | .no => .no
  | .exc x vw => .exc x vw
def zCall (D : DF) (fl : List Bool) (r : R (List Od)) : R PV := r.bind (callFin D fl)
def zMv (D : DF) (o : Option (List PV × List (Option Nat) × Vw)) : R PV := match o with
  | none => .no
  | some (ps, ns, vw1) => match D ps with
    | .no => .no
    | .ret p ws => match wb ns ws vw1 with
      | some vw2 => .ok p vw2
      | none => .no
    | .exc x ws => match wb ns ws vw1 with
      | some vw2 => .exc x vw2
      | none => .no
def zRf (d : RF) (ns : List (Option Nat)) (vw1 : Vw) : R PV := match d with
  | .no => .no
  | .ret p ws => match wb ns ws vw1 with
    | some vw2 => .ok p vw2
    | none => .no
  | .exc x ws => match wb ns ws vw1 with
    | some vw2 => .exc x vw2
    | none => .no
def zWb (p : PV) (o : Option Vw) : R PV := match o with
  | some vw2 => .ok p vw2
  | none => .no
def zWx (x : Xc) (o : Option Vw) : R PV := match o with
  | some vw2 => .exc x vw2
  | none => .no
def zFor (r : R (List PV)) (f : TgF) (b : IS) : R Sr := match r with
  | .ok ps vw => jLoop f b ps vw
  | .no => .no
  | .exc x vw => .exc x vw
def zLoop (o : Option Vw) (f : TgF) (b : IS) (ps : List PV) : R Sr := match o with
  | none => .no
  | some vw1 => match b vw1 with
    | .ok .nx vw2 => jLoop f b ps vw2
    | .ok .ct vw2 => jLoop f b ps vw2
    | .ok .bk vw2 => .ok .nx vw2
    | r => r
def zTurn (r : R Sr) (f : TgF) (b : IS) (ps : List PV) : R Sr := match r with
  | .ok .nx vw2 => jLoop f b ps vw2
  | .ok .ct vw2 => jLoop f b ps vw2
  | .ok .bk vw2 => .ok .nx vw2
  | r => r
def zBr (x : Option (Option PV)) (o : Option (List PV)) : Option (List PV) := match x with
  | some (some p) => o.map (p :: ·)
  | _ => none
def zMb (n : Nat) (fl : List Bool) (ods : List Od) (vw : Vw) (x : Option (Option PV)) : Option (List PV × List (Option Nat) × Vw) := match x with
  | some (some p) => (mvArgs fl ods (vw.set n none)).map fun r => (p :: r.1, some n :: r.2.1, r.2.2)
  | _ => none
def zWs (n : Nat) (p : PV) (l : List (Option Nat)) (ps : List PV) (vw : Vw) (x : Option (Option PV)) : Option Vw := match x with
  | some none => wb l ps (vw.set n (some p))
  | _ => none
def zGd (b : Bool) (r : R Sr) : R Sr := match b with
  | true => r
  | false => .no
def zHk (ok : Kd → Bool) (x : Option (Option PV)) : Bool := match x with
  | some (some (.nd k true _)) => ok k
  | _ => false
def zMu (f : Kd → List PV → List PV → Option (Kd × List PV × PV)) (ok : Kd → Bool) (n : Nat) (r : R (List PV)) (b : Bool) : R PV := match b with
  | true => r.bind (muFin f n)
  | false => .no
def zMf (f : Kd → List PV → List PV → Option (Kd × List PV × PV)) (n : Nat) (ps : List PV) (vw : Vw) (x : Option (Option PV)) : R PV := match x with
  | some (some (.nd k true xs)) => match isMk k, f k xs ps with
    | true, some (k', xs', q) => .ok q (vw.set n (some (.nd k' true xs')))
    | _, _ => .no
  | _ => .no
def zMo (n : Nat) (vw : Vw) (x : Option (Kd × List PV × PV)) : R PV := match x with
  | some (k', xs', q) => .ok q (vw.set n (some (.nd k' true xs')))
  | none => .no
def zPu (b : Bool) (p : PV) (n : Nat) (vw : Vw) : R PV := match b with
  | true => .ok p vw
  | false => .ok p.shr (vw.set n (some p.shr))
def zEnd (fl : List Bool) (r : R Sr) : RF := defEnd fl r
def zRetF (p : PV) (o : Option (List PV)) : RF := match o with
  | some ws => .ret p ws
  | none => .no
def zExcF (x : Xc) (o : Option (List PV)) : RF := match o with
  | some ws => .exc x ws
  | none => .no
section
variable (vw vw' : Vw) (p q : PV) (x : Xc) (n : Nat) (i i1 i2 : IE) (j j1 j2 : IS) (t t1 t2 : IT) (f : List PV → Option PV) (os : List Opd) (ods : List Od) (is : List IE) (ps : List PV) (D : DF) (fl : List Bool) (l : List (Option Nat))
theorem e_def : defOf fl n j ps = zEnd fl (j (mkVw n ps)) := rfl
theorem e_end_nx : zEnd fl (.ok .nx vw) = zRetF .non (takeP fl vw) := rfl
theorem e_end_rt : zEnd fl (.ok (.rt p) vw) = zRetF p (takeP fl vw) := rfl
theorem e_end_exc : zEnd fl (.exc x vw) = zExcF x (takeP fl vw) := rfl
theorem e_retF : zRetF p (some ps) = .ret p ps := rfl
theorem e_excF : zExcF x (some ps) = .exc x ps := rfl
theorem e_seq : jSeq j1 j2 vw = zSeq (j1 vw) j2 := by unfold jSeq zSeq; cases j1 vw with | ok o v => cases o <;> rfl | _ => rfl
theorem e_seq_nx : zSeq (.ok .nx vw) j = j vw := rfl
theorem e_seq_rt : zSeq (.ok (.rt p) vw) j = .ok (.rt p) vw := rfl
theorem e_seq_bk : zSeq (.ok .bk vw) j = .ok .bk vw := rfl
theorem e_seq_ct : zSeq (.ok .ct vw) j = .ok .ct vw := rfl
theorem e_seq_exc : zSeq (.exc x vw) j = .exc x vw := rfl
theorem e_nx : jNx vw = .ok .nx vw := rfl
theorem e_bk : jBk vw = .ok .bk vw := rfl
theorem e_ct : jCt vw = .ok .ct vw := rfl
theorem e_retN : jRetN vw = .ok (.rt .non) vw := rfl
theorem e_if : jIf t j1 j2 vw = zIf (t vw) j1 j2 := by unfold jIf zIf; cases t vw with | ok k v => cases k <;> rfl | _ => rfl
theorem e_if_t : zIf (.ok true vw) j1 j2 = j1 vw := rfl
theorem e_if_f : zIf (.ok false vw) j1 j2 = j2 vw := rfl
theorem e_if_x : zIf (.exc x vw) j1 j2 = .exc x vw := rfl
theorem e_ret : jRet i vw = zRet (i vw) := by unfold jRet zRet; cases i vw <;> rfl
theorem e_ret_ok : zRet (.ok p vw) = .ok (.rt p) vw := rfl
theorem e_ret_x : zRet (.exc x vw) = .exc x vw := rfl
theorem e_expr : jExpr i vw = zExpr (i vw) := by unfold jExpr zExpr; cases i vw <;> rfl
theorem e_expr_ok : zExpr (.ok p vw) = .ok .nx vw := rfl
theorem e_expr_x : zExpr (.exc x vw) = .exc x vw := rfl
theorem e_asg : jAsg n i vw = zAsg n (i vw) := by unfold jAsg zAsg; cases i vw <;> rfl
theorem e_asg_ok : zAsg n (.ok p vw) = if n < vw.length then .ok .nx (vw.set n (some p)) else .no := rfl
theorem e_asg_x : zAsg n (.exc x vw) = .exc x vw := rfl
theorem e_put : jPut n i1 i2 vw = zPut1 n i1 (i2 vw) := rfl
theorem e_put1 : zPut1 n i (.ok p vw) = zGd (hasK isMk n vw) (zPut2 n p (i vw)) := by
  show atK n (fun vw1 => (i vw1).bind fun q vw2 => (muFin muPut n [q, p] vw2).bind fun _ vw3 => R.ok Sr.nx vw3) vw = zGd (hasK isMk n vw) (zPut2 n p (i vw))
  unfold atK zGd
  cases hasK isMk n vw <;> rfl
theorem e_hk (ok : Kd → Bool) : hasK ok n vw = zHk ok vw[n]? := by unfold hasK zHk; rfl
theorem e_hk1 (ok : Kd → Bool) (k : Kd) : zHk ok (some (some (.nd k true ps))) = ok k := rfl
theorem e_mk_l : isMk .lst = true := rfl
theorem e_lk_l : isLK .lst = true := rfl
theorem e_mk_d (ks : List L2.Key) : isMk (.dk ks) = true := rfl
theorem e_mk_i (C : Addr) (ks : List Str) : isMk (.ins C ks) = true := rfl
theorem e_mu (g : Kd → List PV → List PV → Option (Kd × List PV × PV)) (ok : Kd → Bool) : iMu g ok n is vw = zMu g ok n (evA is vw) (hasK ok n vw) := by unfold iMu zMu; cases hasK ok n vw <;> rfl
theorem e_mu_ok (g : Kd → List PV → List PV → Option (Kd × List PV × PV)) (ok : Kd → Bool) : zMu g ok n (.ok ps vw) true = muFin g n ps vw := rfl
theorem e_mu_x (g : Kd → List PV → List PV → Option (Kd × List PV × PV)) (ok : Kd → Bool) : zMu g ok n (.exc x vw) true = .exc x vw := rfl
theorem e_mf (g : Kd → List PV → List PV → Option (Kd × List PV × PV)) : muFin g n ps vw = zMf g n ps vw vw[n]? := by unfold muFin zMf; rfl
theorem e_mf1 (g : Kd → List PV → List PV → Option (Kd × List PV × PV)) (qs : List PV) : zMf g n ps vw (some (some (.nd .lst true qs))) = zMo n vw (g .lst qs ps) := by unfold zMf zMo; show (match true, g .lst qs ps with | true, some (k', xs', q) => _ | _, _ => _) = _; cases g .lst qs ps <;> rfl
theorem e_mo (k : Kd) (qs : List PV) : zMo n vw (some (k, qs, p)) = .ok p (vw.set n (some (.nd k true qs))) := rfl
theorem e_gd (r : R Sr) : zGd true r = r := rfl
theorem e_put2 : zPut2 n p (.ok q vw) = zExpr (muFin muPut n [q, p] vw) := by unfold zPut2 zExpr; show (muFin muPut n [q, p] vw).bind _ = _; cases muFin muPut n [q, p] vw <;> rfl
theorem e_op : iOp f os vw = zOp f (evO os vw) := rfl
theorem e_op_ok : zOp f (.ok ods vw) = zFin f (resAll vw ods) vw := rfl
theorem e_op_x : zOp f (.exc x vw) = .exc x vw := rfl
theorem e_fin0 : fin f ods vw = zFin f (resAll vw ods) vw := rfl
theorem e_fin : zFin f (some ps) vw = zRes (f ps) vw := rfl
theorem e_res : zRes (some p) vw = .ok p vw := rfl
theorem e_evO0 : evO [] vw = .ok [] vw := rfl
theorem e_evOe : evO (.e i :: os) vw = zVal (i vw) os := rfl
theorem e_val : zVal (.ok p vw) os = zCons (.val p) (evO os vw) := rfl
theorem e_val_x : zVal (.exc x vw) os = .exc x vw := rfl
theorem e_cons (o : Od) : zCons o (.ok ods vw) = .ok (o :: ods) vw := rfl
theorem e_cons_x (o : Od) : zCons o (.exc x vw) = .exc x vw := rfl
theorem e_evOv : evO (.v n :: os) vw = zBor n vw[n]? (evO os vw) := by rw [evO]; unfold zBor; cases vw[n]? with | none => rfl | some y => cases y <;> rfl
theorem e_bor (r : R (List Od)) : zBor n (some (some p)) r = zCons (.bor n) r := rfl
theorem e_resAll0 : resAll vw [] = some [] := rfl
theorem e_resAllv : resAll vw (.val p :: ods) = (resAll vw ods).map (p :: ·) := by rw [resAll]; show (match some p with | none => none | some p => _) = _; simp only; cases resAll vw ods <;> rfl
theorem e_resAllb : resAll vw (.bor n :: ods) = zBr vw[n]? (resAll vw ods) := by
  rw [resAll, res]
  unfold zBr
  cases vw[n]? with
  | none => rfl
  | some y => cases y with
    | none => rfl
    | some p => simp only; cases resAll vw ods <;> rfl
theorem e_br (o : Option (List PV)) : zBr (some (some p)) o = o.map (p :: ·) := rfl
theorem e_mapS (g : List PV → List PV) : (some ps).map g = some (g ps) := rfl
theorem e_c : iC p vw = .ok p vw := rfl
theorem e_var : iVar n vw = zVar n vw[n]? vw := by unfold iVar zVar; cases vw[n]? with | none => rfl | some y => cases y <;> rfl
theorem e_vari : zVar n (some (some p)) vw = zPu p.pure p n vw := by unfold zVar zPu; simp only; cases p.pure <;> rfl
theorem e_pu_t : zPu true p n vw = .ok p vw := rfl
theorem e_pu_f : zPu false p n vw = .ok p.shr (vw.set n (some p.shr)) := rfl
theorem e_b : iB i vw = zB (i vw) := rfl
theorem e_b_ok (k : Bool) : zB (.ok (.bl k) vw) = .ok k vw := rfl
theorem e_b_x : zB (.exc x vw) = .exc x vw := rfl
theorem e_tr : iTr os vw = zTr (evO os vw) := rfl
theorem e_tr_ok : zTr (.ok ods vw) = zTrue (resAll vw ods) vw := by unfold zTr zTrue; rfl
theorem e_true : zTrue (some [p]) vw = zTruth (truth p) vw := by unfold zTrue zTruth; rfl
theorem e_truth (k : Bool) : zTruth (some k) vw = .ok k vw := rfl
theorem e_truth_b (k : Bool) : truth (.bl k) = some k := rfl
theorem e_andT : iAndT t1 t2 vw = zAnd (t1 vw) t2 := by unfold iAndT zAnd; cases t1 vw with | ok k v => cases k <;> rfl | _ => rfl
theorem e_and_t : zAnd (.ok true vw) t = t vw := rfl
theorem e_and_f : zAnd (.ok false vw) t = .ok false vw := rfl
theorem e_orT : iOrT t1 t2 vw = zOr (t1 vw) t2 := by unfold iOrT zOr; cases t1 vw with | ok k v => cases k <;> rfl | _ => rfl
theorem e_or_t : zOr (.ok true vw) t = .ok true vw := rfl
theorem e_or_f : zOr (.ok false vw) t = t vw := rfl
theorem e_notT : iNotT t vw = zNot (t vw) := by unfold iNotT zNot; cases t vw <;> rfl
theorem e_not_ok (k : Bool) : zNot (.ok k vw) = .ok (!k) vw := rfl
theorem e_notE (o : Opd) : iNotE o vw = zNotE (iTr [o] vw) := by unfold iNotE zNotE; cases iTr [o] vw <;> rfl
theorem e_notE_ok (k : Bool) : zNotE (.ok k vw) = .ok (.bl (!k)) vw := rfl
theorem e_ifE : iIf t i1 i2 vw = zIfE (t vw) i1 i2 := by unfold iIf zIfE; cases t vw with | ok k v => cases k <;> rfl | _ => rfl
theorem e_ifE_t : zIfE (.ok true vw) i1 i2 = i1 vw := rfl
theorem e_ifE_f : zIfE (.ok false vw) i1 i2 = i2 vw := rfl
theorem e_andE : iAndE i1 i2 vw = zAndE (i1 vw) i2 := rfl
theorem e_andE_ok : zAndE (.ok p vw) i = zAndT (truth p) p vw i := by unfold zAndE zAndT; rfl
theorem e_andE_t : zAndT (some true) p vw i = i vw := rfl
theorem e_andE_f : zAndT (some false) p vw i = .ok p vw := rfl
theorem e_orE : iOrE i1 i2 vw = zOrE (i1 vw) i2 := rfl
theorem e_orE_ok : zOrE (.ok p vw) i = zOrT (truth p) p vw i := by unfold zOrE zOrT; rfl
theorem e_orE_t : zOrT (some true) p vw i = .ok p vw := rfl
theorem e_orE_f : zOrT (some false) p vw i = i vw := rfl
theorem e_evA0 : evA [] vw = .ok [] vw := rfl
theorem e_evA : evA (i :: is) vw = zA (i vw) is := rfl
theorem e_A : zA (.ok p vw) is = zACons p (evA is vw) := rfl
theorem e_A_x : zA (.exc x vw) is = .exc x vw := rfl
theorem e_ACons : zACons p (.ok ps vw) = .ok (p :: ps) vw := rfl
theorem e_ACons_x : zACons p (.exc x vw) = .exc x vw := rfl
theorem e_tup : iTup is vw = zTup (evA is vw) := rfl
theorem e_tup_ok : zTup (.ok ps vw) = if ps.length ≤ sizeLine then .ok (T ps) vw else .no := rfl
theorem e_lst : iLst is vw = zLst (evA is vw) := rfl
theorem e_lst_ok : zLst (.ok ps vw) = if ps.length ≤ sizeLine then .ok (L ps) vw else .no := rfl
theorem e_disp (ks : List Str) : iDisp ks is vw = zDisp ks (evA is vw) := rfl
theorem e_disp_ok (ks : List Str) : zDisp ks (.ok ps vw) = if ps.length = ks.length then .ok (.nd (.dk (ks.map .inr)) true ps) vw else .no := rfl
theorem e_shr : iShr i vw = zShr (i vw) := by unfold iShr zShr; cases i vw <;> rfl
theorem e_shr_ok : zShr (.ok p vw) = .ok p.shr vw := rfl
theorem e_call : iCall D fl os vw = zCall D fl (evO os vw) := rfl
theorem e_call_ok : zCall D fl (.ok ods vw) = zMv D (mvArgs fl ods vw) := rfl
theorem e_mv : zMv D (some (ps, l, vw)) = zRf (D ps) l vw := by
  unfold zMv
  simp only
  unfold zRf
  cases D ps <;> rfl
theorem e_rf : zRf (.ret p ps) l vw = zWb p (wb l ps vw) := by
  unfold zRf zWb
  simp only
theorem e_rf_x : zRf (.exc x ps) l vw = zWx x (wb l ps vw) := by
  unfold zRf zWx
  simp only
theorem e_wb : zWb p (some vw) = .ok p vw := rfl
theorem e_wx : zWx x (some vw) = .exc x vw := rfl
theorem e_mvv : mvArgs (true :: fl) (.val p :: ods) vw = (mvArgs fl ods vw).map fun r => (p :: r.1, none :: r.2.1, r.2.2) := rfl
theorem e_mvf : mvArgs (false :: fl) (.val p :: ods) vw = (mvArgs fl ods vw).map fun r => (p :: r.1, r.2.1, r.2.2) := rfl
theorem e_mvb : mvArgs (true :: fl) (.bor n :: ods) vw = zMb n fl ods vw vw[n]? := by
  rw [mvArgs]
  unfold zMb
  cases vw[n]? with
  | none => rfl
  | some y => cases y <;> rfl
theorem e_mb : zMb n fl ods vw (some (some p)) = (mvArgs fl ods (vw.set n none)).map fun r => (p :: r.1, some n :: r.2.1, r.2.2) := rfl
theorem e_mv0 : mvArgs [] [] vw = some ([], [], vw) := rfl
theorem e_mapM {α β : Type} (a : α) (g : α → β) : (some a).map g = some (g a) := rfl
theorem e_wb0 : wb [] [] vw = some vw := rfl
theorem e_wbs : wb (some n :: l) (p :: ps) vw = zWs n p l ps vw vw[n]? := by
  rw [wb]
  unfold zWs
  cases vw[n]? with
  | none => rfl
  | some y => cases y <;> rfl
theorem e_ws : zWs n p l ps vw (some none) = wb l ps (vw.set n (some p)) := rfl
theorem e_wbn : wb (none :: l) (p :: ps) vw = wb l ps vw := rfl
theorem e_p_int (k : Int) : (PV.int k).pure = true := rfl
theorem e_p_str (k : Str) : (PV.str k).pure = true := rfl
theorem e_p_bl (k : Bool) : (PV.bl k).pure = true := rfl
theorem e_p_non : PV.non.pure = true := rfl
theorem e_p_ref (k : Addr) : (PV.ref k).pure = true := rfl
theorem e_p_ty (k : String) : (PV.ty k).pure = true := rfl
theorem e_s_int (k : Int) : (PV.int k).shr = PV.int k := rfl
theorem e_s_str (k : Str) : (PV.str k).shr = PV.str k := rfl
theorem e_s_bl (k : Bool) : (PV.bl k).shr = PV.bl k := rfl
theorem e_s_non : PV.non.shr = PV.non := rfl
theorem e_for (s : IL) (g : TgF) (b : IS) : jFor s g b vw = zFor (s vw) g b := by unfold jFor zFor; cases s vw <;> rfl
theorem e_for_ok (g : TgF) (b : IS) : zFor (.ok ps vw) g b = jLoop g b ps vw := rfl
theorem e_loop0 (g : TgF) (b : IS) : jLoop g b [] vw = .ok .nx vw := rfl
theorem e_loop (g : TgF) (b : IS) : jLoop g b (p :: ps) vw = zLoop (g p vw) g b ps := by rw [jLoop]; rfl
theorem e_loop1 (g : TgF) (b : IS) : zLoop (some vw) g b ps = zTurn (b vw) g b ps := by
  unfold zLoop
  simp only
  unfold zTurn
  cases b vw with
  | ok o v => cases o <;> rfl
  | _ => rfl
theorem e_turn_nx (g : TgF) (b : IS) : zTurn (.ok .nx vw) g b ps = jLoop g b ps vw := rfl
theorem e_turn_rt (g : TgF) (b : IS) : zTurn (.ok (.rt p) vw) g b ps = .ok (.rt p) vw := rfl
theorem e_gN : gN n p vw = if n < vw.length then some (vw.set n (some p)) else none := rfl
end
end Bx
set_option Elab.async false
set_option linter.all false
set_option maxRecDepth 100000
set_option maxHeartbeats 4000000
/-! L7: operations at known arguments; the laws' pen. -/
namespace Bx
open PySem PySem.Spec PyProof.Rows
open L2 (Key atI ixN)
theorem o_add (x y : Int) : opAdd [.int x, .int y] = some (.int (x + y)) := rfl
theorem o_sub (x y : Int) : opSub [.int x, .int y] = some (.int (x - y)) := rfl
theorem o_neg (x : Int) : opNeg [.int x] = some (.int (-x)) := rfl
theorem o_mulC (x y : Int) (h : -18446744073709551616 < y ∧ y < 18446744073709551616) : opMul2 [.int x, .int y] = some (.int (x * y)) := by
  show (if _ then some (PV.int (x * y)) else none) = _
  exact if_pos (.inr ⟨by simpa using h.1, by simpa using h.2⟩)
theorem o_fdiv (x y : Int) (h : 0 < y ∧ y < 1073741824) : opFdiv [.int x, .int y] = some (.int (x.fdiv y)) := by
  show (if _ then _ else none) = _
  exact if_pos ⟨by omega, by omega⟩
theorem o_mod (x y : Int) (h : 0 < y) : opMod [.int x, .int y] = some (.int (x.fmod y)) := by
  show (if _ then _ else none) = _
  exact if_pos (by omega)
theorem o_pow (x y : Int) (h : 0 ≤ y ∧ y ≤ 1000000 ∧ -18446744073709551616 < x ∧ x < 18446744073709551616) : opPow [.int x, .int y] = some (.int (x ^ y.toNat)) := by
  show (if _ then _ else none) = _
  exact if_pos ⟨h.1, h.2.1, by omega⟩
theorem o_int (x : Int) : opInt [.int x] = some (.int x) := rfl
theorem o_eq (x y : Int) : opEq [.int x, .int y] = some (.bl (decide (x = y))) := by
  show (if min (PyData.int x).depth (PyData.int y).depth ≤ 64 then some (PV.bl (PyData.eqv (.int x) (.int y))) else none) = _
  rw [if_pos (by simp [PyData.depth])]
  rfl
theorem o_ne (x y : Int) : opNe [.int x, .int y] = some (.bl (!decide (x = y))) := by
  show (if min (PyData.int x).depth (PyData.int y).depth ≤ 64 then some (PV.bl (!PyData.eqv (.int x) (.int y))) else none) = _
  rw [if_pos (by simp [PyData.depth])]
  rfl
theorem o_lt (x y : Int) : opLt2 [.int x, .int y] = some (.bl (decide (x < y))) := rfl
theorem o_le (x y : Int) : opLe2 [.int x, .int y] = some (.bl (decide (x ≤ y))) := rfl
theorem o_gt (x y : Int) : opGt2 [.int x, .int y] = some (.bl (decide (y < x))) := rfl
theorem o_ge (x y : Int) : opGe2 [.int x, .int y] = some (.bl (decide (y ≤ x))) := rfl
theorem o_len_l (o : Bool) (xs : List PV) : opLen [.nd .lst o xs] = some (.int xs.length) := rfl
theorem o_len_t (o : Bool) (xs : List PV) : opLen [.nd .tup o xs] = some (.int xs.length) := rfl
theorem atI_nat {α : Type} (xs : List α) (k : Nat) (h : k < xs.length) : atI xs (k : Int) = some xs[k] := by
  unfold atI ixN
  rw [if_pos (by omega), if_pos (by omega)]
  show xs[(k : Int).toNat]? = _
  rw [Int.toNat_natCast]
  exact List.getElem?_eq_getElem h
theorem o_ix_l (o : Bool) (xs : List PV) (k : Nat) (h : k < xs.length) (hp : xs[k].pure = true) : opIx [.nd .lst o xs, .int (k : Int)] = some xs[k] := by
  show (match atI xs (k : Int) with
    | some p => if p.pure = true then some p else none
    | none => none) = _
  rw [atI_nat xs k h]
  exact if_pos hp
theorem o_ix_t (o : Bool) (xs : List PV) (k : Nat) (h : k < xs.length) (hp : xs[k].pure = true) : opIx [.nd .tup o xs, .int (k : Int)] = some xs[k] := by
  show (match atI xs (k : Int) with
    | some p => if p.pure = true then some p else none
    | none => none) = _
  rw [atI_nat xs k h]
  exact if_pos hp
theorem pures_get : ∀ {xs : List PV}, pures xs = true → ∀ (k : Nat) (hk : k < xs.length), xs[k].pure = true
  | [], _, k, hk => absurd hk (Nat.not_lt_zero k)
  | x :: xs, h, k, hk => by
    rw [pures, Bool.and_eq_true] at h
    cases k with
    | zero => exact h.1
    | succ k => exact pures_get h.2 k (by simpa using hk)
/-! ### the pen -/
def ck (cs : List Int) : PV := .nd .lst false (cs.map PV.int)
theorem ck_pure (cs : List Int) : (ck cs).pure = true := by rw [ck, PV.pure, pures_ints]; rfl
abbrev pks : List Key := [.inr "cells", .inr "at", .inr "digits", .inr "count", .inr "fold"]
def pen (cs : List Int) (a : Nat) (d n f : Int) : PV := .nd (.dk pks) true [ck cs, .int a, .int d, .int n, .int f]
section
variable (cs : List Int) (a b : Nat) (d n f m : Int)
theorem pn_cells : opIx [pen cs a d n f, .str "cells"] = some (ck cs) := by
  show (if (ck cs).pure = true then some (ck cs) else none) = _
  rw [if_pos (ck_pure cs)]
theorem pn_at : opIx [pen cs a d n f, .str "at"] = some (.int a) := rfl
theorem pn_digits : opIx [pen cs a d n f, .str "digits"] = some (.int d) := rfl
theorem pn_count : opIx [pen cs a d n f, .str "count"] = some (.int n) := rfl
theorem pn_fold : opIx [pen cs a d n f, .str "fold"] = some (.int f) := rfl
theorem pn_has (ok : Kd → Bool) (vw : Vw) : hasK ok 0 (some (pen cs a d n f) :: vw) = ok (.dk pks) := rfl
theorem pn_mk : isMk (.dk pks) = true := rfl
theorem pp_count (vw : Vw) : muFin muPut 0 [.str "count", .int m] (some (pen cs a d n f) :: vw) = .ok .non (some (pen cs a d m f) :: vw) := rfl
theorem pp_at (vw : Vw) : muFin muPut 0 [.str "at", .int ((a : Int) + 1)] (some (pen cs a d n f) :: vw) = .ok .non (some (pen cs (a + 1) d n f) :: vw) := rfl
theorem pp_digits (vw : Vw) : muFin muPut 0 [.str "digits", .int m] (some (pen cs a d n f) :: vw) = .ok .non (some (pen cs a m n f) :: vw) := rfl
theorem pp_fold (vw : Vw) : muFin muPut 0 [.str "fold", .int m] (some (pen cs a d n f) :: vw) = .ok .non (some (pen cs a d n m) :: vw) := rfl
theorem ck_len : opLen [ck cs] = some (.int cs.length) := by rw [ck, o_len_l, List.length_map]
theorem ck_at (h : a < cs.length) : opIx [ck cs, .int a] = some (.int cs[a]) := by
  have := o_ix_l false (cs.map PV.int) a (by simpa using h) (by simp; rfl)
  rw [ck, this]
  simp
end
/-- a pen from which at most c numbers were drawn -/
def Pen (c : Nat) (p : PV) : Prop := ∃ (cs : List Int) (a : Nat) (d n f : Int), p = pen cs a d n f ∧ 0 ≤ d ∧ 0 ≤ n ∧ n ≤ c ∧ 0 ≤ f ∧ f < 2147483353
theorem Pen.mono {c c' : Nat} {p : PV} (h : Pen c p) (hc : c ≤ c') : Pen c' p := let ⟨cs, a, d, n, f, e, h1, h2, h3, h4, h5⟩ := h; ⟨cs, a, d, n, f, e, h1, h2, by omega, h4, h5⟩
end Bx
set_option Elab.async false
set_option linter.all false
set_option maxRecDepth 100000
set_option maxHeartbeats 4000000
/-! L8: more evaluation lemmas: sources, comprehensions, methods, fields, raise, while. -/
namespace Bx
open PySem PySem.Spec PyProof.Rows
open L2 (Key atI ixN)
def yRng (r : R (List PV)) : R (List PV) := r.bind rng1
def yRng2 (r : R (List PV)) : R (List PV) := r.bind rng2
def ySeq (r : R PV) : R (List PV) := r.bind fun p vw' => match itemsOf p with
  | some ps => .ok ps vw'
  | none => .no
def yItems (o : Option (List PV)) (vw : Vw) : R (List PV) := match o with
  | some ps => .ok ps vw
  | none => .no
def yEnum (r : R (List PV)) : R (List PV) := r.bind enum1
def yZip (r : R (List PV)) : R (List PV) := r.bind zip2
def yLc (f : TgF) (tt : IT) (te : IE) (vs : List Nat) (r : R (List PV)) : R PV := r.bind fun ps vw1 => (lcTurns f tt te vs ps [] (wipeV vw1 vs)).bind lcFin
def yLcE (r : R (List PV)) : R PV := r.bind lcFin
def yT1 (te : IE) (vs : List Nat) (k : List PV → Vw → R (List PV)) (acc : List PV) (r : R Bool) : R (List PV) := r.bind (lcTest te vs k acc)
def yT2 (vs : List Nat) (k : List PV → Vw → R (List PV)) (acc : List PV) (r : R PV) : R (List PV) := r.bind (lcElt vs k acc)
def yPar (n m : Nat) (r : R (List PV)) : R Sr := r.bind (jPar2 n m)
def yMt (chk : PV → Bool) (f : List PV → Option PV) (r : R PV) (os : List Opd) : R PV := r.bind fun p vw1 => if chk p = true then (evO os vw1).bind fun ods vw' => fin f (.val p :: ods) vw' else .no
def yMc (f : List PV → Option PV) (o : Od) (r : R (List Od)) : R PV := r.bind fun ods vw' => fin f (o :: ods) vw'
def yMv (chk : PV → Bool) (f : List PV → Option PV) (n : Nat) (os : List Opd) (vw : Vw) (x : Option (Option PV)) : R PV := match x with
  | some (some p0) => if chk p0 = true then (evO os vw).bind fun ods vw' => fin f (.bor n :: ods) vw' else .no
  | _ => .no
def yChk (b : Bool) (r : R PV) : R PV := match b with
  | true => r
  | false => .no
section
variable (vw vw' : Vw) (p q : PV) (x : Xc) (n m : Nat) (i i1 i2 : IE) (j j1 j2 : IS) (t t1 t2 : IT) (f : List PV → Option PV) (os : List Opd) (ods : List Od) (is : List IE) (ps : List PV) (D : DF) (fl : List Bool) (l : List (Option Nat)) (chk : PV → Bool)
theorem d_rng1 : sRng1 i vw = yRng (evA [i] vw) := rfl
theorem d_rng2 : sRng2 i1 i2 vw = yRng2 (evA [i1, i2] vw) := rfl
theorem d_seq : sSeq i vw = ySeq (i vw) := rfl
theorem d_seq_ok : ySeq (.ok p vw) = yItems (itemsOf p) vw := by unfold ySeq yItems; rfl
theorem d_items : yItems (some ps) vw = .ok ps vw := rfl
theorem d_enum : sEnum i vw = yEnum (evA [i] vw) := rfl
theorem d_enum_ok : yEnum (.ok ps vw) = enum1 ps vw := rfl
theorem d_zip : sZip i1 i2 vw = yZip (evA [i1, i2] vw) := rfl
theorem d_zip_ok : yZip (.ok ps vw) = zip2 ps vw := rfl
theorem d_lc (s : IL) (g : TgF) (tt : IT) (vs : List Nat) : iLc s g tt i vs vw = yLc g tt i vs (s vw) := rfl
theorem d_lc_ok (g : TgF) (tt : IT) (vs : List Nat) : yLc g tt i vs (.ok ps vw) = yLcE (lcTurns g tt i vs ps [] (wipeV vw vs)) := rfl
theorem d_lcE : yLcE (.ok ps vw) = .ok (L ps) vw := rfl
theorem d_par (a b : IE) : jPar n m is vw = yPar n m (evA is vw) := rfl
theorem d_par_ok : yPar n m (.ok [p, q] vw) = if n < vw.length ∧ m < vw.length then .ok .nx ((vw.set n (some p)).set m (some q)) else .no := rfl
theorem d_mte : iMt chk f (.e i) os vw = yMt chk f (i vw) os := rfl
theorem d_mt_ok : yMt chk f (.ok p vw) os = yChk (chk p) (yMc f (.val p) (evO os vw)) := by
  show (if chk p = true then (evO os vw).bind fun ods vw' => fin f (.val p :: ods) vw' else .no) = _
  unfold yChk yMc
  cases chk p <;> rfl
theorem d_mtv : iMt chk f (.v n) os vw = yMv chk f n os vw vw[n]? := by unfold iMt yMv; rfl
theorem d_mv_ok : yMv chk f n os vw (some (some p)) = yChk (chk p) (yMc f (.bor n) (evO os vw)) := by
  show (if chk p = true then (evO os vw).bind fun ods vw' => fin f (.bor n :: ods) vw' else .no) = _
  unfold yChk yMc
  cases chk p <;> rfl
theorem d_chk (r : R PV) : yChk true r = r := rfl
theorem d_mc (o : Od) : yMc f o (.ok ods vw) = zFin f (resAll vw (o :: ods)) vw := rfl
theorem e_pL (b : Bool) : (PV.nd .lst b ps).pure = (!b && pures ps) := by rw [PV.pure]
theorem e_pT : (T ps).pure = pures ps := by rw [T, PV.pure]; rfl
theorem pures_all {xs : List PV} (h : ∀ z ∈ xs, z.pure = true) : pures xs = true := by
  induction xs with
  | nil => rfl
  | cons a xs ih => rw [pures, h a List.mem_cons_self, ih fun z hz => h z (List.mem_cons_of_mem _ hz)]; rfl
theorem pures_in {xs : List PV} (h : pures xs = true) : ∀ z ∈ xs, z.pure = true := by
  induction xs with
  | nil => intro z hz; cases hz
  | cons a xs ih =>
    rw [pures, Bool.and_eq_true] at h
    intro z hz
    rcases List.mem_cons.mp hz with rfl | hz
    · exact h.1
    · exact ih h.2 z hz
theorem shr_L {xs : List PV} (h : pures xs = true) : (L xs).shr = .nd .lst false xs := by
  letI : Tbs := ⟨[]⟩
  rw [L, PV.shr, shrs_of_pure xs h]
/-! ### operations at known arguments -/
theorem rngOk_n (k : Nat) (h : k < 4611686018427387904) : rngOk (k : Int) = true := Nat.ble_eq_true_of_le (show k ≤ 4611686018427387903 by omega)
theorem rng1_n (k : Nat) (h : k < 4611686018427387904) : rng1 [.int (k : Int)] vw = .ok (rngL 0 k) vw := by
  show (if rngOk (k : Int) = true then R.ok (rngL 0 (k : Int).toNat) vw else .no) = _
  rw [if_pos (rngOk_n k h), Int.toNat_natCast]
theorem yRng_e : yRng (.ok ps vw) = rng1 ps vw := rfl
theorem o_rng1 (k : Nat) (h : k < 4611686018427387904) : yRng (.ok [.int (k : Int)] vw) = .ok (rngL 0 k) vw := (yRng_e vw _).trans (rng1_n vw k h)
theorem o_popAt (xs : List PV) (k : Nat) (h : k < xs.length) (h2 : xs.length < 4611686018427387904) : muPopAt .lst xs [.int (k : Int)] = some (.lst, xs.eraseIdx k, xs[k]) := by
  have e : ixN xs.length (k : Int) = some k := by
    unfold ixN
    rw [if_pos (by omega), if_pos (by omega), Int.toNat_natCast]
  unfold muPopAt
  simp only [e, List.getElem?_eq_getElem h]
  rw [if_pos ⟨by omega, by omega⟩]
theorem o_append (xs : List PV) (h : xs.length < sizeLine) : muAppend .lst xs [p] = some (.lst, xs ++ [p], .non) := by
  unfold muAppend
  simp only [h, if_true]
theorem o_list_l (o : Bool) (xs : List PV) (h : pures xs = true) : opList [.nd .lst o xs] = some (L xs) := by
  show (if pures xs = true then some (L xs) else none) = _
  exact if_pos h
theorem o_list_t (o : Bool) (xs : List PV) (h : pures xs = true) : opList [.nd .tup o xs] = some (L xs) := by
  show (if pures xs = true then some (L xs) else none) = _
  exact if_pos h
theorem o_tuple_l (o : Bool) (xs : List PV) (h : pures xs = true) : opTuple [.nd .lst o xs] = some (T xs) := by
  show (if pures xs = true then some (T xs) else none) = _
  exact if_pos h
theorem o_tuple_t (o : Bool) (xs : List PV) (h : pures xs = true) : opTuple [.nd .tup o xs] = some (T xs) := by
  show (if pures xs = true then some (T xs) else none) = _
  exact if_pos h
end
end Bx
set_option Elab.async false
set_option linter.all false
set_option maxRecDepth 100000
set_option maxHeartbeats 4000000
/-! L9: slices, chains, methods, fields, while, raise; operations on texts and rows; loops and comprehensions by an invariant. -/
namespace Bx
open PySem PySem.Spec PyProof.Rows
open L2 (Key atI ixN cutS)
open TL (tl)
def ySl (r : R (List Od)) (lo hi : Option II) : R PV := r.bind fun ods vw1 => (evP lo vw1).bind fun l vw2 => (evP hi vw2).bind fun h vw3 => fin (fun ps => opSl ps l h) ods vw3
def ySl2 (ods : List Od) (hi : Option II) (r : R (Option Int)) : R PV := r.bind fun l vw2 => (evP hi vw2).bind fun h vw3 => fin (fun ps => opSl ps l h) ods vw3
def ySl3 (ods : List Od) (l : Option Int) (r : R (Option Int)) : R PV := r.bind fun h vw3 => fin (fun ps => opSl ps l h) ods vw3
def ySl4 (l h : Option Int) (o : Option (List PV)) (vw : Vw) : R PV := match o with
  | none => .no
  | some ps => match opSl ps l h with
    | none => .no
    | some p => .ok p vw
def yEvP (r : R Int) : R (Option Int) := r.bind fun n vw' => .ok (some n) vw'
def yI (r : R PV) : R Int := r.bind fun p vw' => match p with
  | .int n => .ok n vw'
  | _ => .no
def yCh (f g : List PV → Option PV) (ib ic : IE) (r : R PV) : R PV := r.bind fun x vw1 => (ib vw1).bind fun y vw2 => chain1 f g ic x y vw2
def yCh2 (f g : List PV → Option PV) (ic : IE) (x : PV) (r : R PV) : R PV := r.bind fun y vw2 => chain1 f g ic x y vw2
def yCh3 (g : List PV → Option PV) (ic : IE) (y : PV) (o : Option PV) (vw : Vw) : R PV := match o with
  | some b => chain2 g ic y b vw
  | none => .no
def yCh5 (o : Option PV) (vw : Vw) : R PV := match o with
  | some (.bl k) => .ok (.bl k) vw
  | _ => .no
def yCh4 (g : List PV → Option PV) (y : PV) (r : R PV) : R PV := r.bind fun z vw3 => match g [y, z] with
  | some (.bl k) => .ok (.bl k) vw3
  | _ => .no
def yMe (C : Addr) (m : Str) (D : DF) (fl : List Bool) (n : Nat) (os : List Opd) (vw : Vw) (x : Option (Option PV)) : R PV := match x with
  | some (some p0) => if isIns C m p0 = true then (evO os vw).bind fun ods vw' => callFin D fl (.bor n :: ods) vw' else .no
  | _ => .no
def yMe2 (D : DF) (fl : List Bool) (n : Nat) (b : Bool) (r : R (List Od)) : R PV := match b with
  | true => r.bind fun ods vw' => callFin D fl (.bor n :: ods) vw'
  | false => .no
def yFld (cls : Addr → Bool) (f : Str) (n : Nat) (r : R PV) : R Sr := r.bind fun p vw1 => (muFin (muFld cls f) n [p] vw1).bind fun _ vw3 => .ok .nx vw3
def yRaise (C : Addr) (fs : List Str) (r : R (List PV)) : R Sr := r.bind (raiseFin C fs)
def yCV (tab : Addr → Option (DF × List Bool)) (os : List Opd) (vw : Vw) (x : Option (Option PV)) : R PV := match x with
  | some (some (.ref f)) => (match tab f with
    | some (D, fl) => (evO os vw).bind (callFin D fl)
    | none => .no)
  | _ => .no
def yCV2 (os : List Opd) (vw : Vw) (x : Option (DF × List Bool)) : R PV := match x with
  | some (D, fl) => (evO os vw).bind (callFin D fl)
  | none => .no
section
variable (vw vw' : Vw) (p q : PV) (x : Xc) (n m : Nat) (i i1 i2 : IE) (j j1 j2 : IS) (t t1 t2 : IT) (f g : List PV → Option PV) (os : List Opd) (ods : List Od) (is : List IE) (ps qs : List PV) (D : DF) (fl : List Bool) (l : List (Option Nat)) (lo hi : Option II) (C : Addr) (cls : Addr → Bool) (fd : Str)
theorem d_sl (o : Opd) : iSl o lo hi vw = ySl (evO [o] vw) lo hi := rfl
theorem d_sl1 : ySl (.ok ods vw) lo hi = ySl2 ods hi (evP lo vw) := rfl
theorem d_sl2 (a : Option Int) : ySl2 ods hi (.ok a vw) = ySl3 ods a (evP hi vw) := rfl
theorem d_sl3 (a b : Option Int) : ySl3 ods a (.ok b vw) = ySl4 a b (resAll vw ods) vw := rfl
theorem d_sl4 (a b : Option Int) : ySl4 a b (some ps) vw = zRes (opSl ps a b) vw := rfl
theorem d_evPn : evP none vw = .ok none vw := rfl
theorem d_evPs (k : II) : evP (some k) vw = yEvP (k vw) := rfl
theorem d_evPk (k : Int) : yEvP (.ok k vw) = .ok (some k) vw := rfl
theorem d_iI : iI i vw = yI (i vw) := rfl
theorem d_iIk (k : Int) : yI (.ok (.int k) vw) = .ok k vw := rfl
theorem d_ch : iChain f g i1 i2 i vw = yCh f g i2 i (i1 vw) := rfl
theorem d_ch1 : yCh f g i2 i (.ok p vw) = yCh2 f g i p (i2 vw) := rfl
theorem d_ch2 : yCh2 f g i p (.ok q vw) = yCh3 g i q (f [p, q]) vw := by
  show chain1 f g i p q vw = _
  unfold chain1 yCh3
  rfl
theorem d_ch3f : yCh3 g i q (some (.bl false)) vw = .ok (.bl false) vw := rfl
theorem d_ch3t : yCh3 g i q (some (.bl true)) vw = yCh4 g q (i vw) := rfl
theorem d_ch4 : yCh4 g q (.ok p vw) = yCh5 (g [q, p]) vw := by
  show (match g [q, p] with | some (PV.bl k) => R.ok (PV.bl k) vw | _ => .no) = _
  unfold yCh5
  rfl
theorem d_ch5 (k : Bool) : yCh5 (some (.bl k)) vw = .ok (.bl k) vw := rfl
theorem d_me (M : Str) : iMeth C M D fl (.v n) os vw = yMe C M D fl n os vw vw[n]? := by unfold iMeth yMe; rfl
theorem d_me1 (M : Str) : yMe C M D fl n os vw (some (some p)) = yMe2 D fl n (isIns C M p) (evO os vw) := by
  show (if isIns C M p = true then (evO os vw).bind fun ods vw' => callFin D fl (.bor n :: ods) vw' else .no) = _
  unfold yMe2
  cases isIns C M p <;> rfl
theorem d_me2 : yMe2 D fl n true (.ok ods vw) = zMv D (mvArgs fl (.bor n :: ods) vw) := rfl
theorem d_fld : jFld cls fd n i vw = yFld cls fd n (i vw) := rfl
theorem d_fld1 : yFld cls fd n (.ok p vw) = zExpr (muFin (muFld cls fd) n [p] vw) := by
  show (muFin (muFld cls fd) n [p] vw).bind (fun _ vw3 => R.ok Sr.nx vw3) = _
  unfold zExpr
  cases muFin (muFld cls fd) n [p] vw <;> rfl
theorem d_rai (fs : List Str) : jRaise C fs is vw = yRaise C fs (evA is vw) := rfl
theorem d_rai1 (fs : List Str) : yRaise C fs (.ok ps vw) = raiseFin C fs ps vw := rfl
theorem d_cv (tab : Addr → Option (DF × List Bool)) : iCallV n tab os vw = yCV tab os vw vw[n]? := by unfold iCallV yCV; rfl
theorem d_cv1 (tab : Addr → Option (DF × List Bool)) (a : Addr) : yCV tab os vw (some (some (.ref a))) = yCV2 os vw (tab a) := by unfold yCV yCV2; rfl
theorem d_cv2 : yCV2 os vw (some (D, fl)) = zCall D fl (evO os vw) := rfl
theorem tabC_self (tab : Addr → Option (DF × List Bool)) : tabC C D fl tab C = some (D, fl) := by unfold tabC; exact if_pos rfl
theorem d_yes : tYesT vw = .ok true vw := rfl
end
/-! ### loops by an invariant -/
section
variable {f : TgF} {b : IS} {tt : IT} {te : IE} {vs : List Nat}
theorem loop_inv (I : List PV → Vw → Prop) (h : ∀ p ps vw, I (p :: ps) vw → ∃ vw1 vw2, f p vw = some vw1 ∧ b vw1 = .ok .nx vw2 ∧ I ps vw2) : ∀ (ps : List PV) (vw : Vw), I ps vw → ∃ vw', jLoop f b ps vw = .ok .nx vw' ∧ I [] vw'
  | [], vw, hi => ⟨vw, rfl, hi⟩
  | p :: ps, vw, hi => by
    obtain ⟨vw1, vw2, e1, e2, h2⟩ := h p ps vw hi
    obtain ⟨vw', e3, h3⟩ := loop_inv I h ps vw2 h2
    exact ⟨vw', by rw [e_loop, e1, e_loop1, e2, e_turn_nx, e3], h3⟩
/-- one turn of a comprehension that changes nothing -/
theorem lc_same {ps : List PV} (vw : Vw) (g : PV → PV) (k : PV → Bool) (h : ∀ p ∈ ps, ∃ vw1 vw2 vw3, f p vw = some vw1 ∧ tt vw1 = .ok (k p) vw2 ∧ (k p = true → te vw2 = .ok (g p) vw3 ∧ wipeV vw3 vs = vw) ∧ (k p = false → wipeV vw2 vs = vw)) :
    ∀ (acc : List PV), acc.length + ps.length ≤ sizeLine → lcTurns f tt te vs ps acc vw = .ok (acc ++ (ps.filter k).map g) vw := by
  induction ps with
  | nil => intro acc _; rw [lcTurns]; simp
  | cons p ps ih =>
    intro acc hz
    rw [List.length_cons] at hz
    obtain ⟨vw1, vw2, vw3, e1, e2, h1, h2⟩ := h p List.mem_cons_self
    have ih' := ih fun q hq => h q (List.mem_cons_of_mem _ hq)
    rw [lcTurns, e1]
    simp only
    rw [e2]
    show lcTest te vs (lcTurns f tt te vs ps) acc (k p) vw2 = _
    unfold lcTest
    cases hk : k p with
    | true =>
      obtain ⟨e3, e4⟩ := h1 hk
      rw [if_pos rfl, e3]
      show lcElt vs (lcTurns f tt te vs ps) acc (g p) vw3 = _
      unfold lcElt
      rw [if_pos (by omega), e4, ih' _ (by rw [List.length_append]; simp; omega), List.filter_cons_of_pos (by exact hk)]
      simp
    | false =>
      rw [if_neg Bool.false_ne_true, h2 hk, ih' _ (by omega), List.filter_cons_of_neg (by rw [hk]; exact Bool.false_ne_true)]
/-- a comprehension that changes what the names have -/
theorem lc_inv (I : Nat → Vw → Prop) (Q : PV → Prop) : ∀ (ps : List PV) (h : ∀ p ∈ ps, ∀ c vw, I (c + 1) vw → ∃ vw1 q vw3, f p vw = some vw1 ∧ te vw1 = .ok q vw3 ∧ Q q ∧ I c (wipeV vw3 vs)) (acc : List PV) (vw : Vw), I ps.length vw → acc.length + ps.length ≤ sizeLine → (∀ q ∈ acc, Q q) →
    ∃ ys vw', lcTurns f tYesT te vs ps acc vw = .ok ys vw' ∧ I 0 vw' ∧ (∀ q ∈ ys, Q q) ∧ ys.length = acc.length + ps.length
  | [], _, acc, vw, hi, _, ha => ⟨acc, vw, rfl, hi, ha, rfl⟩
  | p :: ps, h, acc, vw, hi, hz, ha => by
    rw [List.length_cons] at hz
    obtain ⟨vw1, q, vw3, e1, e2, hq, h2⟩ := h p List.mem_cons_self ps.length vw hi
    obtain ⟨ys, vw', g1, g2, g3, g4⟩ := lc_inv I Q ps (fun r hr => h r (List.mem_cons_of_mem _ hr)) (acc ++ [q]) (wipeV vw3 vs) h2 (by rw [List.length_append]; simp; omega) (fun r hr => by
      rcases List.mem_append.mp hr with z | z
      · exact ha r z
      · rw [List.mem_singleton] at z; rw [z]; exact hq)
    refine ⟨ys, vw', ?_, g2, g3, by rw [g4, List.length_append, List.length_cons]; simp; omega⟩
    rw [lcTurns, e1]
    simp only
    show lcTest te vs (lcTurns f tYesT te vs ps) acc true vw1 = _
    unfold lcTest
    rw [if_pos rfl, e2]
    show lcElt vs (lcTurns f tYesT te vs ps) acc q vw3 = _
    unfold lcElt
    rw [if_pos (by omega), g1]
end
/-! ### operations on texts, rows -/
theorem o_len_s (x : Str) (h : x.length ≤ sizeLine) : opLen [.str x] = some (.int x.length) := by
  have e : lenB (.str x) = some x.length := by unfold lenB; exact if_pos h
  unfold opLen
  simp only [e]
  rfl
theorem o_add_s (x y : Str) (h : x.length + y.length ≤ sizeLine) : opAdd [.str x, .str y] = some (.str (x ++ y)) := by
  show (if _ then _ else none) = _
  exact if_pos h
theorem o_add_t (a b : Bool) (xs ys : List PV) (h : pures xs = true) (h2 : pures ys = true) (h3 : xs.length + ys.length ≤ sizeLine) : opAdd [.nd .tup a xs, .nd .tup b ys] = some (T (xs ++ ys)) := by
  show (if _ then _ else none) = _
  exact if_pos ⟨h, h2, h3⟩
theorem o_add_l (a b : Bool) (xs ys : List PV) (h : pures xs = true) (h2 : pures ys = true) (h3 : xs.length + ys.length ≤ sizeLine) : opAdd [.nd .lst a xs, .nd .lst b ys] = some (L (xs ++ ys)) := by
  show (if _ then _ else none) = _
  exact if_pos ⟨h, h2, h3⟩
theorem o_ix_s (z : Str) (k : Nat) (c : Nat) (hk : (tl z)[k]? = some c) (h : z.length ≤ sizeLine) : opIx [.str z, .int (k : Int)] = some (.str ⟨#[c]⟩) := by
  show (if z.length ≤ sizeLine then match atI (tl z) (k : Int) with
    | some c => some (PV.str ⟨#[c]⟩)
    | none => none else none) = _
  have hl : k < (tl z).length := (List.getElem?_eq_some_iff.mp hk).1
  rw [if_pos h, atI_nat _ k hl]
  rw [List.getElem?_eq_getElem hl] at hk
  cases hk
  rfl
theorem o_in_c (c : Nat) (z : Str) : opIn [.str ⟨#[c]⟩, .str z] = some (.bl (decide (c ∈ tl z))) := rfl
theorem o_nin_c (c : Nat) (z : Str) : opNotIn [.str ⟨#[c]⟩, .str z] = some (.bl (!decide (c ∈ tl z))) := rfl
theorem o_eq_s (x y : Str) : opEq [.str x, .str y] = some (.bl (decide (x = y))) := by
  show (if min (PyData.str x).depth (PyData.str y).depth ≤ 64 then some (PV.bl (PyData.eqv (.str x) (.str y))) else none) = _
  rw [if_pos (by simp [PyData.depth])]
  rfl
theorem o_ne_s (x y : Str) : opNe [.str x, .str y] = some (.bl (!decide (x = y))) := by
  show (if min (PyData.str x).depth (PyData.str y).depth ≤ 64 then some (PV.bl (!PyData.eqv (.str x) (.str y))) else none) = _
  rw [if_pos (by simp [PyData.depth])]
  rfl
theorem o_isnt_s (x : Str) : opIsnt [.str x, .non] = some (.bl true) := rfl
theorem o_isnt_n : opIsnt [.non, .non] = some (.bl false) := rfl
theorem o_is_s (x : Str) : opIs [.str x, .non] = some (.bl false) := rfl
theorem o_is_n : opIs [.non, .non] = some (.bl true) := rfl
def blL (l : List Bool) : List PV := l.map PV.bl
theorem pBools_bl : ∀ l : List Bool, pBools (blL l) = some l
  | [] => rfl
  | x :: l => by
    have := pBools_bl l
    rw [blL] at this
    rw [blL, List.map_cons, pBools, this]
def txs (l : List Str) : List PV := l.map PV.str
theorem txs_pure : ∀ l : List Str, pures (txs l) = true
  | [] => rfl
  | x :: l => by rw [txs, List.map_cons, pures]; exact (txs_pure l)
theorem txs_len (l : List Str) : (txs l).length = l.length := List.length_map ..
theorem pStrs_tx : ∀ l : List Str, pStrs (txs l) = some l
  | [] => rfl
  | x :: l => by
    have := pStrs_tx l
    rw [txs] at this
    rw [txs, List.map_cons, pStrs, this]
theorem o_join_l (o : Bool) (y : Str) (l : List Str) (h : (l.map Str.length).sum + l.length * y.length ≤ 16777216) : opJoin [.str y, .nd .lst o (txs l)] = some (.str (Txt.join y l)) := by
  unfold opJoin
  simp only [pStrs_tx]
  exact if_pos h
theorem o_join_t (o : Bool) (y : Str) (l : List Str) (h : (l.map Str.length).sum + l.length * y.length ≤ 16777216) : opJoin [.str y, .nd .tup o (txs l)] = some (.str (Txt.join y l)) := by
  unfold opJoin
  simp only [pStrs_tx]
  exact if_pos h
theorem o_split (x y : Str) (h : (y.length == 0) = false) (h2 : x.length + 2 ≤ sizeLine) : opSplit [.str x, .str y] = some (L (txs (Txt.split x y))) := by
  show (if _ then _ else none) = _
  exact if_pos ⟨h, h2⟩
theorem o_all (o : Bool) (l : List Bool) : opAll [.nd .lst o (blL l)] = some (.bl (l.all id)) := by
  show (pBools (blL l)).map _ = _
  rw [pBools_bl]
  rfl
theorem itemsOf_s (x : Str) : itemsOf (.str x) = some ((tl x).map fun c => .str ⟨#[c]⟩) := rfl
theorem itemsOf_l (o : Bool) (xs : List PV) (h : pures xs = true) : itemsOf (.nd .lst o xs) = some xs := by
  letI : Tbs := ⟨[]⟩
  show some (shrs xs) = _
  rw [shrs_of_pure xs h]
theorem itemsOf_t (o : Bool) (xs : List PV) (h : pures xs = true) : itemsOf (.nd .tup o xs) = some xs := by
  letI : Tbs := ⟨[]⟩
  show some (shrs xs) = _
  rw [shrs_of_pure xs h]
/-! ### isinstance -/
theorem k_s_str (x : Str) : opIsi kitT [(.str x), .ty "str"] = some (.bl true) := by
  show (kTy "str" "str").map PV.bl = _
  rw [show kTy "str" "str" = some true by decide +kernel]
  rfl
theorem k_s_tuple (x : Str) : opIsi kitT [(.str x), .ty "tuple"] = some (.bl false) := by
  show (kTy "str" "tuple").map PV.bl = _
  rw [show kTy "str" "tuple" = some false by decide +kernel]
  rfl
theorem k_s_int (x : Str) : opIsi kitT [(.str x), .ty "int"] = some (.bl false) := by
  show (kTy "str" "int").map PV.bl = _
  rw [show kTy "str" "int" = some false by decide +kernel]
  rfl
theorem k_s_list (x : Str) : opIsi kitT [(.str x), .ty "list"] = some (.bl false) := by
  show (kTy "str" "list").map PV.bl = _
  rw [show kTy "str" "list" = some false by decide +kernel]
  rfl
theorem k_s_dict (x : Str) : opIsi kitT [(.str x), .ty "dict"] = some (.bl false) := by
  show (kTy "str" "dict").map PV.bl = _
  rw [show kTy "str" "dict" = some false by decide +kernel]
  rfl
theorem k_s_bool (x : Str) : opIsi kitT [(.str x), .ty "bool"] = some (.bl false) := by
  show (kTy "str" "bool").map PV.bl = _
  rw [show kTy "str" "bool" = some false by decide +kernel]
  rfl
theorem k_i_str (x : Int) : opIsi kitT [(.int x), .ty "str"] = some (.bl false) := by
  show (kTy "int" "str").map PV.bl = _
  rw [show kTy "int" "str" = some false by decide +kernel]
  rfl
theorem k_i_tuple (x : Int) : opIsi kitT [(.int x), .ty "tuple"] = some (.bl false) := by
  show (kTy "int" "tuple").map PV.bl = _
  rw [show kTy "int" "tuple" = some false by decide +kernel]
  rfl
theorem k_i_int (x : Int) : opIsi kitT [(.int x), .ty "int"] = some (.bl true) := by
  show (kTy "int" "int").map PV.bl = _
  rw [show kTy "int" "int" = some true by decide +kernel]
  rfl
theorem k_i_list (x : Int) : opIsi kitT [(.int x), .ty "list"] = some (.bl false) := by
  show (kTy "int" "list").map PV.bl = _
  rw [show kTy "int" "list" = some false by decide +kernel]
  rfl
theorem k_i_dict (x : Int) : opIsi kitT [(.int x), .ty "dict"] = some (.bl false) := by
  show (kTy "int" "dict").map PV.bl = _
  rw [show kTy "int" "dict" = some false by decide +kernel]
  rfl
theorem k_i_bool (x : Int) : opIsi kitT [(.int x), .ty "bool"] = some (.bl false) := by
  show (kTy "int" "bool").map PV.bl = _
  rw [show kTy "int" "bool" = some false by decide +kernel]
  rfl
theorem k_b_str (x : Bool) : opIsi kitT [(.bl x), .ty "str"] = some (.bl false) := by
  show (kTy "bool" "str").map PV.bl = _
  rw [show kTy "bool" "str" = some false by decide +kernel]
  rfl
theorem k_b_tuple (x : Bool) : opIsi kitT [(.bl x), .ty "tuple"] = some (.bl false) := by
  show (kTy "bool" "tuple").map PV.bl = _
  rw [show kTy "bool" "tuple" = some false by decide +kernel]
  rfl
theorem k_b_int (x : Bool) : opIsi kitT [(.bl x), .ty "int"] = some (.bl true) := by
  show (kTy "bool" "int").map PV.bl = _
  rw [show kTy "bool" "int" = some true by decide +kernel]
  rfl
theorem k_b_list (x : Bool) : opIsi kitT [(.bl x), .ty "list"] = some (.bl false) := by
  show (kTy "bool" "list").map PV.bl = _
  rw [show kTy "bool" "list" = some false by decide +kernel]
  rfl
theorem k_b_dict (x : Bool) : opIsi kitT [(.bl x), .ty "dict"] = some (.bl false) := by
  show (kTy "bool" "dict").map PV.bl = _
  rw [show kTy "bool" "dict" = some false by decide +kernel]
  rfl
theorem k_b_bool (x : Bool) : opIsi kitT [(.bl x), .ty "bool"] = some (.bl true) := by
  show (kTy "bool" "bool").map PV.bl = _
  rw [show kTy "bool" "bool" = some true by decide +kernel]
  rfl
theorem k_n_str  : opIsi kitT [.non, .ty "str"] = some (.bl false) := by
  show (kTy "NoneType" "str").map PV.bl = _
  rw [show kTy "NoneType" "str" = some false by decide +kernel]
  rfl
theorem k_n_tuple  : opIsi kitT [.non, .ty "tuple"] = some (.bl false) := by
  show (kTy "NoneType" "tuple").map PV.bl = _
  rw [show kTy "NoneType" "tuple" = some false by decide +kernel]
  rfl
theorem k_n_int  : opIsi kitT [.non, .ty "int"] = some (.bl false) := by
  show (kTy "NoneType" "int").map PV.bl = _
  rw [show kTy "NoneType" "int" = some false by decide +kernel]
  rfl
theorem k_n_list  : opIsi kitT [.non, .ty "list"] = some (.bl false) := by
  show (kTy "NoneType" "list").map PV.bl = _
  rw [show kTy "NoneType" "list" = some false by decide +kernel]
  rfl
theorem k_n_dict  : opIsi kitT [.non, .ty "dict"] = some (.bl false) := by
  show (kTy "NoneType" "dict").map PV.bl = _
  rw [show kTy "NoneType" "dict" = some false by decide +kernel]
  rfl
theorem k_n_bool  : opIsi kitT [.non, .ty "bool"] = some (.bl false) := by
  show (kTy "NoneType" "bool").map PV.bl = _
  rw [show kTy "NoneType" "bool" = some false by decide +kernel]
  rfl
theorem k_t_str (o : Bool) (xs : List PV) : opIsi kitT [(.nd .tup o xs), .ty "str"] = some (.bl false) := by
  show (kTy "tuple" "str").map PV.bl = _
  rw [show kTy "tuple" "str" = some false by decide +kernel]
  rfl
theorem k_t_tuple (o : Bool) (xs : List PV) : opIsi kitT [(.nd .tup o xs), .ty "tuple"] = some (.bl true) := by
  show (kTy "tuple" "tuple").map PV.bl = _
  rw [show kTy "tuple" "tuple" = some true by decide +kernel]
  rfl
theorem k_t_int (o : Bool) (xs : List PV) : opIsi kitT [(.nd .tup o xs), .ty "int"] = some (.bl false) := by
  show (kTy "tuple" "int").map PV.bl = _
  rw [show kTy "tuple" "int" = some false by decide +kernel]
  rfl
theorem k_t_list (o : Bool) (xs : List PV) : opIsi kitT [(.nd .tup o xs), .ty "list"] = some (.bl false) := by
  show (kTy "tuple" "list").map PV.bl = _
  rw [show kTy "tuple" "list" = some false by decide +kernel]
  rfl
theorem k_t_dict (o : Bool) (xs : List PV) : opIsi kitT [(.nd .tup o xs), .ty "dict"] = some (.bl false) := by
  show (kTy "tuple" "dict").map PV.bl = _
  rw [show kTy "tuple" "dict" = some false by decide +kernel]
  rfl
theorem k_t_bool (o : Bool) (xs : List PV) : opIsi kitT [(.nd .tup o xs), .ty "bool"] = some (.bl false) := by
  show (kTy "tuple" "bool").map PV.bl = _
  rw [show kTy "tuple" "bool" = some false by decide +kernel]
  rfl
theorem k_l_str (o : Bool) (xs : List PV) : opIsi kitT [(.nd .lst o xs), .ty "str"] = some (.bl false) := by
  show (kTy "list" "str").map PV.bl = _
  rw [show kTy "list" "str" = some false by decide +kernel]
  rfl
theorem k_l_tuple (o : Bool) (xs : List PV) : opIsi kitT [(.nd .lst o xs), .ty "tuple"] = some (.bl false) := by
  show (kTy "list" "tuple").map PV.bl = _
  rw [show kTy "list" "tuple" = some false by decide +kernel]
  rfl
theorem k_l_int (o : Bool) (xs : List PV) : opIsi kitT [(.nd .lst o xs), .ty "int"] = some (.bl false) := by
  show (kTy "list" "int").map PV.bl = _
  rw [show kTy "list" "int" = some false by decide +kernel]
  rfl
theorem k_l_list (o : Bool) (xs : List PV) : opIsi kitT [(.nd .lst o xs), .ty "list"] = some (.bl true) := by
  show (kTy "list" "list").map PV.bl = _
  rw [show kTy "list" "list" = some true by decide +kernel]
  rfl
theorem k_l_dict (o : Bool) (xs : List PV) : opIsi kitT [(.nd .lst o xs), .ty "dict"] = some (.bl false) := by
  show (kTy "list" "dict").map PV.bl = _
  rw [show kTy "list" "dict" = some false by decide +kernel]
  rfl
theorem k_l_bool (o : Bool) (xs : List PV) : opIsi kitT [(.nd .lst o xs), .ty "bool"] = some (.bl false) := by
  show (kTy "list" "bool").map PV.bl = _
  rw [show kTy "list" "bool" = some false by decide +kernel]
  rfl
theorem k_d_str (ks : List Key) (o : Bool) (xs : List PV) : opIsi kitT [(.nd (.dk ks) o xs), .ty "str"] = some (.bl false) := by
  show (kTy "dict" "str").map PV.bl = _
  rw [show kTy "dict" "str" = some false by decide +kernel]
  rfl
theorem k_d_tuple (ks : List Key) (o : Bool) (xs : List PV) : opIsi kitT [(.nd (.dk ks) o xs), .ty "tuple"] = some (.bl false) := by
  show (kTy "dict" "tuple").map PV.bl = _
  rw [show kTy "dict" "tuple" = some false by decide +kernel]
  rfl
theorem k_d_int (ks : List Key) (o : Bool) (xs : List PV) : opIsi kitT [(.nd (.dk ks) o xs), .ty "int"] = some (.bl false) := by
  show (kTy "dict" "int").map PV.bl = _
  rw [show kTy "dict" "int" = some false by decide +kernel]
  rfl
theorem k_d_list (ks : List Key) (o : Bool) (xs : List PV) : opIsi kitT [(.nd (.dk ks) o xs), .ty "list"] = some (.bl false) := by
  show (kTy "dict" "list").map PV.bl = _
  rw [show kTy "dict" "list" = some false by decide +kernel]
  rfl
theorem k_d_dict (ks : List Key) (o : Bool) (xs : List PV) : opIsi kitT [(.nd (.dk ks) o xs), .ty "dict"] = some (.bl true) := by
  show (kTy "dict" "dict").map PV.bl = _
  rw [show kTy "dict" "dict" = some true by decide +kernel]
  rfl
theorem k_d_bool (ks : List Key) (o : Bool) (xs : List PV) : opIsi kitT [(.nd (.dk ks) o xs), .ty "bool"] = some (.bl false) := by
  show (kTy "dict" "bool").map PV.bl = _
  rw [show kTy "dict" "bool" = some false by decide +kernel]
  rfl
theorem o_eq_nil (a b : Bool) (xs : List PV) (ds : List PyData) (h : dats xs = some ds) : opEq [.nd .lst a xs, .nd .lst b []] = some (.bl xs.isEmpty) := by
  have e1 : (PV.nd .lst a xs).dat = some (.list ds) := by rw [PV.dat, h]
  have e2 : (PV.nd .lst b []).dat = some (.list []) := rfl
  show dat2 _ _ = _
  unfold dat2
  simp only [e1, e2]
  rw [if_pos (Nat.le_trans (Nat.min_le_right _ _) (by decide))]
  cases xs with
  | nil => cases h; rfl
  | cons x xs =>
    rw [dats] at h
    cases hx : x.dat with
    | none => rw [hx] at h; cases h
    | some d =>
      rw [hx] at h
      cases hxs : dats xs with
      | none => rw [hxs] at h; cases h
      | some ds' => rw [hxs] at h; cases h; rfl
theorem dats_txs : ∀ l : List Str, dats (txs l) = some (l.map PyData.str)
  | [] => rfl
  | x :: l => by
    have := dats_txs l
    rw [txs] at this
    rw [txs, List.map_cons, dats, this]
    rfl
theorem o_is_bb (a b : Bool) : opIs [.bl a, .bl b] = some (.bl (decide (a = b))) := by cases a <;> cases b <;> rfl
theorem o_is_bn (a : Bool) : opIs [.bl a, .non] = some (.bl false) := rfl
end Bx
set_option Elab.async false
set_option linter.all false
set_option maxRecDepth 100000
set_option maxHeartbeats 4000000
/-! L10: exceptions as values: made, asked, read. -/
namespace Bx
open PySem PySem.Spec PyProof.Rows L2
variable [Tbs]
theorem xo_ok {P : Program} {w : World} {H : Hp} {h : Heap} {a : Addr} {cls : Value} {d : Option Addr} {oe : Obj} {vs : Array Value} (e : h.get? a = some oe) (z : Zc cls d oe) (f : oe.data = .fields vs) : ObjOk P w H h a (xo a cls d) :=
  ⟨⟨oe, vs, e, z, f⟩, ⟨oe, e⟩, fun _ _ ⟨o, v, q, r⟩ k => ⟨o, v, k o q, r⟩⟩
theorem xo_at {P : Program} {w : World} {H : Hp} {h : Heap} {a : Addr} {cls : Value} {d : Option Addr} (hok : HOk P w H h) (he : H a = some (xo a cls d)) : ∃ (oe : Obj) (vs : Array Value), h.get? a = some oe ∧ Zc cls d oe ∧ oe.data = .fields vs := by
  have x : ObjOk P w H h a (.ext fun h => ∃ (oe : Obj) (vs : Array Value), h.get? a = some oe ∧ Zc cls d oe ∧ oe.data = .fields vs) := hok a _ he
  exact x.1
section
variable {X : Cx}
/-- what makes an exception gives a value -/
theorem pe_of_pmk {e : Expr} {t : St → Hp → XK → Prop} (he : PMk X e t) : PE X e (fun σ H Q => t σ H fun cls d H1 => ∀ a, H1 a = none → Q (.ref a) (upd H1 a (xo a cls d))) := by
  refine ⟨fun pins s σ H Q I h => wpAny_mono (he pins s σ H _ I h) (fun u s1 hu => ?_) fun _ _ x => x⟩
  obtain ⟨a, oe, vs, sI, H1, cls, d, rfl, J, k, hne, ha, hz, hd, h1, na, os, ag, r, q⟩ := hu
  have J1 : Inv X pins σ (upd H1 a (xo a cls d)) { sI with heap := s1.heap, toks := s1.toks } := J.laidN k hne na (xo_ok ha hz hd)
  exact ⟨.ref a, upd H1 a (xo a cls d), ⟨J1.ok, os.trans J1.os, ag, J1.base, J1.loc, J1.cell, J1.free, J1.freeC, J1.pin, J1.hok, J1.len⟩, rfl, q a na⟩
/-- X(), a class of the module without its own __init__ -/
theorem pe_xmk0 {x : Str} {C : Addr} {p pos : Pos} (q : PySem.W.excIn X.K C He.veBase "ValueError.__new__" = true) (gC : X.mg x = some (.ref C)) (kC : PySem.W.keepIn X.K (.ref C) = true) (hg : Gl X x := by rfl) (hdb : (x == ("__debug__" : Str)) = false := by decide) :
    PE X (.Call (.Name x p) [] [] pos) (fun _ H Q => ∀ a, H a = none → Q (.ref a) (upd H a (xo a (.ref C) none))) := by
  refine ⟨fun pins s σ H Q I h => wpAny_Call_Name_kw (ld_glob I hg gC (PySem.W.callWith_K0 I.kIn kC ?_) hdb)⟩
  obtain ⟨bm, N, nm, qn, bs, hdct, sn, sub, ab, col, dd, k0, k1, k2, k3, k5, mN, hC, hN, hni, T⟩ := exc_obj I.kIn q
  refine wpAny_call_exc_subT PySem.F.excBase_ValueError T hC hN hni (fun h' a hm => ?_) (by show 0 ≤ sizeLine; omega)
  have hn : H a = none := I.hok.gone hm.new
  obtain ⟨t, ht, _, _⟩ := hm.there
  exact ⟨.ref a, upd H a (xo a (.ref C) none), I.laidN hm.keeps hm.new hn (xo_ok ht ⟨rfl, rfl⟩ rfl), rfl, h a hn⟩
end
/-! ### footprints -/
theorem fz_one {H : Hp} {F : Fz} {a : Addr} {S : Fp} (g : Gd H F (fadd (one a) S)) : Gd H (fun b => F b ∨ b = a) S ∧ Step H F (fadd (one a) S) H (fun b => F b ∨ b = a) S := by
  have pa : 0 < fadd (one a) S a := by show 0 < one a a + S a; rw [one_self]; omega
  have sa : S a = 0 := by have := g.le a; have e : fadd (one a) S a = one a a + S a := rfl; rw [e, one_self] at this; omega
  have le : ∀ b, S b ≤ fadd (one a) S b := fun b => Nat.le_add_left _ _
  refine ⟨⟨fun b => Nat.le_trans (le b) (g.le b), fun b z w => ?_, fun b z => g.mu b (Nat.lt_of_lt_of_le z (le b)), fun b z => ?_, g.tb⟩, ⟨fun _ _ e _ _ => e, fun b z => .inl (Nat.lt_of_lt_of_le z (le b)), fun _ z => .inl z, fun b z => ?_⟩⟩
  · rcases w with w | w
    · exact g.nf b (Nat.lt_of_lt_of_le z (le b)) w
    · rw [w, sa] at z; omega
  · rcases z with z | z
    · exact g.fr b z
    · rw [z]; exact g.nfre pa
  · rcases z with z | z
    · exact .inl z
    · rw [z]; exact .inr (.inl pa)
/-- the inner part of the making -/
theorem mk_go {P : Program} {w : World} {K : PySem.W.Frag} {mg : Str → Option Value} {base : Heap} {x : Str} {C : Addr} {fs : List Str} {vs : List V} {H1 : Hp} {Q : XK} (T : ExK P w K mg base x C fs) (hl : vs.length = fs.length) (hz : vs.length ≤ 1000)
    (k : ∀ d, H1 d = none → Q (.ref C) (some d) (upd H1 d (.xd (fs.zip vs).reverse))) :
    vs.length ≤ 1000 ∧ ∀ a, H1 a = none → spX K fs (.ref a :: (vs ++ [])) (upd H1 a (exo a C none))
      (fun v H2 => v = .non ∧ ∃ (d : Addr) (gs : List (Str × V)), H2 a = some (exo a C (some d)) ∧ H2 d = some (exd d gs) ∧ H1 d = none ∧ Q (.ref C) (some d) (upd (del H2 a) d (.xd gs))) (fun _ _ _ => False) := by
  refine ⟨hz, fun a0 hn => ⟨a0, C, vs, by simp, hl, T.oex, T.fnd, upd_same, fun d H2 hd hne ea ed eo => ⟨rfl, d, (fs.zip vs).reverse, ea, ed, ?_, ?_⟩⟩⟩
  · rw [upd_ne hne] at hd; exact hd
  · have hd1 : H1 d = none := by rw [upd_ne hne] at hd; exact hd
    have eH : upd (del H2 a0) d (.xd (fs.zip vs).reverse) = upd H1 d (.xd (fs.zip vs).reverse) := by
      funext b
      by_cases e1 : b = d
      · subst e1; rw [upd_same, upd_same]
      · rw [upd_ne e1, upd_ne e1]
        by_cases e2 : b = a0
        · subst e2; rw [del_same, hn]
        · rw [del_ne e2, eo b e2 e1, upd_ne e2]
    rw [eH]
    exact k d hd1
/-! ### an exception as a value -/
def xmkFin (x : Str) (fs : List Str) (ps : List PV) (vw : Vw) : R PV := if ps.length = fs.length ∧ ps.length ≤ 1000 then .ok (.nd (.xc x fs.reverse) false (shrs ps).reverse) vw else .no
def iXmk (x : Str) (fs : List Str) (is : List IE) : IE := fun vw => (evA is vw).bind (xmkFin x fs)
section
variable {X : Cx} {pos : Pos}
theorem se_xmk {x : Str} {fs : List Str} {e : Expr} {es : List Expr} {is : List IE} {p p2 : Pos} {k : Nat} (T : ExK X.prog X.w X.K X.mg X.base x (He.ga X.K x) fs) (hr : Rg (k + 2) X.A) (ha : SAs X (e :: es) is) (hg : Gl X x := by rfl)
    (hdb : (x == ("__debug__" : Str)) = false := by decide) (he : starEach (e :: es) X.env = (false, eval e X.env) :: starEach es X.env := by rfl) (hpl : (backTo p2 (starEach es X.env)).any (·.1) = false := by rfl) :
    SE X (.Call (.Name x p) (e :: es) [] p2) (iXmk x fs is) := fun W tk => by
  obtain ⟨fI, fd, ps, h1, h2, h3, h4⟩ := T.ini
  refine (pe_of_pmk (pmk_oex (k := 1) (dvs := []) T.oex h1 h2 h3 (hr.room.mono (by omega)) h4 .nil passL hg T.gl (ha W tk) hdb he hpl)).imp fun σ H Q ⟨F, vw, S, hv, g, h⟩ => ?_
  refine runA (T := f0) (oblX (rlE X.K) X.K σ W Q) hv (gd_zero g) (by rw [fz_add]; exact h) fun qs vw' vs H1 F1 S1 S2 a b c _ q => ?_
  rw [fz_add] at c q
  have hl := a.length
  have q' : Po (rlE X.K) X.K σ W Q (if qs.length = fs.length ∧ qs.length ≤ 1000 then .ok (.nd (.xc x fs.reverse) false (shrs qs).reverse) vw' else .no) H1 F1 (fadd S1 S2) := q
  by_cases hz : qs.length = fs.length ∧ qs.length ≤ 1000
  · rw [if_pos hz] at q'
    refine mk_go (vs := vs) (H1 := H1) (Q := fun cls d H2 => ∀ a, H2 a = none → Q (.ref a) (upd H2 a (xo a cls d))) T (by omega) (by omega) fun d hd a0 hn => ?_
    obtain ⟨F2, r2, v2, g2, st⟩ := freezeA a b c
    have gn := new_gd (S1 := f0) (o := .xd (fs.zip vs).reverse) hd (gd_zero g2)
    have gn1 := new_gd1 (o := xo a0 (.ref (He.ga X.K x)) (some d)) hn True.intro gn
    rw [fadd_zero] at gn1
    obtain ⟨g3, st3⟩ := fz_one gn1
    have kp1 := kp_upd (o := .xd (fs.zip vs).reverse) (F := F2) (S := f0) hd
    have kp2 := kp_upd (o := xo a0 (.ref (He.ga X.K x)) (some d)) (F := F2) (S := f0) hn
    have da : d ≠ a0 := fun z => by rw [← z, upd_same] at hn; cases hn
    refine q' (.ref a0) _ (fun b => F2 b ∨ b = a0) f0 S2 ⟨a0, vs.reverse, f0, rfl, ⟨rfl, ?_, some d, upd_same, .inr ⟨d, rfl, ?_⟩⟩, ((((r2.keep kp1).keep kp2).rev).keep ⟨fun _ _ e _ _ => e, fun _ z => .inl z⟩), ⟨fun _ => rfl, fun _ => rfl, .inr rfl⟩⟩ ?_ (by rw [fz_add]; exact g3) ?_
    · rw [List.length_reverse, List.length_reverse]; omega
    · rw [upd_ne da, upd_same]
      have : (fs.zip vs).reverse = fs.reverse.zip vs.reverse := by
        rw [List.zip_eq_zipWith, List.zip_eq_zipWith, List.reverse_zipWith (by omega)]
      rw [this]
    · exact ((v2.keep (kp_upd hd)).keep (kp_upd hn)).keep ⟨fun _ _ e _ _ => e, fun _ z => .inl z⟩
    · rw [fz_add]
      refine ((st.trans (new_step (S' := S2) hd fun b z => .inl z)).trans (new_step (S' := fadd (one a0) S2) hn fun b z => ?_)).trans st3
      by_cases e : b = a0
      · exact .inr e
      · have z' : 0 < one a0 b + S2 b := z
        rw [one_ne e] at z'
        exact .inl (by omega)
  · rw [if_neg hz] at q'; exact q'.elim
theorem se_xmk0 {x : Str} {p : Pos} (q : PySem.W.excIn X.K (He.ga X.K x) He.veBase "ValueError.__new__" = true) (gC : X.mg x = some (.ref (He.ga X.K x))) (kC : PySem.W.keepIn X.K (.ref (He.ga X.K x)) = true) (hg : Gl X x := by rfl) (hdb : (x == ("__debug__" : Str)) = false := by decide) :
    SE X (.Call (.Name x p) [] [] pos) (iC (.nd (.xc x []) false [])) := fun W tk => (pe_xmk0 q gC kC hg hdb).imp fun σ H Q ⟨F, vw, S, hv, g, h⟩ a0 hn => by
  have gn1 := new_gd1 (S1 := f0) (S2 := S) (o := xo a0 (.ref (He.ga X.K x)) none) hn True.intro (gd_zero g)
  rw [fadd_zero] at gn1
  obtain ⟨g3, st3⟩ := fz_one gn1
  refine h (.ref a0) _ (fun b => F b ∨ b = a0) f0 S ⟨a0, [], f0, rfl, ⟨rfl, rfl, none, upd_same, .inl ⟨rfl, rfl⟩⟩, Rps.nil, ⟨fun _ => rfl, fun _ => rfl, .inr rfl⟩⟩ ((hv.keep (kp_upd hn)).keep ⟨fun _ _ e _ _ => e, fun _ z => .inl z⟩) (by rw [fz_add]; exact g3) ?_
  rw [fz_add]
  refine (new_step (S' := fadd (one a0) S) hn fun b z => ?_).trans st3
  by_cases e : b = a0
  · exact .inr e
  · have z' : 0 < one a0 b + S b := z
    rw [one_ne e] at z'
    exact .inl (by omega)
end
/-! ### isinstance -/
/-- what an exception's class must have to be asked -/
structure XiC (K : PySem.W.Frag) (D : Addr) : Prop where
  cl : (PySem.W.clsIn K D).isSome = true
  ga : PySem.W.findIn K (.ref D) "__getattribute__" = some (some (.builtin "BaseException.__getattribute__"))
  gg : PySem.W.findIn K (.ref D) "__getattr__" = some none
  ex : PySem.W.subIn K (.ref D) (.type "BaseException") = some true
  ca : PySem.W.findIn K (.ref D) "__class__" = some (some (.builtin "object.__class__"))
  ob : PySem.W.mroIn K D (.type "object") = some true
/-- .. and what the written part says of __class__ -/
structure XiK (K : PySem.W.Frag) : Prop where
  sp : PySem.W.specialIn K (.builtin "object.__class__") "__get__" = some (some (.builtin "getset_descriptor.__get__"))
  tk : PySem.W.takesIn K (.builtin "object.__class__") = some true
def rIsX (K : PySem.W.Frag) : List V → Hp → VK → Prop := fun xs H Q => ∃ (a D : Addr) (d : Option Addr) (c : V) (u : Value) (b : Bool), xs = [.ref a, c] ∧ H a = some (xo a (.ref D) d) ∧ (d = none ∨ ∃ dx fs, d = some dx ∧ H dx = some (.xd fs)) ∧ ClsV c u ∧ XiC K D ∧ PySem.W.kitOne K (.ref D) u = some b ∧ Q (.bl b) H
theorem inst_of {P : Program} {w : World} {H : Hp} {h : Heap} {a D : Addr} {d : Option Addr} {oe : Obj} {vs : Array Value} (hok : HOk P w H h) (ho : h.get? a = some oe) (hz : Zc (.ref D) d oe) (hf : oe.data = .fields vs) (hd : d = none ∨ ∃ dx fs, d = some dx ∧ H dx = some (.xd fs)) : ∃ od, PySem.W.InstAt h a oe D od := by
  rcases hd with rfl | ⟨dx, fs, rfl, hx⟩
  · exact ⟨none, ho, hz.1, by unfold PySem.W.notCls; rw [hf] <;> rfl, by rw [hz.2]; exact True.intro⟩
  · have hx' : ObjOk P w H h dx (.xd fs) := hok dx _ hx
    obtain ⟨mA, hns, hr⟩ := hx'
    obtain ⟨od, ho2, hl⟩ := lookIn_ns hns
    exact ⟨some od, ho, hz.1, by unfold PySem.W.notCls; rw [hf] <;> rfl, by rw [hz.2]; exact ho2⟩
theorem call_isX {X : Cx} (k : XiK X.K) : CallR X (.builtin "isinstance") (rIsX X.K) := by
  intro pins s σ H xs us Q I r h
  obtain ⟨a, D, d, c, u, b, rfl, ha, hd, hc, T, e, q⟩ := h
  obtain ⟨u1, u2, rfl, r1, r2⟩ := vals2 r
  cases (show u1 = Value.ref a from r1)
  have e2 := hc.eq r2
  subst e2
  obtain ⟨oe, vs, h1, h2, h3⟩ := xo_at I.hok ha
  obtain ⟨od, J⟩ := inst_of I.hok h1 h2 h3 hd
  exact PySem.W.kia_one (PySem.W.kitx_exc T.cl T.ga T.gg T.ex T.ca k.sp k.tk T.ob) I.kIn J e (fun z => nomatch z) fun tk => ⟨.bl b, H, I.tok tk, rfl, q⟩
/-- the classes' answers, by name -/
def opIsx (tb : List (Str × Bool)) : List PV → Option PV
  | [.nd (.xc x _) _ _] => (tb.lookup x).map PV.bl
  | _ => none
theorem tO_mono {K : PySem.W.Frag} {o : Opd} {W : WX} {σ : St} {H : Hp} {Q Q' : VK} (h : tO K o W σ H Q) (m : ∀ v H', Q v H' → Q' v H') : tO K o W σ H Q' := by
  cases o with
  | v n => obtain ⟨v, e, q⟩ := h; exact ⟨v, e, m _ _ q⟩
  | e i => exact tX.imp h m
theorem mem_lookup {tb : List (Str × Bool)} {x : Str} {b : Bool} (h : tb.lookup x = some b) : (x, b) ∈ tb := by
  induction tb with
  | nil => cases h
  | cons p tb ih =>
    obtain ⟨y, c⟩ := p
    rw [List.lookup_cons] at h
    cases e : x == y with
    | true =>
      rw [e] at h
      cases h
      rw [beq_iff_eq.mp e]
      exact List.mem_cons_self
    | false =>
      rw [e] at h
      exact List.mem_cons_of_mem _ (ih h)
section
variable {X : Cx} {pos p : Pos} {e c : Expr}
theorem se_isx {o : Opd} {tb : List (Str × Bool)} {v : V} {u : Value} (k : XiK X.K) (hm : X.mg "isinstance" = none) (ho : SO X e o) (hc : PE X c (tC v)) (hv : ClsV v u) (ht : ∀ q ∈ tb, XiC X.K (He.ga X.K q.1) ∧ PySem.W.kitOne X.K (.ref (He.ga X.K q.1)) u = some q.2)
    (hg : Gl X "isinstance" := by rfl) (hb : bootBuiltins "isinstance" = some (.builtin "isinstance") := by kernel_rfl) (h1 : starEach [e, c] X.env = (false, eval e X.env) :: starEach [c] X.env := by rfl) (h2 : starEach [c] X.env = (false, eval c X.env) :: starEach [] X.env := by rfl) (hpl : (backTo pos (starEach [c] X.env)).any (·.1) = false := by rfl) :
    SE X (.Call (.Name "isinstance" p) [e, c] [] pos) (iOp (opIsx tb) [o]) := fun W tk =>
  (pe_callB (call_isX k) hg hm hb (pa_cons (ho W tk) (pa_cons hc pa_nil h2) h1) (by decide) (by decide) h1 hpl).imp fun σ H Q q => by
    have hs : OpS X (fun vs H Q => ∃ x, vs = [x] ∧ rIsX X.K [x, v] H Q) (opIsx tb) := by
      intro ps vs p0 H F Q rq e k
      unfold opIsx at e
      split at e
      · rename_i x ns o2 xs
        obtain ⟨b, e1, rfl⟩ := Option.map_eq_some_iff.mp e
        obtain ⟨w, S, rfl, a, as, Sa, rfl, ⟨_, hl, d, ha, hd⟩, ra, _⟩ := rq1 (ps := []) rq
        obtain ⟨t1, t2⟩ := ht _ (mem_lookup e1)
        refine ⟨_, rfl, a, He.ga X.K x, d, v, u, b, rfl, ha, ?_, hv, t1, t2, kbl k⟩
        rcases hd with ⟨_, rfl⟩ | ⟨dx, rfl, hx⟩
        · exact .inl rfl
        · exact .inr ⟨dx, _, rfl, hx⟩
      · cases e
    have := iop_ok (os := [o]) hs q
    exact tO_mono this fun x H1 ⟨x', ex, q⟩ => by cases ex; exact q
/-! ### fields -/
def opXf (cs : List Str) (f : Str) : List PV → Option PV
  | [.nd (.xc x ns) _ xs] => if x ∈ cs then match dget ns xs f with
    | some p => if p.pure = true then some p else none
    | none => none else none
  | _ => none
def rXf (K : PySem.W.Frag) (f : Str) : V → Hp → VK → Prop := fun x H Q => ∃ (a D dd : Addr) (fs : List (Str × V)) (v : V), x = .ref a ∧ H a = some (xo a (.ref D) (some dd)) ∧ H dd = some (.xd fs) ∧ XfC K D ∧ PySem.W.findIn K (.ref D) f = some none ∧ fs.lookup f = some v ∧ Q v H
theorem pe_xfv {te : TE} {f : Str} (he : PE X e te) (hb : attributeBase e f X.env (eval e X.env) = eval e X.env := by rfl) : PE X (.Attribute e f pos) (fun σ H Q => te σ H fun x H1 => rXf X.K f x H1 Q) := by
  refine ⟨fun pins s σ H Q I h => attr_of hb (thn (he.run pins s σ H _ I h) fun u s1 hh => ?_)⟩
  obtain ⟨x, H1, I1, rx, a, D, dd, fs, v, ex, ha, hdd, T, hno, l, q⟩ := hh
  subst ex
  obtain rfl : u = Value.ref a := rx
  obtain ⟨oe, vs, h1, h2, h3⟩ := xo_at I1.hok ha
  obtain ⟨mA, hns, hr⟩ := (show ObjOk X.prog X.w H1 s1.heap dd (.xd fs) from I1.hok dd _ hdd)
  obtain ⟨od, ho, hl⟩ := lookIn_ns hns
  obtain ⟨u, hu, ru⟩ := RelO.some_of (v := v) (o := mA f) (by rw [← l]; exact hr f)
  have J : PySem.W.InstAt s1.heap a oe D (some od) := ⟨h1, h2.1, by unfold PySem.W.notCls; rw [h3] <;> rfl, by rw [h2.2]; exact ho⟩
  exact HandSPX.exc_get I1.kIn J T.ga T.gg T.exC (PySem.W.findObj_own T.hdC hno rfl (by rw [hl, hu])) (handed_of ru) ⟨v, H1, I1.tok _, ru, q⟩
theorem se_xfv {o : Opd} {cs : List Str} {f : Str} (ho : SO X e o) (hc : ∀ x ∈ cs, XfC X.K (He.ga X.K x) ∧ PySem.W.findIn X.K (.ref (He.ga X.K x)) f = some none) (hb : attributeBase e f X.env (eval e X.env) = eval e X.env := by rfl) : SE X (.Attribute e f pos) (iOp (opXf cs f) [o]) := fun W tk =>
  (pe_xfv (ho W tk) hb).imp fun σ H Q q => by
    have hs : OpS X (fun vs H Q => ∃ x, vs = [x] ∧ rXf X.K f x H Q) (opXf cs f) := by
      intro ps vs p0 H F Q rq e k
      unfold opXf at e
      split at e
      · rename_i x ns o2 xs
        split at e
        · rename_i hx
          cases e1 : dget ns xs f with
          | none => rw [e1] at e; cases e
          | some p1 =>
            rw [e1] at e
            simp only at e
            split at e
            · rename_i hp
              cases e
              obtain ⟨w, S, rfl, a, as, Sa, rfl, ⟨_, hl, d, ha, hd⟩, ra, _⟩ := rq1 (ps := []) rq
              rcases hd with ⟨rfl, _⟩ | ⟨dx, rfl, hx2⟩
              · cases xs <;> cases e1
              · have h1 := dget_v (ks := ns) f ra
                rw [e1] at h1
                cases e2 : valV (ns.zip as) f with
                | none => rw [e2] at h1; exact (show False from h1).elim
                | some w =>
                  rw [e2] at h1
                  obtain ⟨S3, r3⟩ : ∃ S, Rp X.K H F p0 w S := h1
                  exact ⟨_, rfl, a, He.ga X.K x, dx, _, w, rfl, ha, hx2, (hc x hx).1, (hc x hx).2, by rw [lookup_val]; exact e2, k0 k (rp_zero r3 hp)⟩
            · cases e
        · cases e
      · cases e
    have := iop_ok (os := [o]) hs q
    exact tO_mono this fun x H1 ⟨x', ex, q⟩ => by cases ex; exact q
end
end Bx
set_option Elab.async false
set_option linter.all false
set_option maxRecDepth 100000
set_option maxHeartbeats 4000000
/-! L11: a list that a name and an exception have together; a told exception is asked. -/
namespace Bx
open PySem PySem.Spec PyProof.Rows L2
variable [Tbs]
theorem step_same {H H' : Hp} {F : Fz} {S : Fp} (e : Same H H') : Step H F S H' F S := ⟨fun a o h _ _ => e a o h, fun _ z => .inl z, fun _ z => z, fun _ z => .inl z⟩
def L3 : PV := L [.int 1, L [.int 2], .int 3]
def isAl : Option (Option PV) → Bool
  | some (some (.nd .lst true [.int 1, .nd .lst true [.int 2]])) => true
  | _ => false
theorem isAl_eq {o : Option (Option PV)} (h : isAl o = true) : o = some (some (.nd .lst true [.int 1, .nd .lst true [.int 2]])) := by
  unfold isAl at h
  split at h
  · rfl
  · cases h
/-- y = X(s, z); z.append(3); if y.f != [1, [2], 3]: .. -/
def jAl (n m : Nat) (jr : IS) : IS := fun vw => if isAl vw[n]? = true ∧ m < vw.length then jr ((vw.set n none).set m none) else .no
theorem mk_eq {H H2 : Hp} {a0 d : Addr} {o o' : HO} (hn : H a0 = none) (eo : ∀ b, b ≠ a0 → b ≠ d → H2 b = upd H a0 o' b) : upd (del H2 a0) d o = upd H d o := by
  funext b
  by_cases e1 : b = d
  · subst e1; rw [upd_same, upd_same]
  · rw [upd_ne e1, upd_ne e1]
    by_cases e2 : b = a0
    · subst e2; rw [del_same, hn]
    · rw [del_ne e2, eo b e2 e1, upd_ne e2]
theorem r2_of {r : R2} {x y : V} {H : Hp} {Q : VK} (h : r2l r [x, y] H Q) : r x y H Q := h
section
variable {X : Cx} {fx : Nat → Bool}
theorem ss_alias {k : Nat} {x y z s f fa : Str} {lst : Expr} {il : IE} {k1 k2 : Nat} {p1 p2 p3 p4 p5 p6 p7 p8 p9 p10 p11 p12 p13 p14 p15 : Pos} {rets rest : List Stmt} {jx jr : IS} (n m : Nat) (hnm : n ≠ m) (T : ExK X.prog X.w X.K X.mg X.base x (He.ga X.K x) [fa, f]) (hff : fa ≠ f) (hr : Rg (k + 2) X.A)
    (xf : XfC X.K (He.ga X.K x)) (hno : PySem.W.findIn X.K (.ref (He.ga X.K x)) f = some none) (hN : X.N.Nodup) (hl : SE X lst il) (hil : ∀ vw, il vw = .ok L3 vw) (hret : SSs X fx rets jx) (hrest : SSs X fx rest jr) (hfx : fx m = false := by rfl)
    (hs : PyData.strOk s = true := by decide +kernel) (hn : X.N[n]? = some z := by rfl) (hm : X.N[m]? = some y := by rfl) (hg : Gl X x := by rfl) (hdb : (x == ("__debug__" : Str)) = false := by decide)
    (hvz : Vis X.env.scope z := by first | exact Or.inl rfl | exact Or.inr (Or.inl rfl) | exact Or.inr (Or.inr rfl)) (hzd : (z == ("__debug__" : Str)) = false := by decide) (hzc : (z == ("__classdict__" : Str)) = false := by decide)
    (hvy : Vis X.env.scope y := by first | exact Or.inl rfl | exact Or.inr (Or.inl rfl) | exact Or.inr (Or.inr rfl)) (hyd : (y == ("__debug__" : Str)) = false := by decide) (hyc : (y == ("__classdict__" : Str)) = false := by decide)
    (hly : Loc X.env.scope y := by first | exact Or.inl rfl | exact Or.inr rfl) (hfy : X.fn y = true ∨ X.env.scope.names.lookup y = some .local := by first | exact .inl rfl | exact .inr rfl)
    (h1 : starEach [.Constant (.str s) k1 p3, .Name z p4] X.env = (false, eval (.Constant (.str s) k1 p3) X.env) :: starEach [.Name z p4] X.env := by rfl) (h2 : starEach [.Name z p4] X.env = (false, eval (.Name z p4) X.env) :: starEach [] X.env := by rfl)
    (h3 : (backTo p5 (starEach [.Name z p4] X.env)).any (·.1) = false := by rfl)
    (h4 : swapsWithSole [.Name y p1] (.Call (.Name x p2) [.Constant (.str s) k1 p3, .Name z p4] [] p5) p6.line X.env = pure false := by rfl) (h5 : swappedStores [.Name y p1] (.Call (.Name x p2) [.Constant (.str s) k1 p3, .Name z p4] [] p5) X.env = pure none := by rfl)
    (h6 : (assignEach [.Name y p1] X.env).map (·.2) = [assign (.Name y p1) X.env] := by rfl)
    (h7 : attributeBase (.Name z p7) "append" X.env (eval (.Name z p7) X.env) = eval (.Name z p7) X.env := by rfl)
    (h8 : ((backTo p10 (starEach [.Constant (.int 3) k2 p9] X.env)).all (fun x => !x.1) && (backToKw p10 (keywordEach [] X.env)).all (fun x => x.1.isSome) && decide ([Expr.Constant (.int 3) k2 p9].length + ([] : List Keyword).length + (if ([] : List Keyword).isEmpty then 0 else 1) < 30)) = true := by rfl)
    (h9 : (p8.endLine == p10.line) = true := by rfl) (h10 : starEach [.Constant (.int 3) k2 p9] X.env = (false, eval (.Constant (.int 3) k2 p9) X.env) :: starEach [] X.env := by rfl)
    (h11 : swapsWith (.Call (.Attribute (.Name z p7) "append" p8) [.Constant (.int 3) k2 p9] [] p10) none p11.line X.env = pure false := by rfl)
    (h12 : attributeBase (.Name y p12) f X.env (eval (.Name y p12) X.env) = eval (.Name y p12) X.env := by rfl) (h13 : behindInMarks .NotEq lst = false := by rfl) :
    SSs X fx (.Assign [.Name y p1] (.Call (.Name x p2) [.Constant (.str s) k1 p3, .Name z p4] [] p5) p6 :: .Expr (.Call (.Attribute (.Name z p7) "append" p8) [.Constant (.int 3) k2 p9] [] p10) p11 ::
      .If (.Compare (.Attribute (.Name y p12) f p13) [.NotEq] [lst] p14) rets [] p15 :: rest) (jAl n m jr) := fun W tk => by
  obtain ⟨fI, fd, ps, i1, i2, i3, i4⟩ := T.ini
  have e2 := pe_of_pmk (e := .Call (.Name x p2) [.Constant (.str s) k1 p3, .Name z p4] [] p5) (pmk_oex (pos := p5) (k := 1) (dvs := []) T.oex i1 i2 i3 (hr.room.mono (by omega)) i4 .nil passL hg T.gl (pa_cons (pe_str (pos := p3) (j := k1) (x := s)) (pa_cons (pe_var (pos := p4) hn hvz hzd hzc) pa_nil h2) h1) hdb h1 h3)
  have e3 := pe_bm (o := .Name z p7) (e := .Constant (.int 3) k2 p9) (es := []) (apos := p8) (cpos := p10) PySem.F.plainAttrs_list PySem.F.slot_list_append PySem.F.type_list_append mt_append (pe_var (pos := p7) hn hvz hzd hzc) (pa_cons (pe_int (i := 3) (j := k2) (pos := p9)) pa_nil h10) h7 h8 h9 h10 rfl
  have e4 := pt_cmpR (a := .Attribute (.Name y p12) f p13) (b := lst) (pos := p14) (or_neD2 hr.u64) (pe_xfv (pos := p13) (pe_var (pos := p12) hm hvy hyd hyc) h12) (hl W tk) h13
  refine (pss_cons (ps_asg e2 (pg_name hN hm hly hfy) h4 h5 h6) (pss_cons (ps_expr e3 h11) (pss_cons (ps_if e4 (hret W tk) pss_nil) (hrest W tk)))).imp fun D σ H ⟨F, vw, S, hv, g, h⟩ => ?_
  have h' : PoS X.K fx D σ W (if isAl vw[n]? = true ∧ m < vw.length then jr ((vw.set n none).set m none) else .no) H F S := h
  by_cases hc : isAl vw[n]? = true ∧ m < vw.length
  · rw [if_pos hc] at h'
    obtain ⟨hc1, hml⟩ := hc
    have en := isAl_eq hc1
    obtain ⟨v, Sp, Sr, hσ, es, r, _⟩ := hv.focus en
    obtain ⟨l, vs, Sx, rfl, hl1, _, _⟩ := r
    have hl2 : H l = some (.lst vs) := hl1
    refine ⟨.ref l, hσ, (by decide : (2 : Nat) ≤ 1000), fun a0 hn0 => ⟨a0, He.ga X.K x, [.str s, .ref l], rfl, rfl, T.oex, T.fnd, upd_same, fun d H2 hd0 hne ea ed eo => ⟨rfl, d, ([fa, f].zip [V.str s, V.ref l]).reverse, ea, ed, by rw [upd_ne hne] at hd0; exact hd0, ?_⟩⟩⟩
    have hd : H d = none := by rw [upd_ne hne] at hd0; exact hd0
    rw [mk_eq hn0 eo]
    intro a ha
    obtain ⟨S', l', v'⟩ := hv.drop hml
    have v1 := ((v'.any (x := some (.ref a)) (List.getElem?_set_self hml)).keep (kp_upd (o := .xd ([fa, f].zip [V.str s, V.ref l]).reverse) (F := F) (S := S') hd)).keep (kp_upd (o := xo a (.ref (He.ga X.K x)) (some d)) (F := F) (S := S') ha)
    have g1 := new_gd (S1 := f0) (o := xo a (.ref (He.ga X.K x)) (some d)) ha (new_gd (S1 := f0) (o := .xd ([fa, f].zip [V.str s, V.ref l]).reverse) hd (gd_zero (g.sub l')))
    have en2 : (vw.set m none)[n]? = some (some (.nd .lst true [.int 1, .nd .lst true [.int 2]])) := by rw [List.getElem?_set_ne (fun z => hnm z.symm)]; exact en
    obtain ⟨l2, vs2, Sx2, hσ2, hh, hx, mu, lx, nx, go⟩ := mut_at v1 g1 en2 rfl
    have el : l2 = l := by
      rw [List.getElem?_set_ne (fun z => hnm z.symm)] at hσ2
      rw [hσ] at hσ2
      cases hσ2; rfl
    subst el
    have hh1 : upd (upd H d (.xd ([fa, f].zip [V.str s, V.ref l2]).reverse)) a (xo a (.ref (He.ga X.K x)) (some d)) l2 = some (.lst vs2) := hh
    have nla : a ≠ l2 := fun z => by
      rw [z] at ha
      rw [upd_ne (fun z2 => by rw [← z2, hl2] at hd; cases hd)] at ha
      rw [hl2] at ha; cases ha
    have nld : d ≠ l2 := fun z => by rw [z, hl2] at hd; cases hd
    have nda : d ≠ a := fun z => by rw [← z, upd_same] at ha; cases ha
    obtain ⟨kp, S2', le2, rv, g2, st2⟩ := go .lst [.int 1, .nd .lst true [.int 2], .int 3] (vs2 ++ [V.int 3]) (fadd Sx2 f0) f0 (.lst (vs2 ++ [V.int 3])) rfl (hx.append (Rps.sing (p := .int 3) (u := .int 3) ⟨rfl, fun _ => rfl⟩)) (fun b => by show Sx2 b + 0 + 0 ≤ 0 + Sx2 b; omega) True.intro upd_same
    have hlen : vs2.length < sizeLine := by
      have := hx.length
      rw [← this, sizeLine_eq]; decide
    show ∃ v, (σ.set m (some (.ref a)))[n]? = some (some v) ∧ _
    refine ⟨.ref l2, hσ2, .inl ⟨rfl, _, SqL.of hh1⟩, l2, vs2, .int 3, rfl, rfl, hh1, hlen, ?_⟩
    have hσm : m < σ.length := by rw [← hv.length]; exact hml
    show ∃ v, (σ.set m (some (.ref a)))[m]? = some (some v) ∧ _
    refine ⟨.ref a, List.getElem?_set_self hσm, a, He.ga X.K x, d, ([fa, f].zip [V.str s, V.ref l2]).reverse, .ref l2, rfl, ?_, ?_, xf, hno, ?_, ?_⟩
    · rw [upd_ne nla, upd_same]
    · rw [upd_ne nld, upd_ne nda, upd_same]
    · show ([(f, V.ref l2), (fa, V.str s)] : List (Str × V)).lookup f = some (.ref l2)
      rw [List.lookup_cons_self]
    refine ⟨F, _, S2', rv, ?_, ?_⟩
    · rw [fz_add] at g2; exact g2
    rw [fz_add] at g2 st2
    rw [hil]
    intro y1 H4 F4 T1 T2 ry rv4 g4 st4
    have hn2 : n < (vw.set m none).length := (List.getElem?_eq_some_iff.mp en2).1
    obtain ⟨vk, Sk, Sk2, hσ3, _, rk, _⟩ := rv4.focus (n := n) (p := .nd .lst true [.int 1, .nd .lst true [.int 2], .int 3]) (List.getElem?_set_self hn2)
    rw [hσ2] at hσ3
    cases hσ3
    refine r2_of (os_ne [.nd .lst true [.int 1, .nd .lst true [.int 2], .int 3], L3] [.ref l2, y1] (.bl false) H4 F4 _ ⟨_, _, rfl, ⟨_, rk⟩, _, _, rfl, ⟨_, ry⟩, rfl⟩ (by rfl) fun w H5 S5 sm r5 _ _ => ?_)
    obtain ⟨rfl, _⟩ := r5
    refine ⟨false, rfl, ?_⟩
    have g4' := g4.sub (T := T2) fun _ => Nat.le_add_left _ _
    obtain ⟨T3, lt3, rv5⟩ := (rv4.keep (same_kp sm)).drop (n := n) (by rw [List.length_set]; exact hn2)
    have ev : (((vw.set m none).set n (some (.nd .lst true [.int 1, .nd .lst true [.int 2], .int 3]))).set n none) = (vw.set n none).set m none := by
      rw [List.set_set, List.set_comm _ _ (fun z => hnm z.symm)]
    rw [ev] at rv5
    have stp : Step H F S H5 F4 T3 := by
      have s1 : Step H F S (upd (upd H d (.xd ([fa, f].zip [V.str s, V.ref l2]).reverse)) a (xo a (.ref (He.ga X.K x)) (some d))) F S' := ((Step.refl.sub l').trans (new_step hd fun b z => .inl z)).trans (new_step ha fun b z => .inl z)
      rw [fz_add] at st2
      exact (((s1.trans st2).trans (st4.sub fun _ => Nat.le_add_left _ _)).trans (step_same sm)).sub lt3
    exact ⟨F4, _, T3, rv5, (gd_same sm g4').1.sub lt3, PoS.stp (Fix.set hfx) stp h'⟩
  · rw [if_neg hc] at h'; exact h'.elim
end
end Bx
set_option Elab.async false
set_option linter.all false
set_option maxRecDepth 100000
set_option maxHeartbeats 4000000
/-! L12: z.append(isinstance(e, A) and isinstance(e, B) and e.f == [1, [2], 3]) in an except suite; what a head tells of exceptions' classes. -/
namespace Bx
open PySem PySem.Spec PyProof.Rows L2
variable [Tbs]
def rIsP (K : PySem.W.Frag) (a : Addr) (cls : Value) (d : Option Addr) : List V → Hp → VK → Prop := fun xs H Q => ∃ (D : Addr) (c : V) (u : Value) (b : Bool), xs = [.ref a, c] ∧ cls = .ref D ∧ (d = none ∨ ∃ dx fs, d = some dx ∧ H dx = some (.xd fs)) ∧ ClsV c u ∧ XiC K D ∧ PySem.W.kitOne K (.ref D) u = some b ∧ Q (.bl b) H
theorem call_isP {X : Cx} {a : Addr} {oe : Obj} {cls : Value} {d : Option Addr} {pn : List (Addr × Obj)} (k : XiK X.K) (hz : Zc cls d oe) (hf : ∃ vs, oe.data = .fields vs) : CallR (X.suite a ((a, oe) :: pn)) (.builtin "isinstance") (rIsP X.K a cls d) := by
  intro pins s σ H xs us Q I r h
  obtain ⟨D, c, u, b, rfl, rfl, hd, hc, T, e, q⟩ := h
  obtain ⟨u1, u2, rfl, r1, r2⟩ := vals2 r
  cases (show u1 = Value.ref a from r1)
  have e2 := hc.eq r2
  subst e2
  obtain ⟨vs, h3⟩ := hf
  obtain ⟨h1, _⟩ := I.pin (a, oe) (List.mem_append.mpr (.inl List.mem_cons_self))
  obtain ⟨od, J⟩ := inst_of I.hok h1 hz h3 hd
  exact PySem.W.kia_one (PySem.W.kitx_exc T.cl T.ga T.gg T.ex T.ca k.sp k.tk T.ob) I.kIn J e (fun z => nomatch z) fun tk => ⟨.bl b, H, I.tok tk, rfl, q⟩
/-- what the suite makes -/
def isE0 : Option (Option PV) → Bool
  | some (some (.nd .lst true [])) => true
  | _ => false
theorem isE0_eq {o : Option (Option PV)} (h : isE0 o = true) : o = some (some (.nd .lst true [])) := by
  unfold isE0 at h
  split at h
  · rfl
  · cases h
def isTr : Option PV → Bool
  | some (.bl true) => true
  | _ => false
theorem isTr_eq {o : Option PV} (h : isTr o = true) : o = some (.bl true) := by
  unfold isTr at h
  split at h
  · rfl
  · cases h
def jTold (C : Addr) (f : Str) (m : Nat) : Xc → IS := fun x vw => match fldOf x C f with
  | some p => if isTr (opEq [p, L3]) = true ∧ isE0 vw[m]? = true then .ok .nx (vw.set m (some (.nd .lst true [.bl true]))) else .no
  | none => .no
section
variable {X : Cx} {fx : Nat → Bool}
theorem su_told {k : Nat} {C : Addr} {x z f : Str} {c1 c2 lst : Expr} {il : IE} {v1 v2 : V} {u1 u2 : Value} {p0 p1 p2 p3 p4 p5 p6 p7 p8 p9 p10 p11 p12 p13 : Pos} (n m : Nat) (kx : XiK X.K) (hr : Rg k X.A) (T : XfC X.K C) (hno : PySem.W.findIn X.K (.ref C) f = some none) (Ti : XiC X.K C)
    (hmi : X.mg "isinstance" = none) (hc1 : ∀ a pn, PE (X.suite a pn) c1 (tC v1)) (hc2 : ∀ a pn, PE (X.suite a pn) c2 (tC v2)) (hv1 : ClsV v1 u1) (hv2 : ClsV v2 u2) (hk1 : PySem.W.kitOne X.K (.ref C) u1 = some true) (hk2 : PySem.W.kitOne X.K (.ref C) u2 = some true)
    (hl : ∀ a pn, SE (X.suite a pn) lst il) (hil : ∀ vw, il vw = .ok L3 vw)
    (hn : X.N[n]? = some x := by rfl) (hm : X.N[m]? = some z := by rfl) (hg : Gl X "isinstance" := by rfl) (hbt : bootBuiltins "isinstance" = some (.builtin "isinstance") := by kernel_rfl)
    (hvz : Vis X.env.scope z := by first | exact Or.inl rfl | exact Or.inr (Or.inl rfl) | exact Or.inr (Or.inr rfl)) (hzd : (z == ("__debug__" : Str)) = false := by decide) (hzc : (z == ("__classdict__" : Str)) = false := by decide)
    (hvx : Vis X.env.scope x := by first | exact Or.inl rfl | exact Or.inr (Or.inl rfl) | exact Or.inr (Or.inr rfl)) (hxd : (x == ("__debug__" : Str)) = false := by decide) (hxc : (x == ("__classdict__" : Str)) = false := by decide)
    (h1 : starEach [.Name x p1, c1] X.env = (false, eval (.Name x p1) X.env) :: starEach [c1] X.env := by rfl) (h2 : starEach [c1] X.env = (false, eval c1 X.env) :: starEach [] X.env := by rfl) (h3 : (backTo p2 (starEach [c1] X.env)).any (·.1) = false := by rfl)
    (h4 : starEach [.Name x p4, c2] X.env = (false, eval (.Name x p4) X.env) :: starEach [c2] X.env := by rfl) (h5 : starEach [c2] X.env = (false, eval c2 X.env) :: starEach [] X.env := by rfl) (h6 : (backTo p5 (starEach [c2] X.env)).any (·.1) = false := by rfl)
    (h7 : attributeBase (.Name x p6) f X.env (eval (.Name x p6) X.env) = eval (.Name x p6) X.env := by rfl) (h8 : behindInMarks .Eq lst = false := by rfl)
    (h9 : attributeBase (.Name z p10) "append" X.env (eval (.Name z p10) X.env) = eval (.Name z p10) X.env := by rfl)
    (h10 : ((backTo p12 (starEach [.BoolOp .And [.Call (.Name "isinstance" p0) [.Name x p1, c1] [] p2, .Call (.Name "isinstance" p3) [.Name x p4, c2] [] p5, .Compare (.Attribute (.Name x p6) f p7) [.Eq] [lst] p8] p9] X.env)).all (fun x => !x.1) && (backToKw p12 (keywordEach [] X.env)).all (fun x => x.1.isSome) && decide ([Expr.BoolOp .And [.Call (.Name "isinstance" p0) [.Name x p1, c1] [] p2, .Call (.Name "isinstance" p3) [.Name x p4, c2] [] p5, .Compare (.Attribute (.Name x p6) f p7) [.Eq] [lst] p8] p9].length + ([] : List Keyword).length + (if ([] : List Keyword).isEmpty then 0 else 1) < 30)) = true := by rfl)
    (h11 : (p11.endLine == p12.line) = true := by rfl) (h12 : starEach [.BoolOp .And [.Call (.Name "isinstance" p0) [.Name x p1, c1] [] p2, .Call (.Name "isinstance" p3) [.Name x p4, c2] [] p5, .Compare (.Attribute (.Name x p6) f p7) [.Eq] [lst] p8] p9] X.env = (false, eval (.BoolOp .And [.Call (.Name "isinstance" p0) [.Name x p1, c1] [] p2, .Call (.Name "isinstance" p3) [.Name x p4, c2] [] p5, .Compare (.Attribute (.Name x p6) f p7) [.Eq] [lst] p8] p9) X.env) :: starEach [] X.env := by rfl)
    (h13 : swapsWith (.Call (.Attribute (.Name z p10) "append" p11) [.BoolOp .And [.Call (.Name "isinstance" p0) [.Name x p1, c1] [] p2, .Call (.Name "isinstance" p3) [.Name x p4, c2] [] p5, .Compare (.Attribute (.Name x p6) f p7) [.Eq] [lst] p8] p9] [] p12) none p13.line X.env = pure false := by rfl) :
    SuS X fx (some n) [.Expr (.Call (.Attribute (.Name z p10) "append" p11) [.BoolOp .And [.Call (.Name "isinstance" p0) [.Name x p1, c1] [] p2, .Call (.Name "isinstance" p3) [.Name x p4, c2] [] p5, .Compare (.Attribute (.Name x p6) f p7) [.Eq] [lst] p8] p9] [] p12) p13] (jTold C f m) := fun a oe cls d pn hz hf => by
  have i1 := pe_callB (X := X.suite a ((a, oe) :: pn)) (e := .Name x p1) (es := [c1]) (x := "isinstance") (p := p0) (pos := p2) (call_isP kx hz hf) hg hmi hbt (pa_cons (pe_var hn hvx hxd hxc) (pa_cons (hc1 a _) pa_nil h2) h1) (by decide) (by decide) h1 h3
  have i2 := pe_callB (X := X.suite a ((a, oe) :: pn)) (e := .Name x p4) (es := [c2]) (x := "isinstance") (p := p3) (pos := p5) (call_isP kx hz hf) hg hmi hbt (pa_cons (pe_var hn hvx hxd hxc) (pa_cons (hc2 a _) pa_nil h5) h4) (by decide) (by decide) h4 h6
  have i3 := pe_cmpR (X := X.suite a ((a, oe) :: pn)) (a := .Attribute (.Name x p6) f p7) (b := lst) (pos := p8) (or_eqD2 (X := X.suite a ((a, oe) :: pn)) hr.u64) (pe_xf T hno hz hf (pe_var (X := X.suite a ((a, oe) :: pn)) hn hvx hxd hxc) h7) (hl a ((a, oe) :: pn) _ (takes_no (Y := X.suite a ((a, oe) :: pn)))) h8
  have i4 := pe_bm (X := X.suite a ((a, oe) :: pn)) (o := .Name z p10) (es := []) (apos := p11) (cpos := p12) PySem.F.plainAttrs_list PySem.F.slot_list_append PySem.F.type_list_append mt_append (pe_var hm hvz hzd hzc) (pa_cons (pe_andT (pos := p9) i1 (pe_andT (pos := p9) i2 (pe_one i3))) pa_nil h12) h9 h10 h11 h12 rfl
  refine (pss_one (ps_expr (X := X.suite a ((a, oe) :: pn)) i4 h13)).imp fun D τ G ⟨F, vw, S, xc, rv, g, rx, hσ, q⟩ => ?_
  unfold jTold at q
  cases e : fldOf xc C f with
  | none => rw [e] at q; exact q.elim
  | some p =>
    rw [e] at q
    have q' : PoS X.K fx D τ (fun _ _ _ _ => False) (if isTr (opEq [p, L3]) = true ∧ isE0 vw[m]? = true then .ok .nx (vw.set m (some (.nd .lst true [.bl true]))) else .no) G F S := q
    by_cases hc : isTr (opEq [p, L3]) = true ∧ isE0 vw[m]? = true
    · rw [if_pos hc] at q'
      obtain ⟨hq, hE⟩ := hc
      have eq := isTr_eq hq
      have em := isE0_eq hE
      obtain ⟨vm, Sp, Sr, hσm, es, r, _⟩ := rv.focus em
      obtain ⟨l, vs, Sx, rfl, hl1, hl0, _⟩ := r
      have hl2 : G l = some (.lst vs) := hl1
      obtain ⟨ec, hp, dd, gs, vf, rfl, hg2, hlk, rp⟩ := fld_at rx e
      subst ec
      have hσn := hσ n rfl
      refine ⟨.ref l, hσm, .inl ⟨rfl, _, SqL.of hl2⟩, ?_⟩
      refine ⟨.ref a, hσn, C, v1, u1, true, rfl, rfl, .inr ⟨dd, gs, rfl, hg2⟩, hv1, Ti, hk1, true, rfl, ?_⟩
      rw [if_pos rfl]
      refine ⟨.ref a, hσn, C, v2, u2, true, rfl, rfl, .inr ⟨dd, gs, rfl, hg2⟩, hv2, Ti, hk2, true, rfl, ?_⟩
      rw [if_pos rfl]
      refine ⟨.ref a, hσn, rfl, rfl, dd, gs, vf, rfl, hg2, hlk, F, vw, S, rv, g, ?_⟩
      rw [hil]
      intro y1 H4 F4 T1 T2 ry rv4 g4 st4
      have rp4 : Rp X.K H4 F4 p vf Bx.f0 := rp.keep (Kp.of (gd_zero g) st4)
      refine r2_of (os_eq [p, L3] [vf, y1] (.bl true) H4 F4 _ ⟨_, _, rfl, ⟨_, rp4⟩, _, _, rfl, ⟨_, ry⟩, rfl⟩ eq fun w H5 S5 sm r5 _ _ => ?_)
      obtain ⟨rfl, _⟩ := r5
      have g5 := (gd_same sm (g4.sub (T := T2) fun _ => Nat.le_add_left _ _)).1
      have rv5 := rv4.keep (same_kp (F := F4) (S := T2) sm)
      obtain ⟨l2, vs2, Sx2, hσ2, hh, hx, mu, lx, nx, go⟩ := mut_at rv5 (gd_zero g5) em rfl
      rw [hσm] at hσ2
      cases hσ2
      have hx0 : vs2 = [] := hx.1
      subst hx0
      obtain ⟨kp, S2', le2, rv6, g6, st6⟩ := go .lst [.bl true] [.bl true] _ Bx.f0 (.lst [.bl true]) rfl (Rps.sing (p := .bl true) (u := .bl true) (S := Bx.f0) ⟨rfl, fun _ => rfl⟩) (fun b => Nat.zero_le _) True.intro upd_same
      refine ⟨l, [], .bl true, rfl, rfl, hh, by rw [sizeLine_eq]; decide, ?_⟩
      rw [fz_add] at g6 st6
      rw [fz_add] at st6
      exact q' τ _ F4 S2' rv6 Fix.refl g6 (((st4.sub fun _ => Nat.le_add_left _ _).trans (step_same sm)).trans st6)
    · rw [if_neg hc] at q'; exact q'.elim
end
/-! ### what the head tells of exceptions' classes -/
def xiB (K : PySem.W.Frag) (D : Addr) : Bool := (PySem.W.clsIn K D).isSome && (decide (PySem.W.findIn K (.ref D) "__getattribute__" = some (some (.builtin "BaseException.__getattribute__"))) && (decide (PySem.W.findIn K (.ref D) "__getattr__" = some none) && (decide (PySem.W.subIn K (.ref D) (.type "BaseException") = some true) &&
  (decide (PySem.W.findIn K (.ref D) "__class__" = some (some (.builtin "object.__class__"))) && decide (PySem.W.mroIn K D (.type "object") = some true)))))
theorem xiB_ok {K : PySem.W.Frag} {D : Addr} (h : xiB K D = true) : XiC K D := by
  unfold xiB at h
  simp only [Bool.and_eq_true, decide_eq_true_eq] at h
  obtain ⟨h1, h2, h3, h4, h5, h6⟩ := h
  exact ⟨h1, h2, h3, h4, h5, h6⟩
def xikB (K : PySem.W.Frag) : Bool := decide (PySem.W.specialIn K (.builtin "object.__class__") "__get__" = some (some (.builtin "getset_descriptor.__get__"))) && decide (PySem.W.takesIn K (.builtin "object.__class__") = some true)
theorem xikB_ok {K : PySem.W.Frag} (h : xikB K = true) : XiK K := by
  unfold xikB at h
  simp only [Bool.and_eq_true, decide_eq_true_eq] at h
  exact ⟨h.1, h.2⟩
/-- the answers for the class c: of each class of the table -/
def tabB (K : PySem.W.Frag) (u : Value) (tb : List (Str × Bool)) : Bool := tb.all fun q => xiB K (He.ga K q.1) && decide (PySem.W.kitOne K (.ref (He.ga K q.1)) u = some q.2)
theorem tabB_ok {K : PySem.W.Frag} {u : Value} {tb : List (Str × Bool)} (h : tabB K u tb = true) : ∀ q ∈ tb, XiC K (He.ga K q.1) ∧ PySem.W.kitOne K (.ref (He.ga K q.1)) u = some q.2 := fun q hq => by
  have z := List.all_eq_true.mp h q hq
  simp only [Bool.and_eq_true, decide_eq_true_eq] at z
  exact ⟨xiB_ok z.1, z.2⟩
end Bx
set_option Elab.async false
set_option linter.all false
set_option maxRecDepth 100000
set_option maxHeartbeats 4000000
/-! L13: exceptions' classes as one fact; the law's row with it. -/
namespace Bx
open PySem PySem.Spec PyProof.Rows L2
structure XF (xts : List (Str × List (Str × Bool))) (tv : List (Str × Bool)) (K : PySem.W.Frag) : Prop where
  k : xikB K = true
  v : tabB K (.type "ValueError") tv = true
  c : ∀ p ∈ xts, tabB K (.ref (He.ga K p.1)) p.2 = true
def xfAll (xts : List (Str × List (Str × Bool))) (tv : List (Str × Bool)) (K : PySem.W.Frag) : Bool := xikB K && (tabB K (.type "ValueError") tv && xts.all fun p => tabB K (.ref (He.ga K p.1)) p.2)
theorem xfAll_ok {xts : List (Str × List (Str × Bool))} {tv : List (Str × Bool)} {K : PySem.W.Frag} (h : xfAll xts tv K = true) : XF xts tv K := by
  unfold xfAll at h
  obtain ⟨h1, h⟩ := Bool.and_eq_true_iff.mp h
  obtain ⟨h2, h3⟩ := Bool.and_eq_true_iff.mp h
  exact ⟨h1, h2, fun p hp => List.all_eq_true.mp h3 p hp⟩
section
variable [Tbs] {xts : List (Str × List (Str × Bool))} {tv : List (Str × Bool)} {K : PySem.W.Frag}
theorem XF.xk (E : XF xts tv K) : XiK K := xikB_ok E.k
theorem XF.vt (E : XF xts tv K) : ∀ q ∈ tv, XiC K (He.ga K q.1) ∧ PySem.W.kitOne K (.ref (He.ga K q.1)) (.type "ValueError") = some q.2 := tabB_ok E.v
theorem XF.ct (E : XF xts tv K) (i : Nat) {x : Str} {tb : List (Str × Bool)} (h : xts[i]? = some (x, tb) := by rfl) : ∀ q ∈ tb, XiC K (He.ga K q.1) ∧ PySem.W.kitOne K (.ref (He.ga K q.1)) (.ref (He.ga K x)) = some q.2 := tabB_ok (E.c _ (List.mem_of_getElem? h))
end
section
variable {fa : List He.Fa} {fn : List He.DefD} {xs : List (Str × List Str)} {K : PySem.W.Frag} {mg : Str → Option Value}
theorem Ev.exs (E : Ev fa fn xs K mg) (i : Nat) {x : Str} (h : fa[i]? = some (.exc x) := by rfl) : PySem.W.excIn K (He.ga K x) He.veBase "ValueError.__new__" = true ∧ PySem.W.keepIn K (.ref (He.ga K x)) = true := by
  have z : (PySem.W.excIn K (He.ga K x) He.veBase "ValueError.__new__" && (PySem.W.keepIn K (.ref (He.ga K x)) && (decide (PySem.W.subIn K (.ref (He.ga K x)) (.type "BaseException") = some true) && decide (PySem.W.typeIn K (.ref (He.ga K x)) = some (.type "type"))))) = true := E.sd.fact i h
  obtain ⟨h1, z⟩ := Bool.and_eq_true_iff.mp z
  exact ⟨h1, (Bool.and_eq_true_iff.mp z).1⟩
end
/-- more of what the head tells -/
theorem says_of {fa : List He.Fa} {fn : List He.DefD} {tf : List He.Defn} {B B' : PySem.W.Frag → Bool} {w : World} {h : Heap} {K : PySem.W.Frag} (c : He.SaysX fa fn [] tf (fun K => B K && B' K) w h K) : He.SaysX fa fn [] tf B w h K ∧ B' K = true := by
  have m := Bool.and_eq_true_iff.mp c.more
  exact ⟨{ c with more := m.1 }, m.2⟩
theorem il_L3 : ∀ vw : Vw, iLst [iC (.int 1), iLst [iC (.int 2)], iC (.int 3)] vw = .ok L3 vw := fun _ => by kernel_rfl
end Bx
set_option Elab.async false
set_option linter.all false
set_option maxRecDepth 100000
set_option maxHeartbeats 4000000
/-! the walk of law_k01_errors, printed by gen.py -/
namespace K01
open PySem PySem.Spec PyProof.Rows L2 Bx
abbrev P0 : Program := PySem.Challenge.pw_goersnotes_k01_errors
def top (i : Nat) : Stmt := P0.main.body.getD i (.Pass ⟨0, 0, 0, 0⟩)
/-! ### BadRow.__init__ -/
abbrev s_BadRow___init__ : Stmt := clsAt (top 5) 0
abbrev N_BadRow___init__ : List Str := ["self", "what", "row"]
def d_BadRow___init__ : He.DefD := ⟨("BadRow", some "__init__"), "__init__", "BadRow.__init__", defArgs s_BadRow___init__, defBody s_BadRow___init__, defScope s_BadRow___init__, [], []⟩
theorem sc_BadRow___init__ : FnScope N_BadRow___init__ ["self", "what", "row"] (defScope s_BadRow___init__) := ⟨rfl, rfl, rfl, by decide +kernel, rfl, by decide +kernel, by decide +kernel⟩
/-! ### NotThere.__init__ -/
abbrev s_NotThere___init__ : Stmt := clsAt (top 9) 0
abbrev N_NotThere___init__ : List Str := ["self", "what"]
def d_NotThere___init__ : He.DefD := ⟨("NotThere", some "__init__"), "__init__", "NotThere.__init__", defArgs s_NotThere___init__, defBody s_NotThere___init__, defScope s_NotThere___init__, [], []⟩
theorem sc_NotThere___init__ : FnScope N_NotThere___init__ ["self", "what"] (defScope s_NotThere___init__) := ⟨rfl, rfl, rfl, by decide +kernel, rfl, by decide +kernel, by decide +kernel⟩
/-! ### NotKept.__init__ -/
abbrev s_NotKept___init__ : Stmt := clsAt (top 11) 0
abbrev N_NotKept___init__ : List Str := ["self", "promise", "witness"]
def d_NotKept___init__ : He.DefD := ⟨("NotKept", some "__init__"), "__init__", "NotKept.__init__", defArgs s_NotKept___init__, defBody s_NotKept___init__, defScope s_NotKept___init__, [], []⟩
theorem sc_NotKept___init__ : FnScope N_NotKept___init__ ["self", "promise", "witness"] (defScope s_NotKept___init__) := ⟨rfl, rfl, rfl, by decide +kernel, rfl, by decide +kernel, by decide +kernel⟩
/-! ### TooMany.__init__ -/
abbrev s_TooMany___init__ : Stmt := clsAt (top 10) 0
abbrev N_TooMany___init__ : List Str := ["self", "what", "many", "limit"]
def d_TooMany___init__ : He.DefD := ⟨("TooMany", some "__init__"), "__init__", "TooMany.__init__", defArgs s_TooMany___init__, defBody s_TooMany___init__, defScope s_TooMany___init__, [], []⟩
theorem sc_TooMany___init__ : FnScope N_TooMany___init__ ["self", "what", "many", "limit"] (defScope s_TooMany___init__) := ⟨rfl, rfl, rfl, by decide +kernel, rfl, by decide +kernel, by decide +kernel⟩
/-! ### Unlike.__init__ -/
abbrev s_Unlike___init__ : Stmt := clsAt (top 8) 0
abbrev N_Unlike___init__ : List Str := ["self", "what"]
def d_Unlike___init__ : He.DefD := ⟨("Unlike", some "__init__"), "__init__", "Unlike.__init__", defArgs s_Unlike___init__, defBody s_Unlike___init__, defScope s_Unlike___init__, [], []⟩
theorem sc_Unlike___init__ : FnScope N_Unlike___init__ ["self", "what"] (defScope s_Unlike___init__) := ⟨rfl, rfl, rfl, by decide +kernel, rfl, by decide +kernel, by decide +kernel⟩
/-! ### TakenName.__init__ -/
abbrev s_TakenName___init__ : Stmt := clsAt (top 7) 0
abbrev N_TakenName___init__ : List Str := ["self", "name"]
def d_TakenName___init__ : He.DefD := ⟨("TakenName", some "__init__"), "__init__", "TakenName.__init__", defArgs s_TakenName___init__, defBody s_TakenName___init__, defScope s_TakenName___init__, [], []⟩
theorem sc_TakenName___init__ : FnScope N_TakenName___init__ ["self", "name"] (defScope s_TakenName___init__) := ⟨rfl, rfl, rfl, by decide +kernel, rfl, by decide +kernel, by decide +kernel⟩
/-! ### NoName.__init__ -/
abbrev s_NoName___init__ : Stmt := clsAt (top 6) 0
abbrev N_NoName___init__ : List Str := ["self", "name"]
def d_NoName___init__ : He.DefD := ⟨("NoName", some "__init__"), "__init__", "NoName.__init__", defArgs s_NoName___init__, defBody s_NoName___init__, defScope s_NoName___init__, [], []⟩
theorem sc_NoName___init__ : FnScope N_NoName___init__ ["self", "name"] (defScope s_NoName___init__) := ⟨rfl, rfl, rfl, by decide +kernel, rfl, by decide +kernel, by decide +kernel⟩
/-! ### BadNumber.__init__ -/
abbrev s_BadNumber___init__ : Stmt := clsAt (top 4) 0
abbrev N_BadNumber___init__ : List Str := ["self", "what", "number"]
def d_BadNumber___init__ : He.DefD := ⟨("BadNumber", some "__init__"), "__init__", "BadNumber.__init__", defArgs s_BadNumber___init__, defBody s_BadNumber___init__, defScope s_BadNumber___init__, [], []⟩
theorem sc_BadNumber___init__ : FnScope N_BadNumber___init__ ["self", "what", "number"] (defScope s_BadNumber___init__) := ⟨rfl, rfl, rfl, by decide +kernel, rfl, by decide +kernel, by decide +kernel⟩
/-! ### BadName.__init__ -/
abbrev s_BadName___init__ : Stmt := clsAt (top 3) 0
abbrev N_BadName___init__ : List Str := ["self", "name"]
def d_BadName___init__ : He.DefD := ⟨("BadName", some "__init__"), "__init__", "BadName.__init__", defArgs s_BadName___init__, defBody s_BadName___init__, defScope s_BadName___init__, [], []⟩
theorem sc_BadName___init__ : FnScope N_BadName___init__ ["self", "name"] (defScope s_BadName___init__) := ⟨rfl, rfl, rfl, by decide +kernel, rfl, by decide +kernel, by decide +kernel⟩
/-! ### BadText.__init__ -/
abbrev s_BadText___init__ : Stmt := clsAt (top 2) 0
abbrev N_BadText___init__ : List Str := ["self", "line", "word"]
def d_BadText___init__ : He.DefD := ⟨("BadText", some "__init__"), "__init__", "BadText.__init__", defArgs s_BadText___init__, defBody s_BadText___init__, defScope s_BadText___init__, [], []⟩
theorem sc_BadText___init__ : FnScope N_BadText___init__ ["self", "line", "word"] (defScope s_BadText___init__) := ⟨rfl, rfl, rfl, by decide +kernel, rfl, by decide +kernel, by decide +kernel⟩
/-! ### _law_made_errors -/
abbrev s__law_made_errors : Stmt := top 20
abbrev N__law_made_errors : List Str := ["one", "two", "three", "rows"]
def d__law_made_errors : He.DefD := ⟨("_law_made_errors", none), "_law_made_errors", "_law_made_errors", defArgs s__law_made_errors, defBody s__law_made_errors, defScope s__law_made_errors, [], []⟩
theorem sc__law_made_errors : FnScope N__law_made_errors ["one", "two", "three"] (defScope s__law_made_errors) := ⟨rfl, rfl, rfl, by decide +kernel, rfl, by decide +kernel, by decide +kernel⟩
/-! ### _law_kinds -/
abbrev s__law_kinds : Stmt := top 21
abbrev N__law_kinds : List Str := ["one", "found"]
def d__law_kinds : He.DefD := ⟨("_law_kinds", none), "_law_kinds", "_law_kinds", defArgs s__law_kinds, defBody s__law_kinds, defScope s__law_kinds, [], []⟩
theorem sc__law_kinds : FnScope N__law_kinds ["one"] (defScope s__law_kinds) := ⟨rfl, rfl, rfl, by decide +kernel, rfl, by decide +kernel, by decide +kernel⟩
/-! ### _law_fields -/
abbrev s__law_fields : Stmt := top 19
abbrev N__law_fields : List Str := ["one", "names", "found", "name"]
def d__law_fields : He.DefD := ⟨("_law_fields", none), "_law_fields", "_law_fields", defArgs s__law_fields, defBody s__law_fields, defScope s__law_fields, [], []⟩
theorem sc__law_fields : FnScope N__law_fields ["one", "names"] (defScope s__law_fields) := ⟨rfl, rfl, rfl, by decide +kernel, rfl, by decide +kernel, by decide +kernel⟩
/-! ### _law_draw -/
abbrev s__law_draw : Stmt := top 16
abbrev N__law_draw : List Str := ["pen", "many", "blend", "cell", "digit"]
def d__law_draw : He.DefD := ⟨("_law_draw", none), "_law_draw", "_law_draw", defArgs s__law_draw, defBody s__law_draw, defScope s__law_draw, [], []⟩
theorem sc__law_draw : FnScope N__law_draw ["pen", "many"] (defScope s__law_draw) := ⟨rfl, rfl, rfl, by decide +kernel, rfl, by decide +kernel, by decide +kernel⟩
/-! ### _law_pick -/
abbrev s__law_pick : Stmt := top 17
abbrev N__law_pick : List Str := ["pen", "some"]
def d__law_pick : He.DefD := ⟨("_law_pick", none), "_law_pick", "_law_pick", defArgs s__law_pick, defBody s__law_pick, defScope s__law_pick, [], []⟩
theorem sc__law_pick : FnScope N__law_pick ["pen", "some"] (defScope s__law_pick) := ⟨rfl, rfl, rfl, by decide +kernel, rfl, by decide +kernel, by decide +kernel⟩
/-! ### _law_value -/
abbrev s__law_value : Stmt := top 18
abbrev N__law_value : List Str := ["pen"]
def d__law_value : He.DefD := ⟨("_law_value", none), "_law_value", "_law_value", defArgs s__law_value, defBody s__law_value, defScope s__law_value, [], []⟩
theorem sc__law_value : FnScope N__law_value ["pen"] (defScope s__law_value) := ⟨rfl, rfl, rfl, by decide +kernel, rfl, by decide +kernel, by decide +kernel⟩
/-! ### _law_pen -/
abbrev s__law_pen : Stmt := top 15
abbrev N__law_pen : List Str := ["script", "fold", "cell"]
def d__law_pen : He.DefD := ⟨("_law_pen", none), "_law_pen", "_law_pen", defArgs s__law_pen, defBody s__law_pen, defScope s__law_pen, [], []⟩
theorem sc__law_pen : FnScope N__law_pen ["script"] (defScope s__law_pen) := ⟨rfl, rfl, rfl, by decide +kernel, rfl, by decide +kernel, by decide +kernel⟩
/-! ### law -/
abbrev s_law : Stmt := top 22
abbrev N_law : List Str := ["script", "pen", "values", "at", "made", "kept", "last", "found", "one", "names", "due", "told", "place"]
def d_law : He.DefD := ⟨("law", none), "law", "law", defArgs s_law, defBody s_law, defScope s_law, [], []⟩
theorem sc_law : FnScope N_law ["script"] (defScope s_law) := ⟨rfl, rfl, rfl, by decide +kernel, rfl, by decide +kernel, by decide +kernel⟩
def fa : List He.Fa := [.glo "BadRow", .glo "NotThere", .exm "NotThere" "GoerError" true, .free "isinstance", .free "ValueError", .glo "GoerError", .glo "NotKept", .glo "TooMany", .glo "Unlike", .glo "TakenName", .glo "NoName", .glo "BadNumber", .glo "BadName", .glo "BadText", .glo "_law_made_errors", .exc "NothingToRedo", .glo "NothingToRedo", .exc "NothingToUndo", .glo "NothingToUndo", .free "enumerate", .glo "_law_kinds", .free "range", .glo "_law_fields", .free "repr", .free "len", .free "int", .glo "_law_draw", .glo "_law_pick", .glo "_law_value", .free "list", .glo "_law_pen", .glo "law"]
def fn : List He.DefD := [d_law, d_BadRow___init__, d_NotThere___init__, d__law_made_errors, d_NotKept___init__, d_TooMany___init__, d_Unlike___init__, d_TakenName___init__, d_NoName___init__, d_BadNumber___init__, d_BadName___init__, d_BadText___init__, d__law_kinds, d__law_fields, d__law_value, d__law_pick, d__law_draw, d__law_pen]
def xc : List (Str × List Str) := [("BadRow", ["what", "row"]), ("NotThere", ["what"]), ("NotKept", ["promise", "witness"]), ("TooMany", ["what", "many", "limit"]), ("Unlike", ["what"]), ("TakenName", ["name"]), ("NoName", ["name"]), ("BadNumber", ["what", "number"]), ("BadName", ["name"]), ("BadText", ["line", "word"])]
def tb_NotThere : List (Str × Bool) := [("BadText", false), ("BadName", false), ("BadNumber", false), ("BadRow", false), ("NoName", false), ("TakenName", false), ("Unlike", false), ("NotThere", true), ("TooMany", false), ("NotKept", false), ("NothingToUndo", false), ("NothingToRedo", false)]
def tb_NothingToRedo : List (Str × Bool) := [("BadText", false), ("BadName", false), ("BadNumber", false), ("BadRow", false), ("NoName", false), ("TakenName", false), ("Unlike", false), ("NotThere", false), ("TooMany", false), ("NotKept", false), ("NothingToUndo", false), ("NothingToRedo", true)]
def tb_NothingToUndo : List (Str × Bool) := [("BadText", false), ("BadName", false), ("BadNumber", false), ("BadRow", false), ("NoName", false), ("TakenName", false), ("Unlike", false), ("NotThere", false), ("TooMany", false), ("NotKept", false), ("NothingToUndo", true), ("NothingToRedo", false)]
def tb_NotKept : List (Str × Bool) := [("BadText", false), ("BadName", false), ("BadNumber", false), ("BadRow", false), ("NoName", false), ("TakenName", false), ("Unlike", false), ("NotThere", false), ("TooMany", false), ("NotKept", true), ("NothingToUndo", false), ("NothingToRedo", false)]
def tb_TooMany : List (Str × Bool) := [("BadText", false), ("BadName", false), ("BadNumber", false), ("BadRow", false), ("NoName", false), ("TakenName", false), ("Unlike", false), ("NotThere", false), ("TooMany", true), ("NotKept", false), ("NothingToUndo", false), ("NothingToRedo", false)]
def tb_Unlike : List (Str × Bool) := [("BadText", false), ("BadName", false), ("BadNumber", false), ("BadRow", false), ("NoName", false), ("TakenName", false), ("Unlike", true), ("NotThere", false), ("TooMany", false), ("NotKept", false), ("NothingToUndo", false), ("NothingToRedo", false)]
def tb_TakenName : List (Str × Bool) := [("BadText", false), ("BadName", false), ("BadNumber", false), ("BadRow", false), ("NoName", false), ("TakenName", true), ("Unlike", false), ("NotThere", false), ("TooMany", false), ("NotKept", false), ("NothingToUndo", false), ("NothingToRedo", false)]
def tb_NoName : List (Str × Bool) := [("BadText", false), ("BadName", false), ("BadNumber", false), ("BadRow", false), ("NoName", true), ("TakenName", false), ("Unlike", false), ("NotThere", false), ("TooMany", false), ("NotKept", false), ("NothingToUndo", false), ("NothingToRedo", false)]
def tb_BadRow : List (Str × Bool) := [("BadText", false), ("BadName", false), ("BadNumber", false), ("BadRow", true), ("NoName", false), ("TakenName", false), ("Unlike", false), ("NotThere", false), ("TooMany", false), ("NotKept", false), ("NothingToUndo", false), ("NothingToRedo", false)]
def tb_BadNumber : List (Str × Bool) := [("BadText", false), ("BadName", false), ("BadNumber", true), ("BadRow", false), ("NoName", false), ("TakenName", false), ("Unlike", false), ("NotThere", false), ("TooMany", false), ("NotKept", false), ("NothingToUndo", false), ("NothingToRedo", false)]
def tb_BadName : List (Str × Bool) := [("BadText", false), ("BadName", true), ("BadNumber", false), ("BadRow", false), ("NoName", false), ("TakenName", false), ("Unlike", false), ("NotThere", false), ("TooMany", false), ("NotKept", false), ("NothingToUndo", false), ("NothingToRedo", false)]
def tb_BadText : List (Str × Bool) := [("BadText", true), ("BadName", false), ("BadNumber", false), ("BadRow", false), ("NoName", false), ("TakenName", false), ("Unlike", false), ("NotThere", false), ("TooMany", false), ("NotKept", false), ("NothingToUndo", false), ("NothingToRedo", false)]
def tb_GoerError : List (Str × Bool) := [("BadText", true), ("BadName", true), ("BadNumber", true), ("BadRow", true), ("NoName", true), ("TakenName", true), ("Unlike", true), ("NotThere", true), ("TooMany", true), ("NotKept", true), ("NothingToUndo", true), ("NothingToRedo", true)]
def tv : List (Str × Bool) := [("BadText", true), ("BadName", true), ("BadNumber", true), ("BadRow", true), ("NoName", true), ("TakenName", true), ("Unlike", true), ("NotThere", true), ("TooMany", true), ("NotKept", true), ("NothingToUndo", true), ("NothingToRedo", true)]
def xts : List (Str × List (Str × Bool)) := [("NotThere", tb_NotThere), ("NothingToRedo", tb_NothingToRedo), ("NothingToUndo", tb_NothingToUndo), ("NotKept", tb_NotKept), ("TooMany", tb_TooMany), ("Unlike", tb_Unlike), ("TakenName", tb_TakenName), ("NoName", tb_NoName), ("BadRow", tb_BadRow), ("BadNumber", tb_BadNumber), ("BadName", tb_BadName), ("BadText", tb_BadText), ("GoerError", tb_GoerError)]
section
variable [Tbs] {w : World} {K : PySem.W.Frag} {mg : Str → Option Value} {base : Heap}
theorem xk_BadRow (E : Ev fa fn xc K mg) (EX : XF xts tv K) : ExK P0 w K mg base "BadRow" (He.ga K "BadRow") ["what", "row"] :=
  ExK.def E (E.exc 0) (E.glo 0) 1 (d := d_BadRow___init__) rfl rfl sc_BadRow___init__ rfl (by decide) rfl rfl (fun _ _ _ _ _ _ us hl => match us, hl with | [_, _, _], _ => rfl) fun cdv A outer s H E' => (pss_cons (ps_ost (pv 0) (pv 1)) (pss_cons (ps_ost (pv 0) (pv 2)) pss_nil))
theorem xk_NotThere (E : Ev fa fn xc K mg) (EX : XF xts tv K) : ExK P0 w K mg base "NotThere" (He.ga K "NotThere") ["what"] :=
  ExK.def E (E.exc 1) (E.glo 1) 2 (d := d_NotThere___init__) rfl rfl sc_NotThere___init__ rfl (by decide) rfl rfl (fun _ _ _ _ _ _ us hl => match us, hl with | [_, _], _ => rfl) fun cdv A outer s H E' => (pss_cons (ps_ost (pv 0) (pv 1)) pss_nil)
theorem xk_NotKept (E : Ev fa fn xc K mg) (EX : XF xts tv K) : ExK P0 w K mg base "NotKept" (He.ga K "NotKept") ["promise", "witness"] :=
  ExK.def E (E.exc 2) (E.glo 6) 4 (d := d_NotKept___init__) rfl rfl sc_NotKept___init__ rfl (by decide) rfl rfl (fun _ _ _ _ _ _ us hl => match us, hl with | [_, _, _], _ => rfl) fun cdv A outer s H E' => (pss_cons (ps_ost (pv 0) (pv 1)) (pss_cons (ps_ost (pv 0) (pv 2)) pss_nil))
theorem xk_TooMany (E : Ev fa fn xc K mg) (EX : XF xts tv K) : ExK P0 w K mg base "TooMany" (He.ga K "TooMany") ["what", "many", "limit"] :=
  ExK.def E (E.exc 3) (E.glo 7) 5 (d := d_TooMany___init__) rfl rfl sc_TooMany___init__ rfl (by decide) rfl rfl (fun _ _ _ _ _ _ us hl => match us, hl with | [_, _, _, _], _ => rfl) fun cdv A outer s H E' => (pss_cons (ps_ost (pv 0) (pv 1)) (pss_cons (ps_ost (pv 0) (pv 2)) (pss_cons (ps_ost (pv 0) (pv 3)) pss_nil)))
theorem xk_Unlike (E : Ev fa fn xc K mg) (EX : XF xts tv K) : ExK P0 w K mg base "Unlike" (He.ga K "Unlike") ["what"] :=
  ExK.def E (E.exc 4) (E.glo 8) 6 (d := d_Unlike___init__) rfl rfl sc_Unlike___init__ rfl (by decide) rfl rfl (fun _ _ _ _ _ _ us hl => match us, hl with | [_, _], _ => rfl) fun cdv A outer s H E' => (pss_cons (ps_ost (pv 0) (pv 1)) pss_nil)
theorem xk_TakenName (E : Ev fa fn xc K mg) (EX : XF xts tv K) : ExK P0 w K mg base "TakenName" (He.ga K "TakenName") ["name"] :=
  ExK.def E (E.exc 5) (E.glo 9) 7 (d := d_TakenName___init__) rfl rfl sc_TakenName___init__ rfl (by decide) rfl rfl (fun _ _ _ _ _ _ us hl => match us, hl with | [_, _], _ => rfl) fun cdv A outer s H E' => (pss_cons (ps_ost (pv 0) (pv 1)) pss_nil)
theorem xk_NoName (E : Ev fa fn xc K mg) (EX : XF xts tv K) : ExK P0 w K mg base "NoName" (He.ga K "NoName") ["name"] :=
  ExK.def E (E.exc 6) (E.glo 10) 8 (d := d_NoName___init__) rfl rfl sc_NoName___init__ rfl (by decide) rfl rfl (fun _ _ _ _ _ _ us hl => match us, hl with | [_, _], _ => rfl) fun cdv A outer s H E' => (pss_cons (ps_ost (pv 0) (pv 1)) pss_nil)
theorem xk_BadNumber (E : Ev fa fn xc K mg) (EX : XF xts tv K) : ExK P0 w K mg base "BadNumber" (He.ga K "BadNumber") ["what", "number"] :=
  ExK.def E (E.exc 7) (E.glo 11) 9 (d := d_BadNumber___init__) rfl rfl sc_BadNumber___init__ rfl (by decide) rfl rfl (fun _ _ _ _ _ _ us hl => match us, hl with | [_, _, _], _ => rfl) fun cdv A outer s H E' => (pss_cons (ps_ost (pv 0) (pv 1)) (pss_cons (ps_ost (pv 0) (pv 2)) pss_nil))
theorem xk_BadName (E : Ev fa fn xc K mg) (EX : XF xts tv K) : ExK P0 w K mg base "BadName" (He.ga K "BadName") ["name"] :=
  ExK.def E (E.exc 8) (E.glo 12) 10 (d := d_BadName___init__) rfl rfl sc_BadName___init__ rfl (by decide) rfl rfl (fun _ _ _ _ _ _ us hl => match us, hl with | [_, _], _ => rfl) fun cdv A outer s H E' => (pss_cons (ps_ost (pv 0) (pv 1)) pss_nil)
theorem xk_BadText (E : Ev fa fn xc K mg) (EX : XF xts tv K) : ExK P0 w K mg base "BadText" (He.ga K "BadText") ["line", "word"] :=
  ExK.def E (E.exc 9) (E.glo 13) 11 (d := d_BadText___init__) rfl rfl sc_BadText___init__ rfl (by decide) rfl rfl (fun _ _ _ _ _ _ us hl => match us, hl with | [_, _, _], _ => rfl) fun cdv A outer s H E' => (pss_cons (ps_ost (pv 0) (pv 1)) (pss_cons (ps_ost (pv 0) (pv 2)) pss_nil))
def j__law_made_errors (K : PySem.W.Frag) : IS := (jSeq (jAsg 3 (iShr (iLst [(iTup [(iXmk "BadText" ["line", "word"] [(iVar 0), (iVar 1)]), (iLst [(iC (.str "line")), (iC (.str "word"))])]), (iTup [(iXmk "BadName" ["name"] [(iVar 0)]), (iLst [(iC (.str "name"))])]), (iTup [(iXmk "BadNumber" ["what", "number"] [(iVar 0), (iVar 1)]), (iLst [(iC (.str "what")), (iC (.str "number"))])])])))
  (jSeq (jAsg 3 (iOp opAdd [(.v 3), (.e (iShr (iLst [(iTup [(iXmk "BadRow" ["what", "row"] [(iVar 0), (iVar 1)]), (iLst [(iC (.str "what")), (iC (.str "row"))])]), (iTup [(iXmk "NoName" ["name"] [(iVar 0)]), (iLst [(iC (.str "name"))])]), (iTup [(iXmk "TakenName" ["name"] [(iVar 0)]), (iLst [(iC (.str "name"))])])])))]))
  (jSeq (jAsg 3 (iOp opAdd [(.v 3), (.e (iShr (iLst [(iTup [(iXmk "Unlike" ["what"] [(iVar 0)]), (iLst [(iC (.str "what"))])]), (iTup [(iXmk "NotThere" ["what"] [(iVar 0)]), (iLst [(iC (.str "what"))])]), (iTup [(iXmk "TooMany" ["what", "many", "limit"] [(iVar 0), (iVar 1), (iVar 2)]), (iLst [(iC (.str "what")), (iC (.str "many")), (iC (.str "limit"))])])])))]))
  (jRet (iOp opAdd [(.v 3), (.e (iShr (iLst [(iTup [(iXmk "NotKept" ["promise", "witness"] [(iVar 0), (iVar 1)]), (iLst [(iC (.str "promise")), (iC (.str "witness"))])])])))])))))
def D__law_made_errors (K : PySem.W.Frag) : DF := defOf [false, false, false] 4 (j__law_made_errors K)
theorem g__law_made_errors (E : Ev fa fn xc K mg) (EX : XF xts tv K) : Gf P0 w K mg base (2 + 1) (He.fAd K d__law_made_errors.at_) [false, false, false] (D__law_made_errors K) := by
  refine Gf.def E 3 (d := d__law_made_errors) rfl sc__law_made_errors rfl (by decide) rfl rfl (fun _ _ _ _ _ _ us hl => match us, hl with | [_, _, _], _ => rfl) fun cdv A outer s H E' hr => ?_
  have hN : N__law_made_errors.Nodup := sc__law_made_errors.nd
  have hp := passes_of (X := cxOf (L2.CX P0 w) P0 w K mg base N__law_made_errors d__law_made_errors.qual d__law_made_errors.scope (He.fAd K d__law_made_errors.at_) cdv A outer s H E') rfl
  exact (ss_cons (ss_asg (n := 3) (se_shr (se_lst (sas_cons (se_tup (sas_cons (se_xmk (xk_BadText E EX) (k := 0) (hr.mono (by decide)) (sas_cons (se_v 0) (sas_cons (se_v 1) sas_nil))) (sas_cons (se_lst (sas_cons se_str (sas_cons se_str sas_nil))) sas_nil))) (sas_cons (se_tup (sas_cons (se_xmk (xk_BadName E EX) (k := 0) (hr.mono (by decide)) (sas_cons (se_v 0) sas_nil)) (sas_cons (se_lst (sas_cons se_str sas_nil)) sas_nil))) (sas_cons (se_tup (sas_cons (se_xmk (xk_BadNumber E EX) (k := 0) (hr.mono (by decide)) (sas_cons (se_v 0) (sas_cons (se_v 1) sas_nil))) (sas_cons (se_lst (sas_cons se_str (sas_cons se_str sas_nil))) sas_nil))) sas_nil))))) hN rfl (by first | exact Or.inl rfl | exact Or.inr rfl) rfl)
  (ss_cons (ss_asg (n := 3) (x_add (so_v 3) (so_e (se_shr (se_lst (sas_cons (se_tup (sas_cons (se_xmk (xk_BadRow E EX) (k := 0) (hr.mono (by decide)) (sas_cons (se_v 0) (sas_cons (se_v 1) sas_nil))) (sas_cons (se_lst (sas_cons se_str (sas_cons se_str sas_nil))) sas_nil))) (sas_cons (se_tup (sas_cons (se_xmk (xk_NoName E EX) (k := 0) (hr.mono (by decide)) (sas_cons (se_v 0) sas_nil)) (sas_cons (se_lst (sas_cons se_str sas_nil)) sas_nil))) (sas_cons (se_tup (sas_cons (se_xmk (xk_TakenName E EX) (k := 0) (hr.mono (by decide)) (sas_cons (se_v 0) sas_nil)) (sas_cons (se_lst (sas_cons se_str sas_nil)) sas_nil))) sas_nil))))))) hN rfl (by first | exact Or.inl rfl | exact Or.inr rfl) rfl)
  (ss_cons (ss_asg (n := 3) (x_add (so_v 3) (so_e (se_shr (se_lst (sas_cons (se_tup (sas_cons (se_xmk (xk_Unlike E EX) (k := 0) (hr.mono (by decide)) (sas_cons (se_v 0) sas_nil)) (sas_cons (se_lst (sas_cons se_str sas_nil)) sas_nil))) (sas_cons (se_tup (sas_cons (se_xmk (xk_NotThere E EX) (k := 0) (hr.mono (by decide)) (sas_cons (se_v 0) sas_nil)) (sas_cons (se_lst (sas_cons se_str sas_nil)) sas_nil))) (sas_cons (se_tup (sas_cons (se_xmk (xk_TooMany E EX) (k := 0) (hr.mono (by decide)) (sas_cons (se_v 0) (sas_cons (se_v 1) (sas_cons (se_v 2) sas_nil)))) (sas_cons (se_lst (sas_cons se_str (sas_cons se_str (sas_cons se_str sas_nil)))) sas_nil))) sas_nil))))))) hN rfl (by first | exact Or.inl rfl | exact Or.inr rfl) rfl)
  (ss_one (ss_ret (x_add (so_v 3) (so_e (se_shr (se_lst (sas_cons (se_tup (sas_cons (se_xmk (xk_NotKept E EX) (k := 0) (hr.mono (by decide)) (sas_cons (se_v 0) (sas_cons (se_v 1) sas_nil))) (sas_cons (se_lst (sas_cons se_str (sas_cons se_str sas_nil))) sas_nil))) sas_nil))))))))))
def j__law_kinds (K : PySem.W.Frag) : IS := (jSeq (jAsg 1 (iLst [(iOp (opIsx tb_BadText) [(.v 0)]), (iOp (opIsx tb_BadName) [(.v 0)]), (iOp (opIsx tb_BadNumber) [(.v 0)]), (iOp (opIsx tb_BadRow) [(.v 0)])]))
  (jSeq (jAsg 1 (iOp opAdd [(.v 1), (.e (iLst [(iOp (opIsx tb_NoName) [(.v 0)]), (iOp (opIsx tb_TakenName) [(.v 0)]), (iOp (opIsx tb_Unlike) [(.v 0)]), (iOp (opIsx tb_NotThere) [(.v 0)])]))]))
  (jSeq (jAsg 1 (iOp opAdd [(.v 1), (.e (iLst [(iOp (opIsx tb_TooMany) [(.v 0)]), (iOp (opIsx tb_NotKept) [(.v 0)]), (iOp (opIsx tb_NothingToUndo) [(.v 0)])]))]))
  (jRet (iOp opAdd [(.v 1), (.e (iLst [(iOp (opIsx tb_NothingToRedo) [(.v 0)])]))])))))
def D__law_kinds (K : PySem.W.Frag) : DF := defOf [false] 2 (j__law_kinds K)
theorem g__law_kinds (E : Ev fa fn xc K mg) (EX : XF xts tv K) : Gf P0 w K mg base (0 + 1) (He.fAd K d__law_kinds.at_) [false] (D__law_kinds K) := by
  refine Gf.def E 12 (d := d__law_kinds) rfl sc__law_kinds rfl (by decide) rfl rfl (fun _ _ _ _ _ _ us hl => match us, hl with | [_], _ => rfl) fun cdv A outer s H E' hr => ?_
  have hN : N__law_kinds.Nodup := sc__law_kinds.nd
  have hp := passes_of (X := cxOf (L2.CX P0 w) P0 w K mg base N__law_kinds d__law_kinds.qual d__law_kinds.scope (He.fAd K d__law_kinds.at_) cdv A outer s H E') rfl
  exact (ss_cons (ss_asg (n := 1) (se_lst (sas_cons (se_isx EX.xk (E.free 3) (so_v 0) (pe_glob rfl (E.glo 13) (v := .ref _) rfl) (.own _) (EX.ct 11)) (sas_cons (se_isx EX.xk (E.free 3) (so_v 0) (pe_glob rfl (E.glo 12) (v := .ref _) rfl) (.own _) (EX.ct 10)) (sas_cons (se_isx EX.xk (E.free 3) (so_v 0) (pe_glob rfl (E.glo 11) (v := .ref _) rfl) (.own _) (EX.ct 9)) (sas_cons (se_isx EX.xk (E.free 3) (so_v 0) (pe_glob rfl (E.glo 0) (v := .ref _) rfl) (.own _) (EX.ct 8)) sas_nil))))) hN rfl (by first | exact Or.inl rfl | exact Or.inr rfl) rfl)
  (ss_cons (ss_asg (n := 1) (x_add (so_v 1) (so_e (se_lst (sas_cons (se_isx EX.xk (E.free 3) (so_v 0) (pe_glob rfl (E.glo 10) (v := .ref _) rfl) (.own _) (EX.ct 7)) (sas_cons (se_isx EX.xk (E.free 3) (so_v 0) (pe_glob rfl (E.glo 9) (v := .ref _) rfl) (.own _) (EX.ct 6)) (sas_cons (se_isx EX.xk (E.free 3) (so_v 0) (pe_glob rfl (E.glo 8) (v := .ref _) rfl) (.own _) (EX.ct 5)) (sas_cons (se_isx EX.xk (E.free 3) (so_v 0) (pe_glob rfl (E.glo 1) (v := .ref _) rfl) (.own _) (EX.ct 0)) sas_nil))))))) hN rfl (by first | exact Or.inl rfl | exact Or.inr rfl) rfl)
  (ss_cons (ss_asg (n := 1) (x_add (so_v 1) (so_e (se_lst (sas_cons (se_isx EX.xk (E.free 3) (so_v 0) (pe_glob rfl (E.glo 7) (v := .ref _) rfl) (.own _) (EX.ct 4)) (sas_cons (se_isx EX.xk (E.free 3) (so_v 0) (pe_glob rfl (E.glo 6) (v := .ref _) rfl) (.own _) (EX.ct 3)) (sas_cons (se_isx EX.xk (E.free 3) (so_v 0) (pe_glob rfl (E.glo 18) (v := .ref _) rfl) (.own _) (EX.ct 2)) sas_nil)))))) hN rfl (by first | exact Or.inl rfl | exact Or.inr rfl) rfl)
  (ss_one (ss_ret (x_add (so_v 1) (so_e (se_lst (sas_cons (se_isx EX.xk (E.free 3) (so_v 0) (pe_glob rfl (E.glo 16) (v := .ref _) rfl) (.own _) (EX.ct 1)) sas_nil)))))))))
def j__law_fields (K : PySem.W.Frag) : IS := (jSeq (jAsg 2 (iLst []))
  (jSeq (jFor (sSeq (iVar 1)) (gN 3) (jIf (iB (iOp opEq [(.v 3), (.e (iC (.str "line")))])) (jExpr (iMu muAppend isLK 2 [(iOp (opXf ["BadText"] "line") [(.v 0)])])) (jIf (iB (iOp opEq [(.v 3), (.e (iC (.str "word")))])) (jExpr (iMu muAppend isLK 2 [(iOp (opXf ["BadText"] "word") [(.v 0)])])) (jIf (iB (iOp opEq [(.v 3), (.e (iC (.str "name")))])) (jExpr (iMu muAppend isLK 2 [(iOp (opXf ["BadName", "NoName", "TakenName"] "name") [(.v 0)])])) (jIf (iB (iOp opEq [(.v 3), (.e (iC (.str "what")))])) (jExpr (iMu muAppend isLK 2 [(iOp (opXf ["BadNumber", "BadRow", "Unlike", "NotThere", "TooMany"] "what") [(.v 0)])])) (jIf (iB (iOp opEq [(.v 3), (.e (iC (.str "number")))])) (jExpr (iMu muAppend isLK 2 [(iOp (opXf ["BadNumber"] "number") [(.v 0)])])) (jIf (iB (iOp opEq [(.v 3), (.e (iC (.str "row")))])) (jExpr (iMu muAppend isLK 2 [(iOp (opXf ["BadRow"] "row") [(.v 0)])])) (jIf (iB (iOp opEq [(.v 3), (.e (iC (.str "many")))])) (jExpr (iMu muAppend isLK 2 [(iOp (opXf ["TooMany"] "many") [(.v 0)])])) (jIf (iB (iOp opEq [(.v 3), (.e (iC (.str "limit")))])) (jExpr (iMu muAppend isLK 2 [(iOp (opXf ["TooMany"] "limit") [(.v 0)])])) (jIf (iB (iOp opEq [(.v 3), (.e (iC (.str "promise")))])) (jExpr (iMu muAppend isLK 2 [(iOp (opXf ["NotKept"] "promise") [(.v 0)])])) (jExpr (iMu muAppend isLK 2 [(iOp (opXf ["NotKept"] "witness") [(.v 0)])]))))))))))))
  (jRet (iVar 2))))
def D__law_fields (K : PySem.W.Frag) : DF := defOf [false, false] 4 (j__law_fields K)
theorem g__law_fields (E : Ev fa fn xc K mg) (EX : XF xts tv K) : Gf P0 w K mg base (0 + 1) (He.fAd K d__law_fields.at_) [false, false] (D__law_fields K) := by
  refine Gf.def E 13 (d := d__law_fields) rfl sc__law_fields rfl (by decide) rfl rfl (fun _ _ _ _ _ _ us hl => match us, hl with | [_, _], _ => rfl) fun cdv A outer s H E' hr => ?_
  have hN : N__law_fields.Nodup := sc__law_fields.nd
  have hp := passes_of (X := cxOf (L2.CX P0 w) P0 w K mg base N__law_fields d__law_fields.qual d__law_fields.scope (He.fAd K d__law_fields.at_) cdv A outer s H E') rfl
  exact (ss_cons (ss_asg (n := 2) (se_lst sas_nil) hN rfl (by first | exact Or.inl rfl | exact Or.inr rfl) rfl)
  (ss_cons (ss_for hp rfl (si_seq (se_v 1)) (sg_n 3 hN) (ss_one (ss_if (t_eq hr (so_v 3) (so_e se_str)) (ss_one (ss_expr (x_append 2 (se_xfv (cs := ["BadText"]) (so_v 0) (List.forall_mem_cons.mpr ⟨⟨(E.exc 9).xf, (E.exc 9).fnd "line" (by decide)⟩, (fun _ h => nomatch h)⟩))))) (ss_one (ss_if (t_eq hr (so_v 3) (so_e se_str)) (ss_one (ss_expr (x_append 2 (se_xfv (cs := ["BadText"]) (so_v 0) (List.forall_mem_cons.mpr ⟨⟨(E.exc 9).xf, (E.exc 9).fnd "word" (by decide)⟩, (fun _ h => nomatch h)⟩))))) (ss_one (ss_if (t_eq hr (so_v 3) (so_e se_str)) (ss_one (ss_expr (x_append 2 (se_xfv (cs := ["BadName", "NoName", "TakenName"]) (so_v 0) (List.forall_mem_cons.mpr ⟨⟨(E.exc 8).xf, (E.exc 8).fnd "name" (by decide)⟩, (List.forall_mem_cons.mpr ⟨⟨(E.exc 6).xf, (E.exc 6).fnd "name" (by decide)⟩, (List.forall_mem_cons.mpr ⟨⟨(E.exc 5).xf, (E.exc 5).fnd "name" (by decide)⟩, (fun _ h => nomatch h)⟩)⟩)⟩))))) (ss_one (ss_if (t_eq hr (so_v 3) (so_e se_str)) (ss_one (ss_expr (x_append 2 (se_xfv (cs := ["BadNumber", "BadRow", "Unlike", "NotThere", "TooMany"]) (so_v 0) (List.forall_mem_cons.mpr ⟨⟨(E.exc 7).xf, (E.exc 7).fnd "what" (by decide)⟩, (List.forall_mem_cons.mpr ⟨⟨(E.exc 0).xf, (E.exc 0).fnd "what" (by decide)⟩, (List.forall_mem_cons.mpr ⟨⟨(E.exc 4).xf, (E.exc 4).fnd "what" (by decide)⟩, (List.forall_mem_cons.mpr ⟨⟨(E.exc 1).xf, (E.exc 1).fnd "what" (by decide)⟩, (List.forall_mem_cons.mpr ⟨⟨(E.exc 3).xf, (E.exc 3).fnd "what" (by decide)⟩, (fun _ h => nomatch h)⟩)⟩)⟩)⟩)⟩))))) (ss_one (ss_if (t_eq hr (so_v 3) (so_e se_str)) (ss_one (ss_expr (x_append 2 (se_xfv (cs := ["BadNumber"]) (so_v 0) (List.forall_mem_cons.mpr ⟨⟨(E.exc 7).xf, (E.exc 7).fnd "number" (by decide)⟩, (fun _ h => nomatch h)⟩))))) (ss_one (ss_if (t_eq hr (so_v 3) (so_e se_str)) (ss_one (ss_expr (x_append 2 (se_xfv (cs := ["BadRow"]) (so_v 0) (List.forall_mem_cons.mpr ⟨⟨(E.exc 0).xf, (E.exc 0).fnd "row" (by decide)⟩, (fun _ h => nomatch h)⟩))))) (ss_one (ss_if (t_eq hr (so_v 3) (so_e se_str)) (ss_one (ss_expr (x_append 2 (se_xfv (cs := ["TooMany"]) (so_v 0) (List.forall_mem_cons.mpr ⟨⟨(E.exc 3).xf, (E.exc 3).fnd "many" (by decide)⟩, (fun _ h => nomatch h)⟩))))) (ss_one (ss_if (t_eq hr (so_v 3) (so_e se_str)) (ss_one (ss_expr (x_append 2 (se_xfv (cs := ["TooMany"]) (so_v 0) (List.forall_mem_cons.mpr ⟨⟨(E.exc 3).xf, (E.exc 3).fnd "limit" (by decide)⟩, (fun _ h => nomatch h)⟩))))) (ss_one (ss_if (t_eq hr (so_v 3) (so_e se_str)) (ss_one (ss_expr (x_append 2 (se_xfv (cs := ["NotKept"]) (so_v 0) (List.forall_mem_cons.mpr ⟨⟨(E.exc 2).xf, (E.exc 2).fnd "promise" (by decide)⟩, (fun _ h => nomatch h)⟩))))) (ss_one (ss_expr (x_append 2 (se_xfv (cs := ["NotKept"]) (so_v 0) (List.forall_mem_cons.mpr ⟨⟨(E.exc 2).xf, (E.exc 2).fnd "witness" (by decide)⟩, (fun _ h => nomatch h)⟩))))))))))))))))))))))))
  (ss_one (ss_ret (se_v 2)))))
def j__law_draw (K : PySem.W.Frag) : IS := (jSeq (jPut 0 (iC (.str "count")) (iOp opAdd [(.e (iOp opIx [(.v 0), (.e (iC (.str "count")))])), (.e (iC (.int 1)))]))
  (jSeq (jIf (iAndT (iB (iOp opEq [(.e (iOp opIx [(.v 0), (.e (iC (.str "digits")))])), (.e (iC (.int 0)))])) (iB (iOp opLt2 [(.e (iOp opIx [(.v 0), (.e (iC (.str "at")))])), (.e (iOp opLen [(.e (iOp opIx [(.v 0), (.e (iC (.str "cells")))]))]))]))) (jSeq (jAsg 3 (iOp opIx [(.e (iOp opIx [(.v 0), (.e (iC (.str "cells")))])), (.e (iOp opIx [(.v 0), (.e (iC (.str "at")))]))]))
  (jSeq (jPut 0 (iC (.str "at")) (iOp opAdd [(.e (iOp opIx [(.v 0), (.e (iC (.str "at")))])), (.e (iC (.int 1)))]))
  (jIf (iB (iOp opGe2 [(.v 3), (.e (iOp opPow [(.e (iC (.int 10))), (.e (iC (.int 18)))]))])) (jPut 0 (iC (.str "digits")) (iOp opSub [(.v 3), (.e (iOp opPow [(.e (iC (.int 10))), (.e (iC (.int 18)))]))])) (jPut 0 (iC (.str "fold")) (iOp opMod [(.e (iOp opInt [(.e (iOp opAdd [(.e (iOp opMul2 [(.e (iOp opIx [(.v 0), (.e (iC (.str "fold")))])), (.e (iC (.int 70039)))])), (.v 3)]))])), (.e (iC (.int 2147483353)))]))))) jNx)
  (jSeq (jIf (iB (iOp opGt2 [(.e (iOp opIx [(.v 0), (.e (iC (.str "digits")))])), (.e (iC (.int 0)))])) (jSeq (jAsg 4 (iOp opMod [(.e (iOp opInt [(.e (iOp opIx [(.v 0), (.e (iC (.str "digits")))]))])), (.v 1)]))
  (jSeq (jPut 0 (iC (.str "digits")) (iOp opFdiv [(.e (iOp opIx [(.v 0), (.e (iC (.str "digits")))])), (.v 1)]))
  (jRet (iVar 4)))) jNx)
  (jSeq (jAsg 2 (iOp opAdd [(.e (iOp opAdd [(.e (iOp opIx [(.v 0), (.e (iC (.str "fold")))])), (.e (iOp opMul2 [(.e (iOp opIx [(.v 0), (.e (iC (.str "count")))])), (.e (iC (.int 8039)))]))])), (.e (iC (.int 53)))]))
  (jRet (iOp opMod [(.e (iOp opFdiv [(.e (iOp opInt [(.e (iOp opMod [(.e (iOp opPow [(.v 2), (.e (iC (.int 17)))])), (.e (iC (.int 2305843009213693951)))]))])), (.e (iC (.int 128)))])), (.v 1)]))))))
def D__law_draw (K : PySem.W.Frag) : DF := defOf [true, false] 5 (j__law_draw K)
theorem g__law_draw (E : Ev fa fn xc K mg) (EX : XF xts tv K) : Gf P0 w K mg base (0 + 1) (He.fAd K d__law_draw.at_) [true, false] (D__law_draw K) := by
  refine Gf.def E 16 (d := d__law_draw) rfl sc__law_draw rfl (by decide) rfl rfl (fun _ _ _ _ _ _ us hl => match us, hl with | [_, _], _ => rfl) fun cdv A outer s H E' hr => ?_
  have hN : N__law_draw.Nodup := sc__law_draw.nd
  have hp := passes_of (X := cxOf (L2.CX P0 w) P0 w K mg base N__law_draw d__law_draw.qual d__law_draw.scope (He.fAd K d__law_draw.at_) cdv A outer s H E') rfl
  exact (ss_cons (ss_put hr.u 0 se_str (x_add (so_e (x_ix hr (so_v 0) (so_e se_str))) (so_e se_int)))
  (ss_cons (ss_if (sw_st (sw_and (t_eq hr (so_e (x_ix hr (so_v 0) (so_e se_str))) (so_e se_int)) (sw_and1 (t_lt hr (so_e (x_ix hr (so_v 0) (so_e se_str))) (so_e (x_len (E.free 24) (so_e (x_ix hr (so_v 0) (so_e se_str))))))))) (ss_cons (ss_asg (n := 3) (x_ix hr (so_e (x_ix hr (so_v 0) (so_e se_str))) (so_e (x_ix hr (so_v 0) (so_e se_str)))) hN rfl (by first | exact Or.inl rfl | exact Or.inr rfl) rfl)
  (ss_cons (ss_put hr.u 0 se_str (x_add (so_e (x_ix hr (so_v 0) (so_e se_str))) (so_e se_int)))
  (ss_one (ss_if (t_ge hr (so_v 3) (so_e (x_pow (so_e se_int) (so_e se_int)))) (ss_one (ss_put hr.u 0 se_str (x_sub (so_v 3) (so_e (x_pow (so_e se_int) (so_e se_int)))))) (ss_one (ss_put hr.u 0 se_str (x_mod (so_e (x_int (E.free 25) (so_e (x_add (so_e (x_mul (so_e (x_ix hr (so_v 0) (so_e se_str))) (so_e se_int))) (so_v 3))))) (so_e se_int)))))))) ss_nil)
  (ss_cons (ss_if (t_gt hr (so_e (x_ix hr (so_v 0) (so_e se_str))) (so_e se_int)) (ss_cons (ss_asg (n := 4) (x_mod (so_e (x_int (E.free 25) (so_e (x_ix hr (so_v 0) (so_e se_str))))) (so_v 1)) hN rfl (by first | exact Or.inl rfl | exact Or.inr rfl) rfl)
  (ss_cons (ss_put hr.u 0 se_str (x_fdiv (so_e (x_ix hr (so_v 0) (so_e se_str))) (so_v 1)))
  (ss_one (ss_ret (se_v 4))))) ss_nil)
  (ss_cons (ss_asg (n := 2) (x_add (so_e (x_add (so_e (x_ix hr (so_v 0) (so_e se_str))) (so_e (x_mul (so_e (x_ix hr (so_v 0) (so_e se_str))) (so_e se_int))))) (so_e se_int)) hN rfl (by first | exact Or.inl rfl | exact Or.inr rfl) rfl)
  (ss_one (ss_ret (x_mod (so_e (x_fdiv (so_e (x_int (E.free 25) (so_e (x_mod (so_e (x_pow (so_v 2) (so_e se_int))) (so_e se_int))))) (so_e se_int))) (so_v 1))))))))
def j__law_pick (K : PySem.W.Frag) : IS := (jRet (iOp opIx [(.v 1), (.e (iCall (D__law_draw K) [true, false] [(.v 0), (.e (iOp opLen [(.v 1)]))]))]))
def D__law_pick (K : PySem.W.Frag) : DF := defOf [true, false] 2 (j__law_pick K)
theorem g__law_pick (E : Ev fa fn xc K mg) (EX : XF xts tv K) : Gf P0 w K mg base (1 + 1) (He.fAd K d__law_pick.at_) [true, false] (D__law_pick K) := by
  refine Gf.def E 15 (d := d__law_pick) rfl sc__law_pick rfl (by decide) rfl rfl (fun _ _ _ _ _ _ us hl => match us, hl with | [_, _], _ => rfl) fun cdv A outer s H E' hr => ?_
  have hN : N__law_pick.Nodup := sc__law_pick.nd
  have hp := passes_of (X := cxOf (L2.CX P0 w) P0 w K mg base N__law_pick d__law_pick.qual d__law_pick.scope (He.fAd K d__law_pick.at_) cdv A outer s H E') rfl
  exact (ss_one (ss_ret (x_ix hr (so_v 1) (so_e (gf_call (g__law_draw E EX) (E.glo 26) hr (sos_cons (so_v 0) (sos_cons (so_e (x_len (E.free 24) (so_v 1))) sos_nil)))))))
def j__law_value (K : PySem.W.Frag) : IS := (jRet (iCall (D__law_pick K) [true, false] [(.v 0), (.e (iShr (iLst [(iC (.str "")), (iC (.str "a")), (iC (.int 0)), (iOp opNeg [(.e (iC (.int 1)))]), (iC (.bl true)), (iC .non), (iTup []), (iTup [(iC (.str "a")), (iC (.int 1))]), (iLst [(iC (.int 1)), (iC (.str "b"))]), (iLst []), (iOp opPow [(.e (iC (.int 10))), (.e (iC (.int 40)))]), (iTup [(iTup [(iC (.str "x")), (iC (.int 2))]), (iC .non)])])))]))
def D__law_value (K : PySem.W.Frag) : DF := defOf [true] 1 (j__law_value K)
theorem g__law_value (E : Ev fa fn xc K mg) (EX : XF xts tv K) : Gf P0 w K mg base (2 + 1) (He.fAd K d__law_value.at_) [true] (D__law_value K) := by
  refine Gf.def E 14 (d := d__law_value) rfl sc__law_value rfl (by decide) rfl rfl (fun _ _ _ _ _ _ us hl => match us, hl with | [_], _ => rfl) fun cdv A outer s H E' hr => ?_
  have hN : N__law_value.Nodup := sc__law_value.nd
  have hp := passes_of (X := cxOf (L2.CX P0 w) P0 w K mg base N__law_value d__law_value.qual d__law_value.scope (He.fAd K d__law_value.at_) cdv A outer s H E') rfl
  exact (ss_one (ss_ret (gf_call (g__law_pick E EX) (E.glo 27) hr (sos_cons (so_v 0) (sos_cons (so_e (se_shr (se_lst (sas_cons se_str (sas_cons se_str (sas_cons se_int (sas_cons (x_neg (so_e se_int)) (sas_cons se_bl (sas_cons se_non (sas_cons (se_tup sas_nil) (sas_cons (se_tup (sas_cons se_str (sas_cons se_int sas_nil))) (sas_cons (se_lst (sas_cons se_int (sas_cons se_str sas_nil))) (sas_cons (se_lst sas_nil) (sas_cons (x_pow (so_e se_int) (so_e se_int)) (sas_cons (se_tup (sas_cons (se_tup (sas_cons se_str (sas_cons se_int sas_nil))) (sas_cons se_non sas_nil))) sas_nil))))))))))))))) sos_nil)))))
def j__law_pen (K : PySem.W.Frag) : IS := (jSeq (jAsg 1 (iC (.int 19)))
  (jSeq (jFor (sSeq (iVar 0)) (gN 2) (jAsg 1 (iOp opMod [(.e (iOp opInt [(.e (iOp opAdd [(.e (iOp opMul2 [(.v 1), (.e (iC (.int 109)))])), (.v 2)]))])), (.e (iC (.int 1000000321)))])))
  (jRet (iDisp ["cells", "at", "digits", "count", "fold"] [(iShr (iOp opList [(.v 0)])), (iC (.int 0)), (iC (.int 0)), (iC (.int 0)), (iVar 1)]))))
def D__law_pen (K : PySem.W.Frag) : DF := defOf [false] 3 (j__law_pen K)
theorem g__law_pen (E : Ev fa fn xc K mg) (EX : XF xts tv K) : Gf P0 w K mg base (0 + 1) (He.fAd K d__law_pen.at_) [false] (D__law_pen K) := by
  refine Gf.def E 17 (d := d__law_pen) rfl sc__law_pen rfl (by decide) rfl rfl (fun _ _ _ _ _ _ us hl => match us, hl with | [_], _ => rfl) fun cdv A outer s H E' hr => ?_
  have hN : N__law_pen.Nodup := sc__law_pen.nd
  have hp := passes_of (X := cxOf (L2.CX P0 w) P0 w K mg base N__law_pen d__law_pen.qual d__law_pen.scope (He.fAd K d__law_pen.at_) cdv A outer s H E') rfl
  exact (ss_cons (ss_asg (n := 1) se_int hN rfl (by first | exact Or.inl rfl | exact Or.inr rfl) rfl)
  (ss_cons (ss_for hp rfl (si_seq (se_v 0)) (sg_n 2 hN) (ss_one (ss_asg (n := 1) (x_mod (so_e (x_int (E.free 25) (so_e (x_add (so_e (x_mul (so_v 1) (so_e se_int))) (so_v 2))))) (so_e se_int)) hN rfl (by first | exact Or.inl rfl | exact Or.inr rfl) rfl)))
  (ss_one (ss_ret (se_disp (.cons (se_shr (x_list rfl (E.free 29) (so_v 0))) (.cons se_int (.cons se_int (.cons se_int (.cons (se_v 1) .nil))))) (by intro z; cases z))))))
def j_law (K : PySem.W.Frag) : IS := (jSeq (jAsg 1 (iCall (D__law_pen K) [false] [(.e (iVar 0))]))
  (jSeq (jAsg 2 (iLst [(iCall (D__law_value K) [true] [(.v 1)]), (iCall (D__law_value K) [true] [(.v 1)]), (iCall (D__law_value K) [true] [(.v 1)])]))
  (jSeq (jFor (sEnum (iOp opAdd [(.e (iCall (D__law_made_errors K) [false, false, false] [(.e (iOp opIx [(.v 2), (.e (iC (.int 0)))])), (.e (iOp opIx [(.v 2), (.e (iC (.int 1)))])), (.e (iOp opIx [(.v 2), (.e (iC (.int 2)))]))])), (.e (iShr (iLst [(iTup [(iC (.nd (.xc "NothingToUndo" []) false [])), (iLst [])]), (iTup [(iC (.nd (.xc "NothingToRedo" []) false [])), (iLst [])])])))])) (gT 2 (gCons (gN 3) (gCons (gN 4) gNil))) (jSeq (jAsgT (gT 2 (gCons (gN 8) (gCons (gN 9) gNil))) (iVar 4))
  (jSeq (jIf (iOrT (iNotT (iTr [(.e (iOp (opIsx tb_GoerError) [(.v 8)]))])) (iNotT (iTr [(.e (iOp (opIsx tv) [(.v 8)]))]))) (jRet (iC (.bl false))) jNx)
  (jSeq (jAsg 10 (iSl (.v 2) none (some (iI (iOp opLen [(.v 9)])))))
  (jSeq (jIf (iB (iOp opNe [(.e (iOp opRepr [(.e (iCall (D__law_fields K) [false, false] [(.e (iVar 8)), (.e (iVar 9))]))])), (.e (iOp opRepr [(.v 10)]))])) (jRet (iC (.bl false))) jNx)
  (jIf (iB (iOp opNe [(.e (iCall (D__law_kinds K) [false] [(.e (iVar 8))])), (.e (iLc (sRng1 (iC (.int 12))) (gN 12) tYesT (iOp opEq [(.v 12), (.v 3)]) [12]))])) (jRet (iC (.bl false))) jNx))))))
  (jSeq (jAsg 5 (iLst [(iC (.int 1)), (iLst [(iC (.int 2))])]))
  (jAl 5 6 (jSeq (jAsg 7 (iLst []))
  (jSeq (jTry (PySem.W.exmOne K) (jRaise (He.ga K "NotThere") ["what"] [(iLst [(iC (.int 1)), (iLst [(iC (.int 2))]), (iC (.int 3))])]) [(.ref (He.ga K "GoerError"), some 11, jTold (He.ga K "NotThere") "what" 7)])
  (jRet (iOp opEq [(.v 7), (.e (iLst [(iC (.bl true))]))])))))))))
end
def DL (K : PySem.W.Frag) : DF := defOf [false] 13 (j_law K)
theorem law_body [T : Tbs] {w : World} {K : PySem.W.Frag} {mg : Str → Option Value} {base : Heap} (E : Ev fa fn xc K mg) (EX : XF xts tv K) (cdv : Value)
    (A : Around) (outer : List Env) (s : Shared) (H : Hp) (E' : XK) (hr : Rg 3 (A.deeper (envOfC d_law.qual d_law.scope s.heap.objs.size (He.fAd K d_law.at_) cdv))) : SSs (cxOf (L2.CX P0 w) P0 w K mg base N_law d_law.qual d_law.scope (He.fAd K d_law.at_) cdv A outer s H E') (fxP [false]) d_law.body (j_law K) := by
  have hN : N_law.Nodup := sc_law.nd
  have hp := passes_of (X := cxOf (L2.CX P0 w) P0 w K mg base N_law d_law.qual d_law.scope (He.fAd K d_law.at_) cdv A outer s H E') rfl
  exact (ss_cons (ss_asg (n := 1) (gf_call (g__law_pen E EX) (E.glo 30) hr (sos_cons (so_e (se_v 0)) sos_nil)) hN rfl (by first | exact Or.inl rfl | exact Or.inr rfl) rfl)
  (ss_cons (ss_asg (n := 2) (se_lst (sas_cons (gf_call (g__law_value E EX) (E.glo 28) hr (sos_cons (so_v 1) sos_nil)) (sas_cons (gf_call (g__law_value E EX) (E.glo 28) hr (sos_cons (so_v 1) sos_nil)) (sas_cons (gf_call (g__law_value E EX) (E.glo 28) hr (sos_cons (so_v 1) sos_nil)) sas_nil)))) hN rfl (by first | exact Or.inl rfl | exact Or.inr rfl) rfl)
  (ss_cons (ss_for hp rfl (si_enum (E.free 19) (x_add (so_e (gf_call (g__law_made_errors E EX) (E.glo 14) hr (sos_cons (so_e (x_ix hr (so_v 2) (so_e se_int))) (sos_cons (so_e (x_ix hr (so_v 2) (so_e se_int))) (sos_cons (so_e (x_ix hr (so_v 2) (so_e se_int))) sos_nil))))) (so_e (se_shr (se_lst (sas_cons (se_tup (sas_cons (se_xmk0 (E.exs 17).1 (E.glo 18) (E.exs 17).2) (sas_cons (se_lst sas_nil) sas_nil))) (sas_cons (se_tup (sas_cons (se_xmk0 (E.exs 15).1 (E.glo 16) (E.exs 15).2) (sas_cons (se_lst sas_nil) sas_nil))) sas_nil))))))) (sg_t rfl (sgs_cons (sg_n 3 hN) (sgs_cons (sg_n 4 hN) sgs_nil))) (ss_cons (ss_asgT (se_v 4) (sg_t rfl (sgs_cons (sg_n 8 hN) (sgs_cons (sg_n 9 hN) sgs_nil))))
  (ss_cons (ss_if (sw_st (sw_or (st_not (st_tr (so_e (se_isx EX.xk (E.free 3) (so_v 8) (pe_glob rfl (E.glo 5) (v := .ref _) rfl) (.own _) (EX.ct 12))))) (sw_or1 (st_not (st_tr (so_e (se_isx EX.xk (E.free 3) (so_v 8) (pe_bltn (v := .ty "ValueError") rfl (E.free 4) (by kernel_rfl) rfl (by decide)) (.ty _) EX.vt))))))) (ss_one (ss_ret se_bl)) ss_nil)
  (ss_cons (ss_asg (n := 10) (se_sl (so_v 2) sp_none (sp_some (x_len (E.free 24) (so_v 9)))) hN rfl (by first | exact Or.inl rfl | exact Or.inr rfl) rfl)
  (ss_cons (ss_if (t_ne hr (so_e (x_repr hr (E.free 23) (so_e (gf_call (g__law_fields E EX) (E.glo 22) hr (sos_cons (so_e (se_v 8)) (sos_cons (so_e (se_v 9)) sos_nil)))))) (so_e (x_repr hr (E.free 23) (so_v 10)))) (ss_one (ss_ret se_bl)) ss_nil)
  (ss_one (ss_if (t_ne hr (so_e (gf_call (g__law_kinds E EX) (E.glo 20) hr (sos_cons (so_e (se_v 8)) sos_nil))) (so_e (se_lc [("place", 12)] rfl hN (si_rng1 (E.free 21) se_int) (by kernel_rfl) (in_blk fun s1 H1 C1 cl1 fp1 => (sg_n 12 hN)) (in_blk fun s1 H1 C1 cl1 fp1 => sts_nil) (in_blk fun s1 H1 C1 cl1 fp1 => (x_eq hr (so_v 12) (so_v 3)))))) (ss_one (ss_ret se_bl)) ss_nil)))))))
  (ss_cons (ss_asg (n := 5) (se_lst (sas_cons se_int (sas_cons (se_lst (sas_cons se_int sas_nil)) sas_nil))) hN rfl (by first | exact Or.inl rfl | exact Or.inr rfl) rfl)
  (ss_alias (k := 0) 5 6 (by decide) (xk_BadRow E EX) (by decide) (hr.mono (by decide)) (E.exc 0).xf ((E.exc 0).fnd "row" (by decide)) hN (se_lst (sas_cons se_int (sas_cons (se_lst (sas_cons se_int sas_nil)) (sas_cons se_int sas_nil)))) il_L3 (ss_one (ss_ret se_bl)) (ss_cons (ss_asg (n := 7) (se_lst sas_nil) hN rfl (by first | exact Or.inl rfl | exact Or.inr rfl) rfl)
  (ss_cons (ss_try (kit := PySem.W.exmOne K) (l := [(.ref (He.ga K "GoerError"), some 11, jTold (He.ga K "NotThere") "what" 7)]) (fun _ _ _ h => h) rfl rfl hN (.nmd ⟨rfl, by decide, .inl (E.glo 5)⟩ (i := 11) rfl rfl (su_told (k := 0) 11 7 EX.xk (hr.mono (by decide)) (E.exc 1).xf ((E.exc 1).fnd "what" (by decide)) (EX.vt ("NotThere", true) (by decide)).1 (E.free 3) (fun _ _ => pe_bltn (v := .ty "ValueError") rfl (E.free 4) (by kernel_rfl) rfl (by decide)) (fun _ _ => pe_glob rfl (E.glo 1) (v := .ref _) rfl) (.ty _) (.own _) (EX.vt ("NotThere", true) (by decide)).2 (EX.ct 0 rfl ("NotThere", true) (by decide)).2 (fun _ _ => (se_lst (sas_cons se_int (sas_cons (se_lst (sas_cons se_int sas_nil)) (sas_cons se_int sas_nil))))) il_L3) .nil) (by kernel_rfl) (fun pn xe hp1 => (ss_one (ss_raise (xk_NotThere E EX) (k := 0) (hr.mono (by decide)) rfl (sas_cons (se_lst (sas_cons se_int (sas_cons (se_lst (sas_cons se_int sas_nil)) (sas_cons se_int sas_nil)))) sas_nil)))))
  (ss_one (ss_ret (x_eq hr (so_v 7) (so_e (se_lst (sas_cons se_bl sas_nil)))))))))))))
def lawLevel : Nat := 3
def lawAt : Nat := 0
end K01
set_option maxRecDepth 100000
set_option maxHeartbeats 4000000
set_option linter.all false
/-! K01b1: draws, picks, shuffles of k01. -/
namespace K01
open PySem PySem.Spec PyProof.Rows Bx
open L2 (Key)
theorem draw_ok (K : PySem.W.Frag) {c : Nat} {p : PV} (hp : Pen c p) (hc : c < 1000000000000) (many : Int) (h : 0 < many) (h2 : many < 1073741824) :
    ∃ (r : Int) (p' : PV), D__law_draw K [p, .int many] = .ret (.int r) [p'] ∧ 0 ≤ r ∧ r < many ∧ Pen (c + 1) p' := by
  obtain ⟨cs, a, d, n, f, rfl, h3, h4, h5, h6, h7⟩ := hp
  have tail : ∀ (a : Nat) (d f : Int), 0 ≤ d → 0 ≤ f → f < 2147483353 → ∀ e : R Sr, e = .ok .nx [some (pen cs a d (n + 1) f), some (.int many), none, none, none] ∨ (∃ x, e = .ok .nx [some (pen cs a d (n + 1) f), some (.int many), none, some x, none]) → ∃ (r : Int) (p' : PV), zEnd [true, false] (zSeq e ((jSeq (jIf (iB (iOp opGt2 [(.e (iOp opIx [(.v 0), (.e (iC (.str "digits")))])), (.e (iC (.int 0)))])) (jSeq (jAsg 4 (iOp opMod [(.e (iOp opInt [(.e (iOp opIx [(.v 0), (.e (iC (.str "digits")))]))])), (.v 1)]))
  (jSeq (jPut 0 (iC (.str "digits")) (iOp opFdiv [(.e (iOp opIx [(.v 0), (.e (iC (.str "digits")))])), (.v 1)]))
  (jRet (iVar 4)))) jNx)
  (jSeq (jAsg 2 (iOp opAdd [(.e (iOp opAdd [(.e (iOp opIx [(.v 0), (.e (iC (.str "fold")))])), (.e (iOp opMul2 [(.e (iOp opIx [(.v 0), (.e (iC (.str "count")))])), (.e (iC (.int 8039)))]))])), (.e (iC (.int 53)))]))
  (jRet (iOp opMod [(.e (iOp opFdiv [(.e (iOp opInt [(.e (iOp opMod [(.e (iOp opPow [(.v 2), (.e (iC (.int 17)))])), (.e (iC (.int 2305843009213693951)))]))])), (.e (iC (.int 128)))])), (.v 1)])))))) = .ret (.int r) [p'] ∧ 0 ≤ r ∧ r < many ∧ Pen (c + 1) p' := by
    intro a d f g1 g2 g3 e he
    by_cases hd : 0 < d
    · refine ⟨d.fmod many, pen cs a (d.fdiv many) (n + 1) f, ?_, ?_, ?_, ?_⟩
      · rcases he with rfl | ⟨x, rfl⟩ <;>
        simp (maxSteps := 400000) only [Bx.e_def, Bx.e_end_nx, Bx.e_end_rt, Bx.e_end_exc, Bx.e_retF, Bx.e_excF, Bx.e_seq, Bx.e_seq_nx, Bx.e_seq_rt, Bx.e_seq_bk, Bx.e_seq_ct, Bx.e_seq_exc, Bx.e_nx, Bx.e_bk, Bx.e_ct, Bx.e_retN, Bx.e_if, Bx.e_if_t, Bx.e_if_f, Bx.e_if_x, Bx.e_ret, Bx.e_ret_ok, Bx.e_ret_x, Bx.e_expr, Bx.e_expr_ok, Bx.e_expr_x, Bx.e_asg, Bx.e_asg_ok, Bx.e_asg_x, Bx.e_put, Bx.e_put1, Bx.e_hk1, Bx.e_mk_l, Bx.e_lk_l, Bx.e_mk_d, Bx.e_mk_i, Bx.e_mu, Bx.e_mu_ok, Bx.e_mu_x, Bx.e_mf1, Bx.e_mo, Bx.e_gd, Bx.e_put2, Bx.e_op, Bx.e_op_ok, Bx.e_op_x, Bx.e_fin, Bx.e_res, Bx.e_evO0, Bx.e_evOe, Bx.e_val, Bx.e_val_x, Bx.e_cons, Bx.e_cons_x, Bx.e_evOv, Bx.e_bor, Bx.e_resAll0, Bx.e_resAllv, Bx.e_resAllb, Bx.e_br, Bx.e_mapS, Bx.e_c, Bx.e_var, Bx.e_vari, Bx.e_pu_t, Bx.e_pu_f, Bx.e_b, Bx.e_b_ok, Bx.e_b_x, Bx.e_tr, Bx.e_tr_ok, Bx.e_true, Bx.e_truth, Bx.e_truth_b, Bx.e_andT, Bx.e_and_t, Bx.e_and_f, Bx.e_orT, Bx.e_or_t, Bx.e_or_f, Bx.e_notT, Bx.e_not_ok, Bx.e_notE, Bx.e_notE_ok, Bx.e_ifE, Bx.e_ifE_t, Bx.e_ifE_f, Bx.e_andE, Bx.e_andE_ok, Bx.e_andE_t, Bx.e_andE_f, Bx.e_orE, Bx.e_orE_ok, Bx.e_orE_t, Bx.e_orE_f, Bx.e_evA0, Bx.e_evA, Bx.e_A, Bx.e_A_x, Bx.e_ACons, Bx.e_ACons_x, Bx.e_tup, Bx.e_tup_ok, Bx.e_lst, Bx.e_lst_ok, Bx.e_disp, Bx.e_disp_ok, Bx.e_shr, Bx.e_shr_ok, Bx.e_call, Bx.e_call_ok, Bx.e_mv, Bx.e_rf, Bx.e_rf_x, Bx.e_wb, Bx.e_wx, Bx.e_mvv, Bx.e_mvf, Bx.e_mvb, Bx.e_mb, Bx.e_mv0, Bx.e_mapM, Bx.e_wb0, Bx.e_wbs, Bx.e_ws, Bx.e_wbn, Bx.e_p_int, Bx.e_p_str, Bx.e_p_bl, Bx.e_p_non, Bx.e_p_ref, Bx.e_p_ty, Bx.e_s_int, Bx.e_s_str, Bx.e_s_bl, Bx.e_s_non, Bx.e_for, Bx.e_for_ok, Bx.e_loop1, Bx.e_turn_nx, Bx.e_turn_rt, Bx.e_gN, Bx.d_rng1, Bx.d_rng2, Bx.d_seq, Bx.d_seq_ok, Bx.d_items, Bx.d_enum, Bx.d_enum_ok, Bx.d_zip, Bx.d_zip_ok, Bx.d_lc, Bx.d_lc_ok, Bx.d_lcE, Bx.d_par, Bx.d_par_ok, Bx.d_mte, Bx.d_mt_ok, Bx.d_mtv, Bx.d_mv_ok, Bx.d_chk, Bx.d_mc, Bx.e_pL, Bx.e_pT, Bx.d_sl, Bx.d_sl1, Bx.d_sl2, Bx.d_sl3, Bx.d_sl4, Bx.d_evPn, Bx.d_evPs, Bx.d_evPk, Bx.d_iI, Bx.d_iIk, Bx.d_ch, Bx.d_ch1, Bx.d_ch2, Bx.d_ch3f, Bx.d_ch3t, Bx.d_ch4, Bx.d_ch5, Bx.d_me, Bx.d_me1, Bx.d_me2, Bx.d_fld, Bx.d_fld1, Bx.d_rai, Bx.d_rai1, Bx.d_cv, Bx.d_cv1, Bx.d_cv2, Bx.d_yes, mkVw, takeP, wipeV, List.map_cons, List.map_nil, List.replicate_succ, List.replicate_zero, List.length_cons, List.length_nil, List.cons_append, List.nil_append, List.getElem?_cons_succ, List.getElem?_cons_zero, List.set_cons_zero, List.set_cons_succ, Nat.reduceAdd, Nat.reduceSub, Nat.reduceLT, Nat.lt_add_left_iff_pos, decide_true, decide_false, Bool.not_true, Bool.not_false, if_true, if_false, reduceIte, Bool.false_eq_true, Option.map_some, Option.map_none, Nat.zero_lt_succ, Nat.reduceLeDiff, eq_self, and_self, and_true, true_and, pn_cells, pn_at, pn_digits, pn_count, pn_fold, pn_has, pn_mk, pp_count, pp_at, pp_digits, pp_fold, o_add, o_gt, o_int, o_mod _ _ h, o_fdiv _ _ ⟨h, h2⟩, hd]
      · rw [Int.fmod_eq_emod_of_nonneg _ (by omega)]; exact Int.emod_nonneg _ (by omega)
      · rw [Int.fmod_eq_emod_of_nonneg _ (by omega)]; exact Int.emod_lt_of_pos _ h
      · refine ⟨cs, a, _, _, f, rfl, ?_, by omega, by omega, g2, g3⟩
        rw [Int.fdiv_eq_ediv_of_nonneg _ (by omega)]; exact Int.ediv_nonneg g1 (by omega)
    · refine ⟨((((f + (n + 1) * 8039 + 53) ^ 17).fmod 2305843009213693951).fdiv 128).fmod many, pen cs a d (n + 1) f, ?_, ?_, ?_, ?_⟩
      · have b1 : 0 ≤ f + (n + 1) * 8039 + 53 ∧ f + (n + 1) * 8039 + 53 < 18446744073709551616 := by omega
        rcases he with rfl | ⟨x, rfl⟩ <;>
        simp (maxSteps := 400000) only [Bx.e_def, Bx.e_end_nx, Bx.e_end_rt, Bx.e_end_exc, Bx.e_retF, Bx.e_excF, Bx.e_seq, Bx.e_seq_nx, Bx.e_seq_rt, Bx.e_seq_bk, Bx.e_seq_ct, Bx.e_seq_exc, Bx.e_nx, Bx.e_bk, Bx.e_ct, Bx.e_retN, Bx.e_if, Bx.e_if_t, Bx.e_if_f, Bx.e_if_x, Bx.e_ret, Bx.e_ret_ok, Bx.e_ret_x, Bx.e_expr, Bx.e_expr_ok, Bx.e_expr_x, Bx.e_asg, Bx.e_asg_ok, Bx.e_asg_x, Bx.e_put, Bx.e_put1, Bx.e_hk1, Bx.e_mk_l, Bx.e_lk_l, Bx.e_mk_d, Bx.e_mk_i, Bx.e_mu, Bx.e_mu_ok, Bx.e_mu_x, Bx.e_mf1, Bx.e_mo, Bx.e_gd, Bx.e_put2, Bx.e_op, Bx.e_op_ok, Bx.e_op_x, Bx.e_fin, Bx.e_res, Bx.e_evO0, Bx.e_evOe, Bx.e_val, Bx.e_val_x, Bx.e_cons, Bx.e_cons_x, Bx.e_evOv, Bx.e_bor, Bx.e_resAll0, Bx.e_resAllv, Bx.e_resAllb, Bx.e_br, Bx.e_mapS, Bx.e_c, Bx.e_var, Bx.e_vari, Bx.e_pu_t, Bx.e_pu_f, Bx.e_b, Bx.e_b_ok, Bx.e_b_x, Bx.e_tr, Bx.e_tr_ok, Bx.e_true, Bx.e_truth, Bx.e_truth_b, Bx.e_andT, Bx.e_and_t, Bx.e_and_f, Bx.e_orT, Bx.e_or_t, Bx.e_or_f, Bx.e_notT, Bx.e_not_ok, Bx.e_notE, Bx.e_notE_ok, Bx.e_ifE, Bx.e_ifE_t, Bx.e_ifE_f, Bx.e_andE, Bx.e_andE_ok, Bx.e_andE_t, Bx.e_andE_f, Bx.e_orE, Bx.e_orE_ok, Bx.e_orE_t, Bx.e_orE_f, Bx.e_evA0, Bx.e_evA, Bx.e_A, Bx.e_A_x, Bx.e_ACons, Bx.e_ACons_x, Bx.e_tup, Bx.e_tup_ok, Bx.e_lst, Bx.e_lst_ok, Bx.e_disp, Bx.e_disp_ok, Bx.e_shr, Bx.e_shr_ok, Bx.e_call, Bx.e_call_ok, Bx.e_mv, Bx.e_rf, Bx.e_rf_x, Bx.e_wb, Bx.e_wx, Bx.e_mvv, Bx.e_mvf, Bx.e_mvb, Bx.e_mb, Bx.e_mv0, Bx.e_mapM, Bx.e_wb0, Bx.e_wbs, Bx.e_ws, Bx.e_wbn, Bx.e_p_int, Bx.e_p_str, Bx.e_p_bl, Bx.e_p_non, Bx.e_p_ref, Bx.e_p_ty, Bx.e_s_int, Bx.e_s_str, Bx.e_s_bl, Bx.e_s_non, Bx.e_for, Bx.e_for_ok, Bx.e_loop1, Bx.e_turn_nx, Bx.e_turn_rt, Bx.e_gN, Bx.d_rng1, Bx.d_rng2, Bx.d_seq, Bx.d_seq_ok, Bx.d_items, Bx.d_enum, Bx.d_enum_ok, Bx.d_zip, Bx.d_zip_ok, Bx.d_lc, Bx.d_lc_ok, Bx.d_lcE, Bx.d_par, Bx.d_par_ok, Bx.d_mte, Bx.d_mt_ok, Bx.d_mtv, Bx.d_mv_ok, Bx.d_chk, Bx.d_mc, Bx.e_pL, Bx.e_pT, Bx.d_sl, Bx.d_sl1, Bx.d_sl2, Bx.d_sl3, Bx.d_sl4, Bx.d_evPn, Bx.d_evPs, Bx.d_evPk, Bx.d_iI, Bx.d_iIk, Bx.d_ch, Bx.d_ch1, Bx.d_ch2, Bx.d_ch3f, Bx.d_ch3t, Bx.d_ch4, Bx.d_ch5, Bx.d_me, Bx.d_me1, Bx.d_me2, Bx.d_fld, Bx.d_fld1, Bx.d_rai, Bx.d_rai1, Bx.d_cv, Bx.d_cv1, Bx.d_cv2, Bx.d_yes, mkVw, takeP, wipeV, List.map_cons, List.map_nil, List.replicate_succ, List.replicate_zero, List.length_cons, List.length_nil, List.cons_append, List.nil_append, List.getElem?_cons_succ, List.getElem?_cons_zero, List.set_cons_zero, List.set_cons_succ, Nat.reduceAdd, Nat.reduceSub, Nat.reduceLT, Nat.lt_add_left_iff_pos, decide_true, decide_false, Bool.not_true, Bool.not_false, if_true, if_false, reduceIte, Bool.false_eq_true, Option.map_some, Option.map_none, Nat.zero_lt_succ, Nat.reduceLeDiff, eq_self, and_self, and_true, true_and, pn_cells, pn_at, pn_digits, pn_count, pn_fold, pn_has, pn_mk, pp_count, pp_at, pp_digits, pp_fold, o_add, o_gt, o_int, o_mulC (n + 1) 8039 (by omega), o_pow (f + (n + 1) * 8039 + 53) 17 (by omega), o_mod _ _ h, o_mod _ 2305843009213693951 (by decide), o_fdiv _ 128 (by decide), hd, Int.reduceToNat]
      · rw [Int.fmod_eq_emod_of_nonneg _ (by omega)]; exact Int.emod_nonneg _ (by omega)
      · rw [Int.fmod_eq_emod_of_nonneg _ (by omega)]; exact Int.emod_lt_of_pos _ h
      · exact ⟨cs, a, _, _, f, rfl, g1, by omega, by omega, g2, g3⟩
  have key : ∀ jf tl : IS, zEnd [true, false] (jSeq ((jPut 0 (iC (.str "count")) (iOp opAdd [(.e (iOp opIx [(.v 0), (.e (iC (.str "count")))])), (.e (iC (.int 1)))]))) (jSeq jf tl) (mkVw 5 [pen cs a d n f, .int many])) = zEnd [true, false] (zSeq (jf [some (pen cs a d (n + 1) f), some (.int many), none, none, none]) tl) := by
    intro jf tl
    simp (maxSteps := 400000) only [Bx.e_def, Bx.e_end_nx, Bx.e_end_rt, Bx.e_end_exc, Bx.e_retF, Bx.e_excF, Bx.e_seq, Bx.e_seq_nx, Bx.e_seq_rt, Bx.e_seq_bk, Bx.e_seq_ct, Bx.e_seq_exc, Bx.e_nx, Bx.e_bk, Bx.e_ct, Bx.e_retN, Bx.e_if, Bx.e_if_t, Bx.e_if_f, Bx.e_if_x, Bx.e_ret, Bx.e_ret_ok, Bx.e_ret_x, Bx.e_expr, Bx.e_expr_ok, Bx.e_expr_x, Bx.e_asg, Bx.e_asg_ok, Bx.e_asg_x, Bx.e_put, Bx.e_put1, Bx.e_hk1, Bx.e_mk_l, Bx.e_lk_l, Bx.e_mk_d, Bx.e_mk_i, Bx.e_mu, Bx.e_mu_ok, Bx.e_mu_x, Bx.e_mf1, Bx.e_mo, Bx.e_gd, Bx.e_put2, Bx.e_op, Bx.e_op_ok, Bx.e_op_x, Bx.e_fin, Bx.e_res, Bx.e_evO0, Bx.e_evOe, Bx.e_val, Bx.e_val_x, Bx.e_cons, Bx.e_cons_x, Bx.e_evOv, Bx.e_bor, Bx.e_resAll0, Bx.e_resAllv, Bx.e_resAllb, Bx.e_br, Bx.e_mapS, Bx.e_c, Bx.e_var, Bx.e_vari, Bx.e_pu_t, Bx.e_pu_f, Bx.e_b, Bx.e_b_ok, Bx.e_b_x, Bx.e_tr, Bx.e_tr_ok, Bx.e_true, Bx.e_truth, Bx.e_truth_b, Bx.e_andT, Bx.e_and_t, Bx.e_and_f, Bx.e_orT, Bx.e_or_t, Bx.e_or_f, Bx.e_notT, Bx.e_not_ok, Bx.e_notE, Bx.e_notE_ok, Bx.e_ifE, Bx.e_ifE_t, Bx.e_ifE_f, Bx.e_andE, Bx.e_andE_ok, Bx.e_andE_t, Bx.e_andE_f, Bx.e_orE, Bx.e_orE_ok, Bx.e_orE_t, Bx.e_orE_f, Bx.e_evA0, Bx.e_evA, Bx.e_A, Bx.e_A_x, Bx.e_ACons, Bx.e_ACons_x, Bx.e_tup, Bx.e_tup_ok, Bx.e_lst, Bx.e_lst_ok, Bx.e_disp, Bx.e_disp_ok, Bx.e_shr, Bx.e_shr_ok, Bx.e_call, Bx.e_call_ok, Bx.e_mv, Bx.e_rf, Bx.e_rf_x, Bx.e_wb, Bx.e_wx, Bx.e_mvv, Bx.e_mvf, Bx.e_mvb, Bx.e_mb, Bx.e_mv0, Bx.e_mapM, Bx.e_wb0, Bx.e_wbs, Bx.e_ws, Bx.e_wbn, Bx.e_p_int, Bx.e_p_str, Bx.e_p_bl, Bx.e_p_non, Bx.e_p_ref, Bx.e_p_ty, Bx.e_s_int, Bx.e_s_str, Bx.e_s_bl, Bx.e_s_non, Bx.e_for, Bx.e_for_ok, Bx.e_loop1, Bx.e_turn_nx, Bx.e_turn_rt, Bx.e_gN, Bx.d_rng1, Bx.d_rng2, Bx.d_seq, Bx.d_seq_ok, Bx.d_items, Bx.d_enum, Bx.d_enum_ok, Bx.d_zip, Bx.d_zip_ok, Bx.d_lc, Bx.d_lc_ok, Bx.d_lcE, Bx.d_par, Bx.d_par_ok, Bx.d_mte, Bx.d_mt_ok, Bx.d_mtv, Bx.d_mv_ok, Bx.d_chk, Bx.d_mc, Bx.e_pL, Bx.e_pT, Bx.d_sl, Bx.d_sl1, Bx.d_sl2, Bx.d_sl3, Bx.d_sl4, Bx.d_evPn, Bx.d_evPs, Bx.d_evPk, Bx.d_iI, Bx.d_iIk, Bx.d_ch, Bx.d_ch1, Bx.d_ch2, Bx.d_ch3f, Bx.d_ch3t, Bx.d_ch4, Bx.d_ch5, Bx.d_me, Bx.d_me1, Bx.d_me2, Bx.d_fld, Bx.d_fld1, Bx.d_rai, Bx.d_rai1, Bx.d_cv, Bx.d_cv1, Bx.d_cv2, Bx.d_yes, mkVw, takeP, wipeV, List.map_cons, List.map_nil, List.replicate_succ, List.replicate_zero, List.length_cons, List.length_nil, List.cons_append, List.nil_append, List.getElem?_cons_succ, List.getElem?_cons_zero, List.set_cons_zero, List.set_cons_succ, Nat.reduceAdd, Nat.reduceSub, Nat.reduceLT, Nat.lt_add_left_iff_pos, decide_true, decide_false, Bool.not_true, Bool.not_false, if_true, if_false, reduceIte, Bool.false_eq_true, Option.map_some, Option.map_none, Nat.zero_lt_succ, Nat.reduceLeDiff, eq_self, and_self, and_true, true_and, pn_count, pn_has, pn_mk, pp_count, o_add]
  have e0 : D__law_draw K [pen cs a d n f, .int many] = zEnd [true, false] (zSeq (((jIf (iAndT (iB (iOp opEq [(.e (iOp opIx [(.v 0), (.e (iC (.str "digits")))])), (.e (iC (.int 0)))])) (iB (iOp opLt2 [(.e (iOp opIx [(.v 0), (.e (iC (.str "at")))])), (.e (iOp opLen [(.e (iOp opIx [(.v 0), (.e (iC (.str "cells")))]))]))]))) (jSeq (jAsg 3 (iOp opIx [(.e (iOp opIx [(.v 0), (.e (iC (.str "cells")))])), (.e (iOp opIx [(.v 0), (.e (iC (.str "at")))]))]))
  (jSeq (jPut 0 (iC (.str "at")) (iOp opAdd [(.e (iOp opIx [(.v 0), (.e (iC (.str "at")))])), (.e (iC (.int 1)))]))
  (jIf (iB (iOp opGe2 [(.v 3), (.e (iOp opPow [(.e (iC (.int 10))), (.e (iC (.int 18)))]))])) (jPut 0 (iC (.str "digits")) (iOp opSub [(.v 3), (.e (iOp opPow [(.e (iC (.int 10))), (.e (iC (.int 18)))]))])) (jPut 0 (iC (.str "fold")) (iOp opMod [(.e (iOp opInt [(.e (iOp opAdd [(.e (iOp opMul2 [(.e (iOp opIx [(.v 0), (.e (iC (.str "fold")))])), (.e (iC (.int 70039)))])), (.v 3)]))])), (.e (iC (.int 2147483353)))]))))) jNx)) [some (pen cs a d (n + 1) f), some (.int many), none, none, none]) ((jSeq (jIf (iB (iOp opGt2 [(.e (iOp opIx [(.v 0), (.e (iC (.str "digits")))])), (.e (iC (.int 0)))])) (jSeq (jAsg 4 (iOp opMod [(.e (iOp opInt [(.e (iOp opIx [(.v 0), (.e (iC (.str "digits")))]))])), (.v 1)]))
  (jSeq (jPut 0 (iC (.str "digits")) (iOp opFdiv [(.e (iOp opIx [(.v 0), (.e (iC (.str "digits")))])), (.v 1)]))
  (jRet (iVar 4)))) jNx)
  (jSeq (jAsg 2 (iOp opAdd [(.e (iOp opAdd [(.e (iOp opIx [(.v 0), (.e (iC (.str "fold")))])), (.e (iOp opMul2 [(.e (iOp opIx [(.v 0), (.e (iC (.str "count")))])), (.e (iC (.int 8039)))]))])), (.e (iC (.int 53)))]))
  (jRet (iOp opMod [(.e (iOp opFdiv [(.e (iOp opInt [(.e (iOp opMod [(.e (iOp opPow [(.v 2), (.e (iC (.int 17)))])), (.e (iC (.int 2305843009213693951)))]))])), (.e (iC (.int 128)))])), (.v 1)])))))) := key _ _
  rw [e0]
  by_cases hd : d = 0
  · subst hd
    by_cases ha : a < cs.length
    · have hl : (a : Int) < (cs.length : Int) := by omega
      by_cases hc : 1000000000000000000 ≤ cs[a]
      · refine tail (a + 1) (cs[a] - 1000000000000000000) f (by omega) h6 h7 _ (.inr ⟨.int cs[a], ?_⟩)
        simp (maxSteps := 400000) only [Bx.e_def, Bx.e_end_nx, Bx.e_end_rt, Bx.e_end_exc, Bx.e_retF, Bx.e_excF, Bx.e_seq, Bx.e_seq_nx, Bx.e_seq_rt, Bx.e_seq_bk, Bx.e_seq_ct, Bx.e_seq_exc, Bx.e_nx, Bx.e_bk, Bx.e_ct, Bx.e_retN, Bx.e_if, Bx.e_if_t, Bx.e_if_f, Bx.e_if_x, Bx.e_ret, Bx.e_ret_ok, Bx.e_ret_x, Bx.e_expr, Bx.e_expr_ok, Bx.e_expr_x, Bx.e_asg, Bx.e_asg_ok, Bx.e_asg_x, Bx.e_put, Bx.e_put1, Bx.e_hk1, Bx.e_mk_l, Bx.e_lk_l, Bx.e_mk_d, Bx.e_mk_i, Bx.e_mu, Bx.e_mu_ok, Bx.e_mu_x, Bx.e_mf1, Bx.e_mo, Bx.e_gd, Bx.e_put2, Bx.e_op, Bx.e_op_ok, Bx.e_op_x, Bx.e_fin, Bx.e_res, Bx.e_evO0, Bx.e_evOe, Bx.e_val, Bx.e_val_x, Bx.e_cons, Bx.e_cons_x, Bx.e_evOv, Bx.e_bor, Bx.e_resAll0, Bx.e_resAllv, Bx.e_resAllb, Bx.e_br, Bx.e_mapS, Bx.e_c, Bx.e_var, Bx.e_vari, Bx.e_pu_t, Bx.e_pu_f, Bx.e_b, Bx.e_b_ok, Bx.e_b_x, Bx.e_tr, Bx.e_tr_ok, Bx.e_true, Bx.e_truth, Bx.e_truth_b, Bx.e_andT, Bx.e_and_t, Bx.e_and_f, Bx.e_orT, Bx.e_or_t, Bx.e_or_f, Bx.e_notT, Bx.e_not_ok, Bx.e_notE, Bx.e_notE_ok, Bx.e_ifE, Bx.e_ifE_t, Bx.e_ifE_f, Bx.e_andE, Bx.e_andE_ok, Bx.e_andE_t, Bx.e_andE_f, Bx.e_orE, Bx.e_orE_ok, Bx.e_orE_t, Bx.e_orE_f, Bx.e_evA0, Bx.e_evA, Bx.e_A, Bx.e_A_x, Bx.e_ACons, Bx.e_ACons_x, Bx.e_tup, Bx.e_tup_ok, Bx.e_lst, Bx.e_lst_ok, Bx.e_disp, Bx.e_disp_ok, Bx.e_shr, Bx.e_shr_ok, Bx.e_call, Bx.e_call_ok, Bx.e_mv, Bx.e_rf, Bx.e_rf_x, Bx.e_wb, Bx.e_wx, Bx.e_mvv, Bx.e_mvf, Bx.e_mvb, Bx.e_mb, Bx.e_mv0, Bx.e_mapM, Bx.e_wb0, Bx.e_wbs, Bx.e_ws, Bx.e_wbn, Bx.e_p_int, Bx.e_p_str, Bx.e_p_bl, Bx.e_p_non, Bx.e_p_ref, Bx.e_p_ty, Bx.e_s_int, Bx.e_s_str, Bx.e_s_bl, Bx.e_s_non, Bx.e_for, Bx.e_for_ok, Bx.e_loop1, Bx.e_turn_nx, Bx.e_turn_rt, Bx.e_gN, Bx.d_rng1, Bx.d_rng2, Bx.d_seq, Bx.d_seq_ok, Bx.d_items, Bx.d_enum, Bx.d_enum_ok, Bx.d_zip, Bx.d_zip_ok, Bx.d_lc, Bx.d_lc_ok, Bx.d_lcE, Bx.d_par, Bx.d_par_ok, Bx.d_mte, Bx.d_mt_ok, Bx.d_mtv, Bx.d_mv_ok, Bx.d_chk, Bx.d_mc, Bx.e_pL, Bx.e_pT, Bx.d_sl, Bx.d_sl1, Bx.d_sl2, Bx.d_sl3, Bx.d_sl4, Bx.d_evPn, Bx.d_evPs, Bx.d_evPk, Bx.d_iI, Bx.d_iIk, Bx.d_ch, Bx.d_ch1, Bx.d_ch2, Bx.d_ch3f, Bx.d_ch3t, Bx.d_ch4, Bx.d_ch5, Bx.d_me, Bx.d_me1, Bx.d_me2, Bx.d_fld, Bx.d_fld1, Bx.d_rai, Bx.d_rai1, Bx.d_cv, Bx.d_cv1, Bx.d_cv2, Bx.d_yes, mkVw, takeP, wipeV, List.map_cons, List.map_nil, List.replicate_succ, List.replicate_zero, List.length_cons, List.length_nil, List.cons_append, List.nil_append, List.getElem?_cons_succ, List.getElem?_cons_zero, List.set_cons_zero, List.set_cons_succ, Nat.reduceAdd, Nat.reduceSub, Nat.reduceLT, Nat.lt_add_left_iff_pos, decide_true, decide_false, Bool.not_true, Bool.not_false, if_true, if_false, reduceIte, Bool.false_eq_true, Option.map_some, Option.map_none, Nat.zero_lt_succ, Nat.reduceLeDiff, eq_self, and_self, and_true, true_and, pn_cells, pn_at, pn_digits, pn_count, pn_fold, pn_has, pn_mk, pp_count, pp_at, pp_digits, pp_fold, o_add, o_sub, o_eq, o_lt, o_ge, ck_len, ck_at _ _ ha, o_pow 10 18 (by decide), hl, hc, Int.reduceToNat, Int.reducePow]
      · refine tail (a + 1) 0 ((f * 70039 + cs[a]).fmod 2147483353) (by omega) ?_ ?_ _ (.inr ⟨.int cs[a], ?_⟩)
        · rw [Int.fmod_eq_emod_of_nonneg _ (by omega)]; exact Int.emod_nonneg _ (by omega)
        · rw [Int.fmod_eq_emod_of_nonneg _ (by omega)]; exact Int.emod_lt_of_pos _ (by omega)
        · simp (maxSteps := 400000) only [Bx.e_def, Bx.e_end_nx, Bx.e_end_rt, Bx.e_end_exc, Bx.e_retF, Bx.e_excF, Bx.e_seq, Bx.e_seq_nx, Bx.e_seq_rt, Bx.e_seq_bk, Bx.e_seq_ct, Bx.e_seq_exc, Bx.e_nx, Bx.e_bk, Bx.e_ct, Bx.e_retN, Bx.e_if, Bx.e_if_t, Bx.e_if_f, Bx.e_if_x, Bx.e_ret, Bx.e_ret_ok, Bx.e_ret_x, Bx.e_expr, Bx.e_expr_ok, Bx.e_expr_x, Bx.e_asg, Bx.e_asg_ok, Bx.e_asg_x, Bx.e_put, Bx.e_put1, Bx.e_hk1, Bx.e_mk_l, Bx.e_lk_l, Bx.e_mk_d, Bx.e_mk_i, Bx.e_mu, Bx.e_mu_ok, Bx.e_mu_x, Bx.e_mf1, Bx.e_mo, Bx.e_gd, Bx.e_put2, Bx.e_op, Bx.e_op_ok, Bx.e_op_x, Bx.e_fin, Bx.e_res, Bx.e_evO0, Bx.e_evOe, Bx.e_val, Bx.e_val_x, Bx.e_cons, Bx.e_cons_x, Bx.e_evOv, Bx.e_bor, Bx.e_resAll0, Bx.e_resAllv, Bx.e_resAllb, Bx.e_br, Bx.e_mapS, Bx.e_c, Bx.e_var, Bx.e_vari, Bx.e_pu_t, Bx.e_pu_f, Bx.e_b, Bx.e_b_ok, Bx.e_b_x, Bx.e_tr, Bx.e_tr_ok, Bx.e_true, Bx.e_truth, Bx.e_truth_b, Bx.e_andT, Bx.e_and_t, Bx.e_and_f, Bx.e_orT, Bx.e_or_t, Bx.e_or_f, Bx.e_notT, Bx.e_not_ok, Bx.e_notE, Bx.e_notE_ok, Bx.e_ifE, Bx.e_ifE_t, Bx.e_ifE_f, Bx.e_andE, Bx.e_andE_ok, Bx.e_andE_t, Bx.e_andE_f, Bx.e_orE, Bx.e_orE_ok, Bx.e_orE_t, Bx.e_orE_f, Bx.e_evA0, Bx.e_evA, Bx.e_A, Bx.e_A_x, Bx.e_ACons, Bx.e_ACons_x, Bx.e_tup, Bx.e_tup_ok, Bx.e_lst, Bx.e_lst_ok, Bx.e_disp, Bx.e_disp_ok, Bx.e_shr, Bx.e_shr_ok, Bx.e_call, Bx.e_call_ok, Bx.e_mv, Bx.e_rf, Bx.e_rf_x, Bx.e_wb, Bx.e_wx, Bx.e_mvv, Bx.e_mvf, Bx.e_mvb, Bx.e_mb, Bx.e_mv0, Bx.e_mapM, Bx.e_wb0, Bx.e_wbs, Bx.e_ws, Bx.e_wbn, Bx.e_p_int, Bx.e_p_str, Bx.e_p_bl, Bx.e_p_non, Bx.e_p_ref, Bx.e_p_ty, Bx.e_s_int, Bx.e_s_str, Bx.e_s_bl, Bx.e_s_non, Bx.e_for, Bx.e_for_ok, Bx.e_loop1, Bx.e_turn_nx, Bx.e_turn_rt, Bx.e_gN, Bx.d_rng1, Bx.d_rng2, Bx.d_seq, Bx.d_seq_ok, Bx.d_items, Bx.d_enum, Bx.d_enum_ok, Bx.d_zip, Bx.d_zip_ok, Bx.d_lc, Bx.d_lc_ok, Bx.d_lcE, Bx.d_par, Bx.d_par_ok, Bx.d_mte, Bx.d_mt_ok, Bx.d_mtv, Bx.d_mv_ok, Bx.d_chk, Bx.d_mc, Bx.e_pL, Bx.e_pT, Bx.d_sl, Bx.d_sl1, Bx.d_sl2, Bx.d_sl3, Bx.d_sl4, Bx.d_evPn, Bx.d_evPs, Bx.d_evPk, Bx.d_iI, Bx.d_iIk, Bx.d_ch, Bx.d_ch1, Bx.d_ch2, Bx.d_ch3f, Bx.d_ch3t, Bx.d_ch4, Bx.d_ch5, Bx.d_me, Bx.d_me1, Bx.d_me2, Bx.d_fld, Bx.d_fld1, Bx.d_rai, Bx.d_rai1, Bx.d_cv, Bx.d_cv1, Bx.d_cv2, Bx.d_yes, mkVw, takeP, wipeV, List.map_cons, List.map_nil, List.replicate_succ, List.replicate_zero, List.length_cons, List.length_nil, List.cons_append, List.nil_append, List.getElem?_cons_succ, List.getElem?_cons_zero, List.set_cons_zero, List.set_cons_succ, Nat.reduceAdd, Nat.reduceSub, Nat.reduceLT, Nat.lt_add_left_iff_pos, decide_true, decide_false, Bool.not_true, Bool.not_false, if_true, if_false, reduceIte, Bool.false_eq_true, Option.map_some, Option.map_none, Nat.zero_lt_succ, Nat.reduceLeDiff, eq_self, and_self, and_true, true_and, pn_cells, pn_at, pn_digits, pn_count, pn_fold, pn_has, pn_mk, pp_count, pp_at, pp_digits, pp_fold, o_add, o_sub, o_eq, o_lt, o_ge, o_int, o_mulC _ 70039 (by decide), o_mod _ 2147483353 (by decide), ck_len, ck_at _ _ ha, o_pow 10 18 (by decide), hl, hc, Int.reduceToNat, Int.reducePow]
    · have hl : ¬ (a : Int) < (cs.length : Int) := by omega
      refine tail a 0 f (by omega) h6 h7 _ (.inl ?_)
      simp (maxSteps := 400000) only [Bx.e_def, Bx.e_end_nx, Bx.e_end_rt, Bx.e_end_exc, Bx.e_retF, Bx.e_excF, Bx.e_seq, Bx.e_seq_nx, Bx.e_seq_rt, Bx.e_seq_bk, Bx.e_seq_ct, Bx.e_seq_exc, Bx.e_nx, Bx.e_bk, Bx.e_ct, Bx.e_retN, Bx.e_if, Bx.e_if_t, Bx.e_if_f, Bx.e_if_x, Bx.e_ret, Bx.e_ret_ok, Bx.e_ret_x, Bx.e_expr, Bx.e_expr_ok, Bx.e_expr_x, Bx.e_asg, Bx.e_asg_ok, Bx.e_asg_x, Bx.e_put, Bx.e_put1, Bx.e_hk1, Bx.e_mk_l, Bx.e_lk_l, Bx.e_mk_d, Bx.e_mk_i, Bx.e_mu, Bx.e_mu_ok, Bx.e_mu_x, Bx.e_mf1, Bx.e_mo, Bx.e_gd, Bx.e_put2, Bx.e_op, Bx.e_op_ok, Bx.e_op_x, Bx.e_fin, Bx.e_res, Bx.e_evO0, Bx.e_evOe, Bx.e_val, Bx.e_val_x, Bx.e_cons, Bx.e_cons_x, Bx.e_evOv, Bx.e_bor, Bx.e_resAll0, Bx.e_resAllv, Bx.e_resAllb, Bx.e_br, Bx.e_mapS, Bx.e_c, Bx.e_var, Bx.e_vari, Bx.e_pu_t, Bx.e_pu_f, Bx.e_b, Bx.e_b_ok, Bx.e_b_x, Bx.e_tr, Bx.e_tr_ok, Bx.e_true, Bx.e_truth, Bx.e_truth_b, Bx.e_andT, Bx.e_and_t, Bx.e_and_f, Bx.e_orT, Bx.e_or_t, Bx.e_or_f, Bx.e_notT, Bx.e_not_ok, Bx.e_notE, Bx.e_notE_ok, Bx.e_ifE, Bx.e_ifE_t, Bx.e_ifE_f, Bx.e_andE, Bx.e_andE_ok, Bx.e_andE_t, Bx.e_andE_f, Bx.e_orE, Bx.e_orE_ok, Bx.e_orE_t, Bx.e_orE_f, Bx.e_evA0, Bx.e_evA, Bx.e_A, Bx.e_A_x, Bx.e_ACons, Bx.e_ACons_x, Bx.e_tup, Bx.e_tup_ok, Bx.e_lst, Bx.e_lst_ok, Bx.e_disp, Bx.e_disp_ok, Bx.e_shr, Bx.e_shr_ok, Bx.e_call, Bx.e_call_ok, Bx.e_mv, Bx.e_rf, Bx.e_rf_x, Bx.e_wb, Bx.e_wx, Bx.e_mvv, Bx.e_mvf, Bx.e_mvb, Bx.e_mb, Bx.e_mv0, Bx.e_mapM, Bx.e_wb0, Bx.e_wbs, Bx.e_ws, Bx.e_wbn, Bx.e_p_int, Bx.e_p_str, Bx.e_p_bl, Bx.e_p_non, Bx.e_p_ref, Bx.e_p_ty, Bx.e_s_int, Bx.e_s_str, Bx.e_s_bl, Bx.e_s_non, Bx.e_for, Bx.e_for_ok, Bx.e_loop1, Bx.e_turn_nx, Bx.e_turn_rt, Bx.e_gN, Bx.d_rng1, Bx.d_rng2, Bx.d_seq, Bx.d_seq_ok, Bx.d_items, Bx.d_enum, Bx.d_enum_ok, Bx.d_zip, Bx.d_zip_ok, Bx.d_lc, Bx.d_lc_ok, Bx.d_lcE, Bx.d_par, Bx.d_par_ok, Bx.d_mte, Bx.d_mt_ok, Bx.d_mtv, Bx.d_mv_ok, Bx.d_chk, Bx.d_mc, Bx.e_pL, Bx.e_pT, Bx.d_sl, Bx.d_sl1, Bx.d_sl2, Bx.d_sl3, Bx.d_sl4, Bx.d_evPn, Bx.d_evPs, Bx.d_evPk, Bx.d_iI, Bx.d_iIk, Bx.d_ch, Bx.d_ch1, Bx.d_ch2, Bx.d_ch3f, Bx.d_ch3t, Bx.d_ch4, Bx.d_ch5, Bx.d_me, Bx.d_me1, Bx.d_me2, Bx.d_fld, Bx.d_fld1, Bx.d_rai, Bx.d_rai1, Bx.d_cv, Bx.d_cv1, Bx.d_cv2, Bx.d_yes, mkVw, takeP, wipeV, List.map_cons, List.map_nil, List.replicate_succ, List.replicate_zero, List.length_cons, List.length_nil, List.cons_append, List.nil_append, List.getElem?_cons_succ, List.getElem?_cons_zero, List.set_cons_zero, List.set_cons_succ, Nat.reduceAdd, Nat.reduceSub, Nat.reduceLT, Nat.lt_add_left_iff_pos, decide_true, decide_false, Bool.not_true, Bool.not_false, if_true, if_false, reduceIte, Bool.false_eq_true, Option.map_some, Option.map_none, Nat.zero_lt_succ, Nat.reduceLeDiff, eq_self, and_self, and_true, true_and, pn_cells, pn_at, pn_digits, pn_count, pn_fold, pn_has, pn_mk, o_eq, o_lt, ck_len, hl]
  · refine tail a d f h3 h6 h7 _ (.inl ?_)
    simp (maxSteps := 400000) only [Bx.e_def, Bx.e_end_nx, Bx.e_end_rt, Bx.e_end_exc, Bx.e_retF, Bx.e_excF, Bx.e_seq, Bx.e_seq_nx, Bx.e_seq_rt, Bx.e_seq_bk, Bx.e_seq_ct, Bx.e_seq_exc, Bx.e_nx, Bx.e_bk, Bx.e_ct, Bx.e_retN, Bx.e_if, Bx.e_if_t, Bx.e_if_f, Bx.e_if_x, Bx.e_ret, Bx.e_ret_ok, Bx.e_ret_x, Bx.e_expr, Bx.e_expr_ok, Bx.e_expr_x, Bx.e_asg, Bx.e_asg_ok, Bx.e_asg_x, Bx.e_put, Bx.e_put1, Bx.e_hk1, Bx.e_mk_l, Bx.e_lk_l, Bx.e_mk_d, Bx.e_mk_i, Bx.e_mu, Bx.e_mu_ok, Bx.e_mu_x, Bx.e_mf1, Bx.e_mo, Bx.e_gd, Bx.e_put2, Bx.e_op, Bx.e_op_ok, Bx.e_op_x, Bx.e_fin, Bx.e_res, Bx.e_evO0, Bx.e_evOe, Bx.e_val, Bx.e_val_x, Bx.e_cons, Bx.e_cons_x, Bx.e_evOv, Bx.e_bor, Bx.e_resAll0, Bx.e_resAllv, Bx.e_resAllb, Bx.e_br, Bx.e_mapS, Bx.e_c, Bx.e_var, Bx.e_vari, Bx.e_pu_t, Bx.e_pu_f, Bx.e_b, Bx.e_b_ok, Bx.e_b_x, Bx.e_tr, Bx.e_tr_ok, Bx.e_true, Bx.e_truth, Bx.e_truth_b, Bx.e_andT, Bx.e_and_t, Bx.e_and_f, Bx.e_orT, Bx.e_or_t, Bx.e_or_f, Bx.e_notT, Bx.e_not_ok, Bx.e_notE, Bx.e_notE_ok, Bx.e_ifE, Bx.e_ifE_t, Bx.e_ifE_f, Bx.e_andE, Bx.e_andE_ok, Bx.e_andE_t, Bx.e_andE_f, Bx.e_orE, Bx.e_orE_ok, Bx.e_orE_t, Bx.e_orE_f, Bx.e_evA0, Bx.e_evA, Bx.e_A, Bx.e_A_x, Bx.e_ACons, Bx.e_ACons_x, Bx.e_tup, Bx.e_tup_ok, Bx.e_lst, Bx.e_lst_ok, Bx.e_disp, Bx.e_disp_ok, Bx.e_shr, Bx.e_shr_ok, Bx.e_call, Bx.e_call_ok, Bx.e_mv, Bx.e_rf, Bx.e_rf_x, Bx.e_wb, Bx.e_wx, Bx.e_mvv, Bx.e_mvf, Bx.e_mvb, Bx.e_mb, Bx.e_mv0, Bx.e_mapM, Bx.e_wb0, Bx.e_wbs, Bx.e_ws, Bx.e_wbn, Bx.e_p_int, Bx.e_p_str, Bx.e_p_bl, Bx.e_p_non, Bx.e_p_ref, Bx.e_p_ty, Bx.e_s_int, Bx.e_s_str, Bx.e_s_bl, Bx.e_s_non, Bx.e_for, Bx.e_for_ok, Bx.e_loop1, Bx.e_turn_nx, Bx.e_turn_rt, Bx.e_gN, Bx.d_rng1, Bx.d_rng2, Bx.d_seq, Bx.d_seq_ok, Bx.d_items, Bx.d_enum, Bx.d_enum_ok, Bx.d_zip, Bx.d_zip_ok, Bx.d_lc, Bx.d_lc_ok, Bx.d_lcE, Bx.d_par, Bx.d_par_ok, Bx.d_mte, Bx.d_mt_ok, Bx.d_mtv, Bx.d_mv_ok, Bx.d_chk, Bx.d_mc, Bx.e_pL, Bx.e_pT, Bx.d_sl, Bx.d_sl1, Bx.d_sl2, Bx.d_sl3, Bx.d_sl4, Bx.d_evPn, Bx.d_evPs, Bx.d_evPk, Bx.d_iI, Bx.d_iIk, Bx.d_ch, Bx.d_ch1, Bx.d_ch2, Bx.d_ch3f, Bx.d_ch3t, Bx.d_ch4, Bx.d_ch5, Bx.d_me, Bx.d_me1, Bx.d_me2, Bx.d_fld, Bx.d_fld1, Bx.d_rai, Bx.d_rai1, Bx.d_cv, Bx.d_cv1, Bx.d_cv2, Bx.d_yes, mkVw, takeP, wipeV, List.map_cons, List.map_nil, List.replicate_succ, List.replicate_zero, List.length_cons, List.length_nil, List.cons_append, List.nil_append, List.getElem?_cons_succ, List.getElem?_cons_zero, List.set_cons_zero, List.set_cons_succ, Nat.reduceAdd, Nat.reduceSub, Nat.reduceLT, Nat.lt_add_left_iff_pos, decide_true, decide_false, Bool.not_true, Bool.not_false, if_true, if_false, reduceIte, Bool.false_eq_true, Option.map_some, Option.map_none, Nat.zero_lt_succ, Nat.reduceLeDiff, eq_self, and_self, and_true, true_and, pn_cells, pn_at, pn_digits, pn_count, pn_fold, pn_has, pn_mk, o_eq, hd]
theorem pick_l (K : PySem.W.Frag) {c : Nat} {p : PV} (hp : Pen c p) (hc : c < 1000000000000) (o : Bool) (xs : List PV) (hx : 0 < xs.length) (hx2 : xs.length < 1073741824) (hu : pures xs = true) :
    ∃ (k : Nat) (hk : k < xs.length) (p' : PV), D__law_pick K [p, .nd .lst o xs] = .ret xs[k] [p'] ∧ Pen (c + 1) p' := by
  obtain ⟨r, p', h1, h2, h3, h4⟩ := draw_ok K hp hc (xs.length : Int) (by omega) (by omega)
  obtain ⟨k, rfl⟩ := Int.eq_ofNat_of_zero_le h2
  have hk : k < xs.length := by omega
  refine ⟨k, hk, p', ?_, h4⟩
  unfold D__law_pick
  simp (maxSteps := 400000) only [Bx.e_def, Bx.e_end_nx, Bx.e_end_rt, Bx.e_end_exc, Bx.e_retF, Bx.e_excF, Bx.e_seq, Bx.e_seq_nx, Bx.e_seq_rt, Bx.e_seq_bk, Bx.e_seq_ct, Bx.e_seq_exc, Bx.e_nx, Bx.e_bk, Bx.e_ct, Bx.e_retN, Bx.e_if, Bx.e_if_t, Bx.e_if_f, Bx.e_if_x, Bx.e_ret, Bx.e_ret_ok, Bx.e_ret_x, Bx.e_expr, Bx.e_expr_ok, Bx.e_expr_x, Bx.e_asg, Bx.e_asg_ok, Bx.e_asg_x, Bx.e_put, Bx.e_put1, Bx.e_hk1, Bx.e_mk_l, Bx.e_lk_l, Bx.e_mk_d, Bx.e_mk_i, Bx.e_mu, Bx.e_mu_ok, Bx.e_mu_x, Bx.e_mf1, Bx.e_mo, Bx.e_gd, Bx.e_put2, Bx.e_op, Bx.e_op_ok, Bx.e_op_x, Bx.e_fin, Bx.e_res, Bx.e_evO0, Bx.e_evOe, Bx.e_val, Bx.e_val_x, Bx.e_cons, Bx.e_cons_x, Bx.e_evOv, Bx.e_bor, Bx.e_resAll0, Bx.e_resAllv, Bx.e_resAllb, Bx.e_br, Bx.e_mapS, Bx.e_c, Bx.e_var, Bx.e_vari, Bx.e_pu_t, Bx.e_pu_f, Bx.e_b, Bx.e_b_ok, Bx.e_b_x, Bx.e_tr, Bx.e_tr_ok, Bx.e_true, Bx.e_truth, Bx.e_truth_b, Bx.e_andT, Bx.e_and_t, Bx.e_and_f, Bx.e_orT, Bx.e_or_t, Bx.e_or_f, Bx.e_notT, Bx.e_not_ok, Bx.e_notE, Bx.e_notE_ok, Bx.e_ifE, Bx.e_ifE_t, Bx.e_ifE_f, Bx.e_andE, Bx.e_andE_ok, Bx.e_andE_t, Bx.e_andE_f, Bx.e_orE, Bx.e_orE_ok, Bx.e_orE_t, Bx.e_orE_f, Bx.e_evA0, Bx.e_evA, Bx.e_A, Bx.e_A_x, Bx.e_ACons, Bx.e_ACons_x, Bx.e_tup, Bx.e_tup_ok, Bx.e_lst, Bx.e_lst_ok, Bx.e_disp, Bx.e_disp_ok, Bx.e_shr, Bx.e_shr_ok, Bx.e_call, Bx.e_call_ok, Bx.e_mv, Bx.e_rf, Bx.e_rf_x, Bx.e_wb, Bx.e_wx, Bx.e_mvv, Bx.e_mvf, Bx.e_mvb, Bx.e_mb, Bx.e_mv0, Bx.e_mapM, Bx.e_wb0, Bx.e_wbs, Bx.e_ws, Bx.e_wbn, Bx.e_p_int, Bx.e_p_str, Bx.e_p_bl, Bx.e_p_non, Bx.e_p_ref, Bx.e_p_ty, Bx.e_s_int, Bx.e_s_str, Bx.e_s_bl, Bx.e_s_non, Bx.e_for, Bx.e_for_ok, Bx.e_loop1, Bx.e_turn_nx, Bx.e_turn_rt, Bx.e_gN, Bx.d_rng1, Bx.d_rng2, Bx.d_seq, Bx.d_seq_ok, Bx.d_items, Bx.d_enum, Bx.d_enum_ok, Bx.d_zip, Bx.d_zip_ok, Bx.d_lc, Bx.d_lc_ok, Bx.d_lcE, Bx.d_par, Bx.d_par_ok, Bx.d_mte, Bx.d_mt_ok, Bx.d_mtv, Bx.d_mv_ok, Bx.d_chk, Bx.d_mc, Bx.e_pL, Bx.e_pT, Bx.d_sl, Bx.d_sl1, Bx.d_sl2, Bx.d_sl3, Bx.d_sl4, Bx.d_evPn, Bx.d_evPs, Bx.d_evPk, Bx.d_iI, Bx.d_iIk, Bx.d_ch, Bx.d_ch1, Bx.d_ch2, Bx.d_ch3f, Bx.d_ch3t, Bx.d_ch4, Bx.d_ch5, Bx.d_me, Bx.d_me1, Bx.d_me2, Bx.d_fld, Bx.d_fld1, Bx.d_rai, Bx.d_rai1, Bx.d_cv, Bx.d_cv1, Bx.d_cv2, Bx.d_yes, mkVw, takeP, wipeV, List.map_cons, List.map_nil, List.replicate_succ, List.replicate_zero, List.length_cons, List.length_nil, List.cons_append, List.nil_append, List.getElem?_cons_succ, List.getElem?_cons_zero, List.set_cons_zero, List.set_cons_succ, Nat.reduceAdd, Nat.reduceSub, Nat.reduceLT, Nat.lt_add_left_iff_pos, decide_true, decide_false, Bool.not_true, Bool.not_false, if_true, if_false, reduceIte, Bool.false_eq_true, Option.map_some, Option.map_none, Nat.zero_lt_succ, Nat.reduceLeDiff, eq_self, and_self, and_true, true_and, j__law_pick, o_len_l, h1, o_ix_l o xs k hk (pures_get hu k hk)]
/-! ### the pen of a script -/
theorem pen_loop (scr : PV) : ∀ (ns : List Int) (f : Int) (o : Option PV), 0 ≤ f → f < 1000000321 → ∃ f' o', jLoop (gN 2) ((jAsg 1 (iOp opMod [(.e (iOp opInt [(.e (iOp opAdd [(.e (iOp opMul2 [(.v 1), (.e (iC (.int 109)))])), (.v 2)]))])), (.e (iC (.int 1000000321)))]))) (ns.map PV.int) [some scr, some (.int f), o] = .ok .nx [some scr, some (.int f'), o'] ∧ 0 ≤ f' ∧ f' < 1000000321
  | [], f, o, h1, h2 => ⟨f, o, rfl, h1, h2⟩
  | n :: ns, f, o, h1, h2 => by
    have e1 : ((jAsg 1 (iOp opMod [(.e (iOp opInt [(.e (iOp opAdd [(.e (iOp opMul2 [(.v 1), (.e (iC (.int 109)))])), (.v 2)]))])), (.e (iC (.int 1000000321)))]))) [some scr, some (.int f), some (.int n)] = .ok .nx [some scr, some (.int ((f * 109 + n).fmod 1000000321)), some (.int n)] := by
      simp (maxSteps := 400000) only [Bx.e_def, Bx.e_end_nx, Bx.e_end_rt, Bx.e_end_exc, Bx.e_retF, Bx.e_excF, Bx.e_seq, Bx.e_seq_nx, Bx.e_seq_rt, Bx.e_seq_bk, Bx.e_seq_ct, Bx.e_seq_exc, Bx.e_nx, Bx.e_bk, Bx.e_ct, Bx.e_retN, Bx.e_if, Bx.e_if_t, Bx.e_if_f, Bx.e_if_x, Bx.e_ret, Bx.e_ret_ok, Bx.e_ret_x, Bx.e_expr, Bx.e_expr_ok, Bx.e_expr_x, Bx.e_asg, Bx.e_asg_ok, Bx.e_asg_x, Bx.e_put, Bx.e_put1, Bx.e_hk1, Bx.e_mk_l, Bx.e_lk_l, Bx.e_mk_d, Bx.e_mk_i, Bx.e_mu, Bx.e_mu_ok, Bx.e_mu_x, Bx.e_mf1, Bx.e_mo, Bx.e_gd, Bx.e_put2, Bx.e_op, Bx.e_op_ok, Bx.e_op_x, Bx.e_fin, Bx.e_res, Bx.e_evO0, Bx.e_evOe, Bx.e_val, Bx.e_val_x, Bx.e_cons, Bx.e_cons_x, Bx.e_evOv, Bx.e_bor, Bx.e_resAll0, Bx.e_resAllv, Bx.e_resAllb, Bx.e_br, Bx.e_mapS, Bx.e_c, Bx.e_var, Bx.e_vari, Bx.e_pu_t, Bx.e_pu_f, Bx.e_b, Bx.e_b_ok, Bx.e_b_x, Bx.e_tr, Bx.e_tr_ok, Bx.e_true, Bx.e_truth, Bx.e_truth_b, Bx.e_andT, Bx.e_and_t, Bx.e_and_f, Bx.e_orT, Bx.e_or_t, Bx.e_or_f, Bx.e_notT, Bx.e_not_ok, Bx.e_notE, Bx.e_notE_ok, Bx.e_ifE, Bx.e_ifE_t, Bx.e_ifE_f, Bx.e_andE, Bx.e_andE_ok, Bx.e_andE_t, Bx.e_andE_f, Bx.e_orE, Bx.e_orE_ok, Bx.e_orE_t, Bx.e_orE_f, Bx.e_evA0, Bx.e_evA, Bx.e_A, Bx.e_A_x, Bx.e_ACons, Bx.e_ACons_x, Bx.e_tup, Bx.e_tup_ok, Bx.e_lst, Bx.e_lst_ok, Bx.e_disp, Bx.e_disp_ok, Bx.e_shr, Bx.e_shr_ok, Bx.e_call, Bx.e_call_ok, Bx.e_mv, Bx.e_rf, Bx.e_rf_x, Bx.e_wb, Bx.e_wx, Bx.e_mvv, Bx.e_mvf, Bx.e_mvb, Bx.e_mb, Bx.e_mv0, Bx.e_mapM, Bx.e_wb0, Bx.e_wbs, Bx.e_ws, Bx.e_wbn, Bx.e_p_int, Bx.e_p_str, Bx.e_p_bl, Bx.e_p_non, Bx.e_p_ref, Bx.e_p_ty, Bx.e_s_int, Bx.e_s_str, Bx.e_s_bl, Bx.e_s_non, Bx.e_for, Bx.e_for_ok, Bx.e_loop1, Bx.e_turn_nx, Bx.e_turn_rt, Bx.e_gN, Bx.d_rng1, Bx.d_rng2, Bx.d_seq, Bx.d_seq_ok, Bx.d_items, Bx.d_enum, Bx.d_enum_ok, Bx.d_zip, Bx.d_zip_ok, Bx.d_lc, Bx.d_lc_ok, Bx.d_lcE, Bx.d_par, Bx.d_par_ok, Bx.d_mte, Bx.d_mt_ok, Bx.d_mtv, Bx.d_mv_ok, Bx.d_chk, Bx.d_mc, Bx.e_pL, Bx.e_pT, Bx.d_sl, Bx.d_sl1, Bx.d_sl2, Bx.d_sl3, Bx.d_sl4, Bx.d_evPn, Bx.d_evPs, Bx.d_evPk, Bx.d_iI, Bx.d_iIk, Bx.d_ch, Bx.d_ch1, Bx.d_ch2, Bx.d_ch3f, Bx.d_ch3t, Bx.d_ch4, Bx.d_ch5, Bx.d_me, Bx.d_me1, Bx.d_me2, Bx.d_fld, Bx.d_fld1, Bx.d_rai, Bx.d_rai1, Bx.d_cv, Bx.d_cv1, Bx.d_cv2, Bx.d_yes, mkVw, takeP, wipeV, List.map_cons, List.map_nil, List.replicate_succ, List.replicate_zero, List.length_cons, List.length_nil, List.cons_append, List.nil_append, List.getElem?_cons_succ, List.getElem?_cons_zero, List.set_cons_zero, List.set_cons_succ, Nat.reduceAdd, Nat.reduceSub, Nat.reduceLT, Nat.lt_add_left_iff_pos, decide_true, decide_false, Bool.not_true, Bool.not_false, if_true, if_false, reduceIte, Bool.false_eq_true, Option.map_some, Option.map_none, Nat.zero_lt_succ, Nat.reduceLeDiff, eq_self, and_self, and_true, true_and, o_mulC f 109 (by decide), o_add, o_int, o_mod _ 1000000321 (by decide)]
    have p1 : 0 ≤ (f * 109 + n).fmod 1000000321 := by rw [Int.fmod_eq_emod_of_nonneg _ (by omega)]; exact Int.emod_nonneg _ (by omega)
    have p2 : (f * 109 + n).fmod 1000000321 < 1000000321 := by rw [Int.fmod_eq_emod_of_nonneg _ (by omega)]; exact Int.emod_lt_of_pos _ (by omega)
    obtain ⟨f', o', e2, q1, q2⟩ := pen_loop scr ns _ (some (.int n)) p1 p2
    refine ⟨f', o', ?_, q1, q2⟩
    rw [List.map_cons, e_loop]
    have e4 : gN 2 (.int n) [some scr, some (.int f), o] = some [some scr, some (.int f), some (.int n)] := rfl
    rw [e4, e_loop1, e1, e_turn_nx, e2]
theorem pen_ok (K : PySem.W.Frag) (ns : List Int) : ∃ p, D__law_pen K [scrP ns] = .ret p [] ∧ Pen 0 p := by
  obtain ⟨f', o', e, h1, h2⟩ := pen_loop (scrP ns) ns 19 none (by decide) (by decide)
  refine ⟨pen ns 0 0 0 f', ?_, ns, 0, 0, 0, f', rfl, by decide, by decide, by decide, h1, by omega⟩
  have hp : pures (ns.map PV.int) = true := pures_ints ns
  have hv : (scrP ns).pure = true := by unfold scrP; rw [PV.pure, hp]; rfl
  have it : itemsOf (scrP ns) = some (ns.map PV.int) := by
    letI : Tbs := ⟨[]⟩
    show some (shrs (ns.map PV.int)) = _
    rw [shrs_of_pure _ hp]
  have ls : opList [scrP ns] = some (L (ns.map PV.int)) := by
    show (if pures (ns.map PV.int) = true then some (L (ns.map PV.int)) else none) = _
    exact if_pos hp
  have sh := shr_L hp
  have fin : (PV.nd (.dk ([("cells" : Str), "at", "digits", "count", "fold"].map Sum.inr)) true [.nd .lst false (ns.map PV.int), .int 0, .int 0, .int 0, .int f']) = pen ns 0 0 0 f' := rfl
  unfold D__law_pen
  generalize pen ns 0 0 0 f' = P at *
  generalize ns.map PV.int = A at *
  generalize scrP ns = S at *
  have st : j__law_pen K [some S, none, none] = .ok (.rt P) [some S, some (.int f'), o'] := by
    unfold j__law_pen
    rw [e_seq]
    have s1 : jAsg 1 (iC (.int 19)) [some S, none, none] = .ok .nx [some S, some (.int 19), none] := rfl
    rw [s1, e_seq_nx, e_seq]
    have s2 : sSeq (iVar 0) [some S, some (.int 19), none] = .ok A [some S, some (.int 19), none] := by
      simp (maxSteps := 400000) only [Bx.e_def, Bx.e_end_nx, Bx.e_end_rt, Bx.e_end_exc, Bx.e_retF, Bx.e_excF, Bx.e_seq, Bx.e_seq_nx, Bx.e_seq_rt, Bx.e_seq_bk, Bx.e_seq_ct, Bx.e_seq_exc, Bx.e_nx, Bx.e_bk, Bx.e_ct, Bx.e_retN, Bx.e_if, Bx.e_if_t, Bx.e_if_f, Bx.e_if_x, Bx.e_ret, Bx.e_ret_ok, Bx.e_ret_x, Bx.e_expr, Bx.e_expr_ok, Bx.e_expr_x, Bx.e_asg, Bx.e_asg_ok, Bx.e_asg_x, Bx.e_put, Bx.e_put1, Bx.e_hk1, Bx.e_mk_l, Bx.e_lk_l, Bx.e_mk_d, Bx.e_mk_i, Bx.e_mu, Bx.e_mu_ok, Bx.e_mu_x, Bx.e_mf1, Bx.e_mo, Bx.e_gd, Bx.e_put2, Bx.e_op, Bx.e_op_ok, Bx.e_op_x, Bx.e_fin, Bx.e_res, Bx.e_evO0, Bx.e_evOe, Bx.e_val, Bx.e_val_x, Bx.e_cons, Bx.e_cons_x, Bx.e_evOv, Bx.e_bor, Bx.e_resAll0, Bx.e_resAllv, Bx.e_resAllb, Bx.e_br, Bx.e_mapS, Bx.e_c, Bx.e_var, Bx.e_vari, Bx.e_pu_t, Bx.e_pu_f, Bx.e_b, Bx.e_b_ok, Bx.e_b_x, Bx.e_tr, Bx.e_tr_ok, Bx.e_true, Bx.e_truth, Bx.e_truth_b, Bx.e_andT, Bx.e_and_t, Bx.e_and_f, Bx.e_orT, Bx.e_or_t, Bx.e_or_f, Bx.e_notT, Bx.e_not_ok, Bx.e_notE, Bx.e_notE_ok, Bx.e_ifE, Bx.e_ifE_t, Bx.e_ifE_f, Bx.e_andE, Bx.e_andE_ok, Bx.e_andE_t, Bx.e_andE_f, Bx.e_orE, Bx.e_orE_ok, Bx.e_orE_t, Bx.e_orE_f, Bx.e_evA0, Bx.e_evA, Bx.e_A, Bx.e_A_x, Bx.e_ACons, Bx.e_ACons_x, Bx.e_tup, Bx.e_tup_ok, Bx.e_lst, Bx.e_lst_ok, Bx.e_disp, Bx.e_disp_ok, Bx.e_shr, Bx.e_shr_ok, Bx.e_call, Bx.e_call_ok, Bx.e_mv, Bx.e_rf, Bx.e_rf_x, Bx.e_wb, Bx.e_wx, Bx.e_mvv, Bx.e_mvf, Bx.e_mvb, Bx.e_mb, Bx.e_mv0, Bx.e_mapM, Bx.e_wb0, Bx.e_wbs, Bx.e_ws, Bx.e_wbn, Bx.e_p_int, Bx.e_p_str, Bx.e_p_bl, Bx.e_p_non, Bx.e_p_ref, Bx.e_p_ty, Bx.e_s_int, Bx.e_s_str, Bx.e_s_bl, Bx.e_s_non, Bx.e_for, Bx.e_for_ok, Bx.e_loop1, Bx.e_turn_nx, Bx.e_turn_rt, Bx.e_gN, Bx.d_rng1, Bx.d_rng2, Bx.d_seq, Bx.d_seq_ok, Bx.d_items, Bx.d_enum, Bx.d_enum_ok, Bx.d_zip, Bx.d_zip_ok, Bx.d_lc, Bx.d_lc_ok, Bx.d_lcE, Bx.d_par, Bx.d_par_ok, Bx.d_mte, Bx.d_mt_ok, Bx.d_mtv, Bx.d_mv_ok, Bx.d_chk, Bx.d_mc, Bx.e_pL, Bx.e_pT, Bx.d_sl, Bx.d_sl1, Bx.d_sl2, Bx.d_sl3, Bx.d_sl4, Bx.d_evPn, Bx.d_evPs, Bx.d_evPk, Bx.d_iI, Bx.d_iIk, Bx.d_ch, Bx.d_ch1, Bx.d_ch2, Bx.d_ch3f, Bx.d_ch3t, Bx.d_ch4, Bx.d_ch5, Bx.d_me, Bx.d_me1, Bx.d_me2, Bx.d_fld, Bx.d_fld1, Bx.d_rai, Bx.d_rai1, Bx.d_cv, Bx.d_cv1, Bx.d_cv2, Bx.d_yes, mkVw, takeP, wipeV, List.map_cons, List.map_nil, List.replicate_succ, List.replicate_zero, List.length_cons, List.length_nil, List.cons_append, List.nil_append, List.getElem?_cons_succ, List.getElem?_cons_zero, List.set_cons_zero, List.set_cons_succ, Nat.reduceAdd, Nat.reduceSub, Nat.reduceLT, Nat.lt_add_left_iff_pos, decide_true, decide_false, Bool.not_true, Bool.not_false, if_true, if_false, reduceIte, Bool.false_eq_true, Option.map_some, Option.map_none, Nat.zero_lt_succ, Nat.reduceLeDiff, eq_self, and_self, and_true, true_and, hv, it]
    rw [e_for, s2, e_for_ok, e, e_seq_nx]
    simp (maxSteps := 400000) only [e_ret, e_disp, e_evA, e_shr, e_op, e_evOv, e_evO0, List.getElem?_cons_zero, List.getElem?_cons_succ, e_bor, e_cons, e_op_ok, e_resAllb, e_resAll0, e_br, e_mapS, e_fin, ls, e_res, e_shr_ok, sh, e_A, e_c, e_var, e_vari, e_p_int, e_pu_t, e_evA0, e_ACons, e_disp_ok, List.length_cons, List.length_nil, Nat.reduceAdd, if_true, e_ret_ok]
    rw [← fin]
  rw [e_def]
  show zEnd [false] (j__law_pen K [some S, none, none]) = _
  rw [st]
  rfl
end K01
set_option maxRecDepth 100000
set_option maxHeartbeats 4000000
set_option linter.all false
/-! K01b2: the drawn values of k01. -/
namespace K01
open PySem PySem.Spec PyProof.Rows Bx
open L2 (Key)
def VL : List PV := [.str "", .str "a", .int 0, .int (-1), .bl true, .non, T [], T [.str "a", .int 1], .nd .lst false [.int 1, .str "b"], .nd .lst false [], .int 10000000000000000000000000000000000000000, T [T [.str "x", .int 2], .non]]
theorem value_ok (K : PySem.W.Frag) {c : Nat} {p : PV} (hp : Pen c p) (hc : c < 1000000000000) : ∃ (k : Nat) (hk : k < VL.length) (p' : PV), D__law_value K [p] = .ret VL[k] [p'] ∧ Pen (c + 1) p' := by
  obtain ⟨k, hk, p', e, h⟩ := pick_l K hp hc false VL (by decide) (by decide) (by rfl)
  refine ⟨k, hk, p', ?_, h⟩
  have z : (iShr (iLst [(iC (.str "")), (iC (.str "a")), (iC (.int 0)), (iOp opNeg [(.e (iC (.int 1)))]), (iC (.bl true)), (iC .non), (iTup []), (iTup [(iC (.str "a")), (iC (.int 1))]), (iLst [(iC (.int 1)), (iC (.str "b"))]), (iLst []), (iOp opPow [(.e (iC (.int 10))), (.e (iC (.int 40)))]), (iTup [(iTup [(iC (.str "x")), (iC (.int 2))]), (iC .non)])])) [some p] = .ok (.nd .lst false VL) [some p] := by kernel_rfl
  unfold D__law_value j__law_value
  generalize VL[k] = Y at e ⊢
  generalize PV.nd .lst false VL = Z at *
  generalize iShr (iLst [(iC (.str "")), (iC (.str "a")), (iC (.int 0)), (iOp opNeg [(.e (iC (.int 1)))]), (iC (.bl true)), (iC .non), (iTup []), (iTup [(iC (.str "a")), (iC (.int 1))]), (iLst [(iC (.int 1)), (iC (.str "b"))]), (iLst []), (iOp opPow [(.e (iC (.int 10))), (.e (iC (.int 40)))]), (iTup [(iTup [(iC (.str "x")), (iC (.int 2))]), (iC .non)])]) = I at *
  simp (maxSteps := 400000) only [Bx.e_def, Bx.e_end_nx, Bx.e_end_rt, Bx.e_end_exc, Bx.e_retF, Bx.e_excF, Bx.e_seq, Bx.e_seq_nx, Bx.e_seq_rt, Bx.e_seq_bk, Bx.e_seq_ct, Bx.e_seq_exc, Bx.e_nx, Bx.e_bk, Bx.e_ct, Bx.e_retN, Bx.e_if, Bx.e_if_t, Bx.e_if_f, Bx.e_if_x, Bx.e_ret, Bx.e_ret_ok, Bx.e_ret_x, Bx.e_expr, Bx.e_expr_ok, Bx.e_expr_x, Bx.e_asg, Bx.e_asg_ok, Bx.e_asg_x, Bx.e_put, Bx.e_put1, Bx.e_hk1, Bx.e_mk_l, Bx.e_lk_l, Bx.e_mk_d, Bx.e_mk_i, Bx.e_mu, Bx.e_mu_ok, Bx.e_mu_x, Bx.e_mf1, Bx.e_mo, Bx.e_gd, Bx.e_put2, Bx.e_op, Bx.e_op_ok, Bx.e_op_x, Bx.e_fin, Bx.e_res, Bx.e_evO0, Bx.e_evOe, Bx.e_val, Bx.e_val_x, Bx.e_cons, Bx.e_cons_x, Bx.e_evOv, Bx.e_bor, Bx.e_resAll0, Bx.e_resAllv, Bx.e_resAllb, Bx.e_br, Bx.e_mapS, Bx.e_c, Bx.e_var, Bx.e_vari, Bx.e_pu_t, Bx.e_pu_f, Bx.e_b, Bx.e_b_ok, Bx.e_b_x, Bx.e_tr, Bx.e_tr_ok, Bx.e_true, Bx.e_truth, Bx.e_truth_b, Bx.e_andT, Bx.e_and_t, Bx.e_and_f, Bx.e_orT, Bx.e_or_t, Bx.e_or_f, Bx.e_notT, Bx.e_not_ok, Bx.e_notE, Bx.e_notE_ok, Bx.e_ifE, Bx.e_ifE_t, Bx.e_ifE_f, Bx.e_andE, Bx.e_andE_ok, Bx.e_andE_t, Bx.e_andE_f, Bx.e_orE, Bx.e_orE_ok, Bx.e_orE_t, Bx.e_orE_f, Bx.e_evA0, Bx.e_evA, Bx.e_A, Bx.e_A_x, Bx.e_ACons, Bx.e_ACons_x, Bx.e_tup, Bx.e_tup_ok, Bx.e_lst, Bx.e_lst_ok, Bx.e_disp, Bx.e_disp_ok, Bx.e_shr, Bx.e_shr_ok, Bx.e_call, Bx.e_call_ok, Bx.e_mv, Bx.e_rf, Bx.e_rf_x, Bx.e_wb, Bx.e_wx, Bx.e_mvv, Bx.e_mvf, Bx.e_mvb, Bx.e_mb, Bx.e_mv0, Bx.e_mapM, Bx.e_wb0, Bx.e_wbs, Bx.e_ws, Bx.e_wbn, Bx.e_p_int, Bx.e_p_str, Bx.e_p_bl, Bx.e_p_non, Bx.e_p_ref, Bx.e_p_ty, Bx.e_s_int, Bx.e_s_str, Bx.e_s_bl, Bx.e_s_non, Bx.e_for, Bx.e_for_ok, Bx.e_loop1, Bx.e_turn_nx, Bx.e_turn_rt, Bx.e_gN, Bx.d_rng1, Bx.d_rng2, Bx.d_seq, Bx.d_seq_ok, Bx.d_items, Bx.d_enum, Bx.d_enum_ok, Bx.d_zip, Bx.d_zip_ok, Bx.d_lc, Bx.d_lc_ok, Bx.d_lcE, Bx.d_par, Bx.d_par_ok, Bx.d_mte, Bx.d_mt_ok, Bx.d_mtv, Bx.d_mv_ok, Bx.d_chk, Bx.d_mc, Bx.e_pL, Bx.e_pT, Bx.d_sl, Bx.d_sl1, Bx.d_sl2, Bx.d_sl3, Bx.d_sl4, Bx.d_evPn, Bx.d_evPs, Bx.d_evPk, Bx.d_iI, Bx.d_iIk, Bx.d_ch, Bx.d_ch1, Bx.d_ch2, Bx.d_ch3f, Bx.d_ch3t, Bx.d_ch4, Bx.d_ch5, Bx.d_me, Bx.d_me1, Bx.d_me2, Bx.d_fld, Bx.d_fld1, Bx.d_rai, Bx.d_rai1, Bx.d_cv, Bx.d_cv1, Bx.d_cv2, Bx.d_yes, mkVw, takeP, wipeV, List.map_cons, List.map_nil, List.replicate_succ, List.replicate_zero, List.length_cons, List.length_nil, List.cons_append, List.nil_append, List.getElem?_cons_succ, List.getElem?_cons_zero, List.set_cons_zero, List.set_cons_succ, Nat.reduceAdd, Nat.reduceSub, Nat.reduceLT, Nat.lt_add_left_iff_pos, decide_true, decide_false, Bool.not_true, Bool.not_false, if_true, if_false, reduceIte, Bool.false_eq_true, Option.map_some, Option.map_none, Nat.zero_lt_succ, Nat.reduceLeDiff, eq_self, and_self, and_true, true_and, z, e]
end K01
set_option maxRecDepth 100000
set_option maxHeartbeats 4000000
set_option linter.all false
/-! K01b3: the made errors. -/
namespace K01
open PySem PySem.Spec PyProof.Rows Bx
open L2 (Key)
theorem shrs_pu {ps : List PV} (h : pures ps = true) : shrs ps = ps := by letI : Tbs := ⟨[]⟩; exact shrs_of_pure ps h
theorem evA_c {X : IE} {Xs : List IE} {vw : Vw} {p : PV} {ps : List PV} (h : X vw = .ok p vw) (hs : evA Xs vw = .ok ps vw) : evA (X :: Xs) vw = .ok (p :: ps) vw := by
  rw [e_evA, h, e_A, hs, e_ACons]
theorem evA_n {vw : Vw} : evA [] vw = .ok [] vw := rfl
theorem evA_txs (vw : Vw) : ∀ fs : List Str, evA (fs.map fun f => iC (.str f)) vw = .ok (txs fs) vw
  | [] => rfl
  | f :: fs => evA_c rfl (evA_txs vw fs)
theorem ixm (x : Str) (fs : List Str) {is : List IE} {vw : Vw} {ps : List PV} (h : evA is vw = .ok ps vw) (hp : pures ps = true) (hl : ps.length = fs.length) (hz : ps.length ≤ 1000) : iXmk x fs is vw = .ok (.nd (.xc x fs.reverse) false ps.reverse) vw := by
  unfold iXmk
  rw [h]
  show xmkFin x fs ps vw = _
  unfold xmkFin
  rw [if_pos ⟨hl, hz⟩, shrs_pu hp]
theorem itx (x : Str) (fs : List Str) {is : List IE} {vw : Vw} {ps : List PV} (h : evA is vw = .ok ps vw) (hp : pures ps = true) (hl : ps.length = fs.length) (hz : ps.length ≤ 1000) :
    iTup [iXmk x fs is, iLst (fs.map fun f => iC (.str f))] vw = .ok (T [.nd (.xc x fs.reverse) false ps.reverse, L (txs fs)]) vw := by
  have h2 : iLst (fs.map fun f => iC (.str f)) vw = .ok (L (txs fs)) vw := by
    rw [e_lst, evA_txs, e_lst_ok, txs_len, if_pos (Nat.le_trans (by omega : fs.length ≤ 1000) (by decide))]
  rw [e_tup, evA_c (ixm x fs h hp hl hz) (evA_c h2 evA_n), e_tup_ok]
  exact if_pos (show 2 ≤ sizeLine by decide)
theorem lstS {Xs : List IE} {vw : Vw} {ps : List PV} (h : evA Xs vw = .ok ps vw) (hz : ps.length ≤ 1000) : iShr (iLst Xs) vw = .ok (.nd .lst false (shrs ps)) vw := by
  rw [e_shr, e_lst, h, e_lst_ok, if_pos (Nat.le_trans hz (by decide)), e_shr_ok]; rfl
theorem pures1 {a : PV} (ha : a.pure = true) : pures [a] = true := by rw [pures, ha]; rfl
theorem pures2 {a b : PV} (ha : a.pure = true) (hb : b.pure = true) : pures [a, b] = true := by rw [pures, ha, pures1 hb]; rfl
theorem pures3 {a b c : PV} (ha : a.pure = true) (hb : b.pure = true) (hc : c.pure = true) : pures [a, b, c] = true := by rw [pures, ha, pures2 hb hc]; rfl
/-- an error beside its names, shared -/
theorem itm_shr (k : Kd) (ps : List PV) (fs : List Str) (h : pures ps = true) : (T [.nd k false ps, L (txs fs)]).shr = T [.nd k false ps, .nd .lst false (txs fs)] := by
  rw [T, PV.shr, shrs, shrs, shrs, PV.shr, shrs_pu h, L, PV.shr, shrs_pu (txs_pure fs)]
theorem itm_pure (k : Kd) (ps : List PV) (fs : List Str) (h : pures ps = true) : (T [.nd k false ps, .nd .lst false (txs fs)]).pure = true := by
  rw [T, PV.pure, pures, pures, pures, PV.pure, h, PV.pure, txs_pure]; rfl
section
variable (a b c : PV) (ha : a.pure = true) (hb : b.pure = true) (hc : c.pure = true)
include ha hb hc
theorem mk_BadText (o : Option PV) : (iTup [iXmk "BadText" ["line", "word"] [iVar 0, iVar 1], iLst [iC (.str "line"), iC (.str "word")]]) [some a, some b, some c, o] = .ok (T [(.nd (.xc "BadText" ["word", "line"]) false [b, a]), L (txs ["line", "word"])]) [some a, some b, some c, o] := by
  have v0 : ∀ o, iVar 0 [some a, some b, some c, o] = .ok a [some a, some b, some c, o] := fun o => by rw [e_var]; show zVar 0 (some (some a)) _ = _; rw [e_vari, ha, e_pu_t]
  have v1 : ∀ o, iVar 1 [some a, some b, some c, o] = .ok b [some a, some b, some c, o] := fun o => by rw [e_var]; show zVar 1 (some (some b)) _ = _; rw [e_vari, hb, e_pu_t]
  have v2 : ∀ o, iVar 2 [some a, some b, some c, o] = .ok c [some a, some b, some c, o] := fun o => by rw [e_var]; show zVar 2 (some (some c)) _ = _; rw [e_vari, hc, e_pu_t]
  exact itx "BadText" ["line", "word"] (evA_c (v0 o) (evA_c (v1 o) evA_n)) (pures2 ha hb) rfl (by simp)
theorem mk_BadName (o : Option PV) : (iTup [iXmk "BadName" ["name"] [iVar 0], iLst [iC (.str "name")]]) [some a, some b, some c, o] = .ok (T [(.nd (.xc "BadName" ["name"]) false [a]), L (txs ["name"])]) [some a, some b, some c, o] := by
  have v0 : ∀ o, iVar 0 [some a, some b, some c, o] = .ok a [some a, some b, some c, o] := fun o => by rw [e_var]; show zVar 0 (some (some a)) _ = _; rw [e_vari, ha, e_pu_t]
  have v1 : ∀ o, iVar 1 [some a, some b, some c, o] = .ok b [some a, some b, some c, o] := fun o => by rw [e_var]; show zVar 1 (some (some b)) _ = _; rw [e_vari, hb, e_pu_t]
  have v2 : ∀ o, iVar 2 [some a, some b, some c, o] = .ok c [some a, some b, some c, o] := fun o => by rw [e_var]; show zVar 2 (some (some c)) _ = _; rw [e_vari, hc, e_pu_t]
  exact itx "BadName" ["name"] (evA_c (v0 o) evA_n) (pures1 ha) rfl (by simp)
theorem mk_BadNumber (o : Option PV) : (iTup [iXmk "BadNumber" ["what", "number"] [iVar 0, iVar 1], iLst [iC (.str "what"), iC (.str "number")]]) [some a, some b, some c, o] = .ok (T [(.nd (.xc "BadNumber" ["number", "what"]) false [b, a]), L (txs ["what", "number"])]) [some a, some b, some c, o] := by
  have v0 : ∀ o, iVar 0 [some a, some b, some c, o] = .ok a [some a, some b, some c, o] := fun o => by rw [e_var]; show zVar 0 (some (some a)) _ = _; rw [e_vari, ha, e_pu_t]
  have v1 : ∀ o, iVar 1 [some a, some b, some c, o] = .ok b [some a, some b, some c, o] := fun o => by rw [e_var]; show zVar 1 (some (some b)) _ = _; rw [e_vari, hb, e_pu_t]
  have v2 : ∀ o, iVar 2 [some a, some b, some c, o] = .ok c [some a, some b, some c, o] := fun o => by rw [e_var]; show zVar 2 (some (some c)) _ = _; rw [e_vari, hc, e_pu_t]
  exact itx "BadNumber" ["what", "number"] (evA_c (v0 o) (evA_c (v1 o) evA_n)) (pures2 ha hb) rfl (by simp)
theorem mk_BadRow (o : Option PV) : (iTup [iXmk "BadRow" ["what", "row"] [iVar 0, iVar 1], iLst [iC (.str "what"), iC (.str "row")]]) [some a, some b, some c, o] = .ok (T [(.nd (.xc "BadRow" ["row", "what"]) false [b, a]), L (txs ["what", "row"])]) [some a, some b, some c, o] := by
  have v0 : ∀ o, iVar 0 [some a, some b, some c, o] = .ok a [some a, some b, some c, o] := fun o => by rw [e_var]; show zVar 0 (some (some a)) _ = _; rw [e_vari, ha, e_pu_t]
  have v1 : ∀ o, iVar 1 [some a, some b, some c, o] = .ok b [some a, some b, some c, o] := fun o => by rw [e_var]; show zVar 1 (some (some b)) _ = _; rw [e_vari, hb, e_pu_t]
  have v2 : ∀ o, iVar 2 [some a, some b, some c, o] = .ok c [some a, some b, some c, o] := fun o => by rw [e_var]; show zVar 2 (some (some c)) _ = _; rw [e_vari, hc, e_pu_t]
  exact itx "BadRow" ["what", "row"] (evA_c (v0 o) (evA_c (v1 o) evA_n)) (pures2 ha hb) rfl (by simp)
theorem mk_NoName (o : Option PV) : (iTup [iXmk "NoName" ["name"] [iVar 0], iLst [iC (.str "name")]]) [some a, some b, some c, o] = .ok (T [(.nd (.xc "NoName" ["name"]) false [a]), L (txs ["name"])]) [some a, some b, some c, o] := by
  have v0 : ∀ o, iVar 0 [some a, some b, some c, o] = .ok a [some a, some b, some c, o] := fun o => by rw [e_var]; show zVar 0 (some (some a)) _ = _; rw [e_vari, ha, e_pu_t]
  have v1 : ∀ o, iVar 1 [some a, some b, some c, o] = .ok b [some a, some b, some c, o] := fun o => by rw [e_var]; show zVar 1 (some (some b)) _ = _; rw [e_vari, hb, e_pu_t]
  have v2 : ∀ o, iVar 2 [some a, some b, some c, o] = .ok c [some a, some b, some c, o] := fun o => by rw [e_var]; show zVar 2 (some (some c)) _ = _; rw [e_vari, hc, e_pu_t]
  exact itx "NoName" ["name"] (evA_c (v0 o) evA_n) (pures1 ha) rfl (by simp)
theorem mk_TakenName (o : Option PV) : (iTup [iXmk "TakenName" ["name"] [iVar 0], iLst [iC (.str "name")]]) [some a, some b, some c, o] = .ok (T [(.nd (.xc "TakenName" ["name"]) false [a]), L (txs ["name"])]) [some a, some b, some c, o] := by
  have v0 : ∀ o, iVar 0 [some a, some b, some c, o] = .ok a [some a, some b, some c, o] := fun o => by rw [e_var]; show zVar 0 (some (some a)) _ = _; rw [e_vari, ha, e_pu_t]
  have v1 : ∀ o, iVar 1 [some a, some b, some c, o] = .ok b [some a, some b, some c, o] := fun o => by rw [e_var]; show zVar 1 (some (some b)) _ = _; rw [e_vari, hb, e_pu_t]
  have v2 : ∀ o, iVar 2 [some a, some b, some c, o] = .ok c [some a, some b, some c, o] := fun o => by rw [e_var]; show zVar 2 (some (some c)) _ = _; rw [e_vari, hc, e_pu_t]
  exact itx "TakenName" ["name"] (evA_c (v0 o) evA_n) (pures1 ha) rfl (by simp)
theorem mk_Unlike (o : Option PV) : (iTup [iXmk "Unlike" ["what"] [iVar 0], iLst [iC (.str "what")]]) [some a, some b, some c, o] = .ok (T [(.nd (.xc "Unlike" ["what"]) false [a]), L (txs ["what"])]) [some a, some b, some c, o] := by
  have v0 : ∀ o, iVar 0 [some a, some b, some c, o] = .ok a [some a, some b, some c, o] := fun o => by rw [e_var]; show zVar 0 (some (some a)) _ = _; rw [e_vari, ha, e_pu_t]
  have v1 : ∀ o, iVar 1 [some a, some b, some c, o] = .ok b [some a, some b, some c, o] := fun o => by rw [e_var]; show zVar 1 (some (some b)) _ = _; rw [e_vari, hb, e_pu_t]
  have v2 : ∀ o, iVar 2 [some a, some b, some c, o] = .ok c [some a, some b, some c, o] := fun o => by rw [e_var]; show zVar 2 (some (some c)) _ = _; rw [e_vari, hc, e_pu_t]
  exact itx "Unlike" ["what"] (evA_c (v0 o) evA_n) (pures1 ha) rfl (by simp)
theorem mk_NotThere (o : Option PV) : (iTup [iXmk "NotThere" ["what"] [iVar 0], iLst [iC (.str "what")]]) [some a, some b, some c, o] = .ok (T [(.nd (.xc "NotThere" ["what"]) false [a]), L (txs ["what"])]) [some a, some b, some c, o] := by
  have v0 : ∀ o, iVar 0 [some a, some b, some c, o] = .ok a [some a, some b, some c, o] := fun o => by rw [e_var]; show zVar 0 (some (some a)) _ = _; rw [e_vari, ha, e_pu_t]
  have v1 : ∀ o, iVar 1 [some a, some b, some c, o] = .ok b [some a, some b, some c, o] := fun o => by rw [e_var]; show zVar 1 (some (some b)) _ = _; rw [e_vari, hb, e_pu_t]
  have v2 : ∀ o, iVar 2 [some a, some b, some c, o] = .ok c [some a, some b, some c, o] := fun o => by rw [e_var]; show zVar 2 (some (some c)) _ = _; rw [e_vari, hc, e_pu_t]
  exact itx "NotThere" ["what"] (evA_c (v0 o) evA_n) (pures1 ha) rfl (by simp)
theorem mk_TooMany (o : Option PV) : (iTup [iXmk "TooMany" ["what", "many", "limit"] [iVar 0, iVar 1, iVar 2], iLst [iC (.str "what"), iC (.str "many"), iC (.str "limit")]]) [some a, some b, some c, o] = .ok (T [(.nd (.xc "TooMany" ["limit", "many", "what"]) false [c, b, a]), L (txs ["what", "many", "limit"])]) [some a, some b, some c, o] := by
  have v0 : ∀ o, iVar 0 [some a, some b, some c, o] = .ok a [some a, some b, some c, o] := fun o => by rw [e_var]; show zVar 0 (some (some a)) _ = _; rw [e_vari, ha, e_pu_t]
  have v1 : ∀ o, iVar 1 [some a, some b, some c, o] = .ok b [some a, some b, some c, o] := fun o => by rw [e_var]; show zVar 1 (some (some b)) _ = _; rw [e_vari, hb, e_pu_t]
  have v2 : ∀ o, iVar 2 [some a, some b, some c, o] = .ok c [some a, some b, some c, o] := fun o => by rw [e_var]; show zVar 2 (some (some c)) _ = _; rw [e_vari, hc, e_pu_t]
  exact itx "TooMany" ["what", "many", "limit"] (evA_c (v0 o) (evA_c (v1 o) (evA_c (v2 o) evA_n))) (pures3 ha hb hc) rfl (by simp)
theorem mk_NotKept (o : Option PV) : (iTup [iXmk "NotKept" ["promise", "witness"] [iVar 0, iVar 1], iLst [iC (.str "promise"), iC (.str "witness")]]) [some a, some b, some c, o] = .ok (T [(.nd (.xc "NotKept" ["witness", "promise"]) false [b, a]), L (txs ["promise", "witness"])]) [some a, some b, some c, o] := by
  have v0 : ∀ o, iVar 0 [some a, some b, some c, o] = .ok a [some a, some b, some c, o] := fun o => by rw [e_var]; show zVar 0 (some (some a)) _ = _; rw [e_vari, ha, e_pu_t]
  have v1 : ∀ o, iVar 1 [some a, some b, some c, o] = .ok b [some a, some b, some c, o] := fun o => by rw [e_var]; show zVar 1 (some (some b)) _ = _; rw [e_vari, hb, e_pu_t]
  have v2 : ∀ o, iVar 2 [some a, some b, some c, o] = .ok c [some a, some b, some c, o] := fun o => by rw [e_var]; show zVar 2 (some (some c)) _ = _; rw [e_vari, hc, e_pu_t]
  exact itx "NotKept" ["promise", "witness"] (evA_c (v0 o) (evA_c (v1 o) evA_n)) (pures2 ha hb) rfl (by simp)
theorem mks0 (o : Option PV) : iShr (iLst [iTup [iXmk "BadText" ["line", "word"] [iVar 0, iVar 1], iLst [iC (.str "line"), iC (.str "word")]], iTup [iXmk "BadName" ["name"] [iVar 0], iLst [iC (.str "name")]], iTup [iXmk "BadNumber" ["what", "number"] [iVar 0, iVar 1], iLst [iC (.str "what"), iC (.str "number")]]]) [some a, some b, some c, o] = .ok (.nd .lst false [(T [(.nd (.xc "BadText" ["word", "line"]) false [b, a]), .nd .lst false (txs ["line", "word"])]), (T [(.nd (.xc "BadName" ["name"]) false [a]), .nd .lst false (txs ["name"])]), (T [(.nd (.xc "BadNumber" ["number", "what"]) false [b, a]), .nd .lst false (txs ["what", "number"])])]) [some a, some b, some c, o] := by
  rw [lstS (evA_c (mk_BadText a b c ha hb hc o) (evA_c (mk_BadName a b c ha hb hc o) (evA_c (mk_BadNumber a b c ha hb hc o) evA_n))) (by simp), shrs, itm_shr _ _ _ (pures2 hb ha), shrs, itm_shr _ _ _ (pures1 ha), shrs, itm_shr _ _ _ (pures2 hb ha), shrs]
theorem mkp0 : pures [(T [(.nd (.xc "BadText" ["word", "line"]) false [b, a]), .nd .lst false (txs ["line", "word"])]), (T [(.nd (.xc "BadName" ["name"]) false [a]), .nd .lst false (txs ["name"])]), (T [(.nd (.xc "BadNumber" ["number", "what"]) false [b, a]), .nd .lst false (txs ["what", "number"])])] = true := by
  rw [pures, itm_pure _ _ _ (pures2 hb ha), pures, itm_pure _ _ _ (pures1 ha), pures, itm_pure _ _ _ (pures2 hb ha), pures]; rfl
theorem mks1 (o : Option PV) : iShr (iLst [iTup [iXmk "BadRow" ["what", "row"] [iVar 0, iVar 1], iLst [iC (.str "what"), iC (.str "row")]], iTup [iXmk "NoName" ["name"] [iVar 0], iLst [iC (.str "name")]], iTup [iXmk "TakenName" ["name"] [iVar 0], iLst [iC (.str "name")]]]) [some a, some b, some c, o] = .ok (.nd .lst false [(T [(.nd (.xc "BadRow" ["row", "what"]) false [b, a]), .nd .lst false (txs ["what", "row"])]), (T [(.nd (.xc "NoName" ["name"]) false [a]), .nd .lst false (txs ["name"])]), (T [(.nd (.xc "TakenName" ["name"]) false [a]), .nd .lst false (txs ["name"])])]) [some a, some b, some c, o] := by
  rw [lstS (evA_c (mk_BadRow a b c ha hb hc o) (evA_c (mk_NoName a b c ha hb hc o) (evA_c (mk_TakenName a b c ha hb hc o) evA_n))) (by simp), shrs, itm_shr _ _ _ (pures2 hb ha), shrs, itm_shr _ _ _ (pures1 ha), shrs, itm_shr _ _ _ (pures1 ha), shrs]
theorem mkp1 : pures [(T [(.nd (.xc "BadRow" ["row", "what"]) false [b, a]), .nd .lst false (txs ["what", "row"])]), (T [(.nd (.xc "NoName" ["name"]) false [a]), .nd .lst false (txs ["name"])]), (T [(.nd (.xc "TakenName" ["name"]) false [a]), .nd .lst false (txs ["name"])])] = true := by
  rw [pures, itm_pure _ _ _ (pures2 hb ha), pures, itm_pure _ _ _ (pures1 ha), pures, itm_pure _ _ _ (pures1 ha), pures]; rfl
theorem mks2 (o : Option PV) : iShr (iLst [iTup [iXmk "Unlike" ["what"] [iVar 0], iLst [iC (.str "what")]], iTup [iXmk "NotThere" ["what"] [iVar 0], iLst [iC (.str "what")]], iTup [iXmk "TooMany" ["what", "many", "limit"] [iVar 0, iVar 1, iVar 2], iLst [iC (.str "what"), iC (.str "many"), iC (.str "limit")]]]) [some a, some b, some c, o] = .ok (.nd .lst false [(T [(.nd (.xc "Unlike" ["what"]) false [a]), .nd .lst false (txs ["what"])]), (T [(.nd (.xc "NotThere" ["what"]) false [a]), .nd .lst false (txs ["what"])]), (T [(.nd (.xc "TooMany" ["limit", "many", "what"]) false [c, b, a]), .nd .lst false (txs ["what", "many", "limit"])])]) [some a, some b, some c, o] := by
  rw [lstS (evA_c (mk_Unlike a b c ha hb hc o) (evA_c (mk_NotThere a b c ha hb hc o) (evA_c (mk_TooMany a b c ha hb hc o) evA_n))) (by simp), shrs, itm_shr _ _ _ (pures1 ha), shrs, itm_shr _ _ _ (pures1 ha), shrs, itm_shr _ _ _ (pures3 hc hb ha), shrs]
theorem mkp2 : pures [(T [(.nd (.xc "Unlike" ["what"]) false [a]), .nd .lst false (txs ["what"])]), (T [(.nd (.xc "NotThere" ["what"]) false [a]), .nd .lst false (txs ["what"])]), (T [(.nd (.xc "TooMany" ["limit", "many", "what"]) false [c, b, a]), .nd .lst false (txs ["what", "many", "limit"])])] = true := by
  rw [pures, itm_pure _ _ _ (pures1 ha), pures, itm_pure _ _ _ (pures1 ha), pures, itm_pure _ _ _ (pures3 hc hb ha), pures]; rfl
theorem mks3 (o : Option PV) : iShr (iLst [iTup [iXmk "NotKept" ["promise", "witness"] [iVar 0, iVar 1], iLst [iC (.str "promise"), iC (.str "witness")]]]) [some a, some b, some c, o] = .ok (.nd .lst false [(T [(.nd (.xc "NotKept" ["witness", "promise"]) false [b, a]), .nd .lst false (txs ["promise", "witness"])])]) [some a, some b, some c, o] := by
  rw [lstS (evA_c (mk_NotKept a b c ha hb hc o) evA_n) (by simp), shrs, itm_shr _ _ _ (pures2 hb ha), shrs]
theorem mkp3 : pures [(T [(.nd (.xc "NotKept" ["witness", "promise"]) false [b, a]), .nd .lst false (txs ["promise", "witness"])])] = true := by
  rw [pures, itm_pure _ _ _ (pures2 hb ha), pures]; rfl
theorem made_ok (K : PySem.W.Frag) : D__law_made_errors K [a, b, c] = .ret (L [(T [(.nd (.xc "BadText" ["word", "line"]) false [b, a]), .nd .lst false (txs ["line", "word"])]), (T [(.nd (.xc "BadName" ["name"]) false [a]), .nd .lst false (txs ["name"])]), (T [(.nd (.xc "BadNumber" ["number", "what"]) false [b, a]), .nd .lst false (txs ["what", "number"])]), (T [(.nd (.xc "BadRow" ["row", "what"]) false [b, a]), .nd .lst false (txs ["what", "row"])]), (T [(.nd (.xc "NoName" ["name"]) false [a]), .nd .lst false (txs ["name"])]), (T [(.nd (.xc "TakenName" ["name"]) false [a]), .nd .lst false (txs ["name"])]), (T [(.nd (.xc "Unlike" ["what"]) false [a]), .nd .lst false (txs ["what"])]), (T [(.nd (.xc "NotThere" ["what"]) false [a]), .nd .lst false (txs ["what"])]), (T [(.nd (.xc "TooMany" ["limit", "many", "what"]) false [c, b, a]), .nd .lst false (txs ["what", "many", "limit"])]), (T [(.nd (.xc "NotKept" ["witness", "promise"]) false [b, a]), .nd .lst false (txs ["promise", "witness"])])]) [] := by
  have p0 := mkp0 a b c ha hb hc
  have p1 := mkp1 a b c ha hb hc
  have p2 := mkp2 a b c ha hb hc
  have p3 := mkp3 a b c ha hb hc
  obtain ⟨A0, g0⟩ : ∃ A : List PV, A = [(T [(.nd (.xc "BadText" ["word", "line"]) false [b, a]), .nd .lst false (txs ["line", "word"])]), (T [(.nd (.xc "BadName" ["name"]) false [a]), .nd .lst false (txs ["name"])]), (T [(.nd (.xc "BadNumber" ["number", "what"]) false [b, a]), .nd .lst false (txs ["what", "number"])])] := ⟨_, rfl⟩
  rw [← g0] at p0
  have e0 : ∀ o, _ = R.ok (PV.nd .lst false A0) _ := fun o => (mks0 a b c ha hb hc o).trans (by rw [g0])
  obtain ⟨A1, g1⟩ : ∃ A : List PV, A = [(T [(.nd (.xc "BadRow" ["row", "what"]) false [b, a]), .nd .lst false (txs ["what", "row"])]), (T [(.nd (.xc "NoName" ["name"]) false [a]), .nd .lst false (txs ["name"])]), (T [(.nd (.xc "TakenName" ["name"]) false [a]), .nd .lst false (txs ["name"])])] := ⟨_, rfl⟩
  rw [← g1] at p1
  have e1 : ∀ o, _ = R.ok (PV.nd .lst false A1) _ := fun o => (mks1 a b c ha hb hc o).trans (by rw [g1])
  obtain ⟨A2, g2⟩ : ∃ A : List PV, A = [(T [(.nd (.xc "Unlike" ["what"]) false [a]), .nd .lst false (txs ["what"])]), (T [(.nd (.xc "NotThere" ["what"]) false [a]), .nd .lst false (txs ["what"])]), (T [(.nd (.xc "TooMany" ["limit", "many", "what"]) false [c, b, a]), .nd .lst false (txs ["what", "many", "limit"])])] := ⟨_, rfl⟩
  rw [← g2] at p2
  have e2 : ∀ o, _ = R.ok (PV.nd .lst false A2) _ := fun o => (mks2 a b c ha hb hc o).trans (by rw [g2])
  obtain ⟨A3, g3⟩ : ∃ A : List PV, A = [(T [(.nd (.xc "NotKept" ["witness", "promise"]) false [b, a]), .nd .lst false (txs ["promise", "witness"])])] := ⟨_, rfl⟩
  rw [← g3] at p3
  have e3 : ∀ o, _ = R.ok (PV.nd .lst false A3) _ := fun o => (mks3 a b c ha hb hc o).trans (by rw [g3])
  have l0 : A0.length = 3 := by rw [g0]; rfl
  have l1 : A1.length = 3 := by rw [g1]; rfl
  have l2 : A2.length = 3 := by rw [g2]; rfl
  have l3 : A3.length = 1 := by rw [g3]; rfl
  have big : (10 : Nat) ≤ sizeLine := by decide
  have q01 : pures (A0 ++ A1) = true := by letI : Tbs := ⟨[]⟩; exact pures_append p0 p1
  have q02 : pures (A0 ++ A1 ++ A2) = true := by letI : Tbs := ⟨[]⟩; exact pures_append q01 p2
  have a1 : opAdd [.nd .lst false A0, .nd .lst false A1] = some (L (A0 ++ A1)) := o_add_l _ _ _ _ p0 p1 (by omega)
  have a2 : opAdd [L (A0 ++ A1), .nd .lst false A2] = some (L (A0 ++ A1 ++ A2)) := o_add_l _ _ _ _ q01 p2 (by rw [List.length_append]; omega)
  have a3 : opAdd [L (A0 ++ A1 ++ A2), .nd .lst false A3] = some (L (A0 ++ A1 ++ A2 ++ A3)) := o_add_l _ _ _ _ q02 p3 (by rw [List.length_append, List.length_append]; omega)
  have fin : L (A0 ++ A1 ++ A2 ++ A3) = L [(T [(.nd (.xc "BadText" ["word", "line"]) false [b, a]), .nd .lst false (txs ["line", "word"])]), (T [(.nd (.xc "BadName" ["name"]) false [a]), .nd .lst false (txs ["name"])]), (T [(.nd (.xc "BadNumber" ["number", "what"]) false [b, a]), .nd .lst false (txs ["what", "number"])]), (T [(.nd (.xc "BadRow" ["row", "what"]) false [b, a]), .nd .lst false (txs ["what", "row"])]), (T [(.nd (.xc "NoName" ["name"]) false [a]), .nd .lst false (txs ["name"])]), (T [(.nd (.xc "TakenName" ["name"]) false [a]), .nd .lst false (txs ["name"])]), (T [(.nd (.xc "Unlike" ["what"]) false [a]), .nd .lst false (txs ["what"])]), (T [(.nd (.xc "NotThere" ["what"]) false [a]), .nd .lst false (txs ["what"])]), (T [(.nd (.xc "TooMany" ["limit", "many", "what"]) false [c, b, a]), .nd .lst false (txs ["what", "many", "limit"])]), (T [(.nd (.xc "NotKept" ["witness", "promise"]) false [b, a]), .nd .lst false (txs ["promise", "witness"])])] := by rw [g0, g1, g2, g3]; rfl
  rw [← fin]
  unfold D__law_made_errors j__law_made_errors
  generalize iShr (iLst [iTup [iXmk "BadText" ["line", "word"] [iVar 0, iVar 1], iLst [iC (.str "line"), iC (.str "word")]], iTup [iXmk "BadName" ["name"] [iVar 0], iLst [iC (.str "name")]], iTup [iXmk "BadNumber" ["what", "number"] [iVar 0, iVar 1], iLst [iC (.str "what"), iC (.str "number")]]]) = I0 at *
  generalize iShr (iLst [iTup [iXmk "BadRow" ["what", "row"] [iVar 0, iVar 1], iLst [iC (.str "what"), iC (.str "row")]], iTup [iXmk "NoName" ["name"] [iVar 0], iLst [iC (.str "name")]], iTup [iXmk "TakenName" ["name"] [iVar 0], iLst [iC (.str "name")]]]) = I1 at *
  generalize iShr (iLst [iTup [iXmk "Unlike" ["what"] [iVar 0], iLst [iC (.str "what")]], iTup [iXmk "NotThere" ["what"] [iVar 0], iLst [iC (.str "what")]], iTup [iXmk "TooMany" ["what", "many", "limit"] [iVar 0, iVar 1, iVar 2], iLst [iC (.str "what"), iC (.str "many"), iC (.str "limit")]]]) = I2 at *
  generalize iShr (iLst [iTup [iXmk "NotKept" ["promise", "witness"] [iVar 0, iVar 1], iLst [iC (.str "promise"), iC (.str "witness")]]]) = I3 at *
  generalize L (A0 ++ A1) = B1 at *
  generalize L (A0 ++ A1 ++ A2) = B2 at *
  generalize L (A0 ++ A1 ++ A2 ++ A3) = B3 at *
  generalize PV.nd .lst false A0 = B0 at *
  generalize PV.nd .lst false A1 = C1 at *
  generalize PV.nd .lst false A2 = C2 at *
  generalize PV.nd .lst false A3 = C3 at *
  simp (maxSteps := 400000) only [Bx.e_def, Bx.e_end_nx, Bx.e_end_rt, Bx.e_end_exc, Bx.e_retF, Bx.e_excF, Bx.e_seq, Bx.e_seq_nx, Bx.e_seq_rt, Bx.e_seq_bk, Bx.e_seq_ct, Bx.e_seq_exc, Bx.e_nx, Bx.e_bk, Bx.e_ct, Bx.e_retN, Bx.e_if, Bx.e_if_t, Bx.e_if_f, Bx.e_if_x, Bx.e_ret, Bx.e_ret_ok, Bx.e_ret_x, Bx.e_expr, Bx.e_expr_ok, Bx.e_expr_x, Bx.e_asg, Bx.e_asg_ok, Bx.e_asg_x, Bx.e_put, Bx.e_put1, Bx.e_hk1, Bx.e_mk_l, Bx.e_lk_l, Bx.e_mk_d, Bx.e_mk_i, Bx.e_mu, Bx.e_mu_ok, Bx.e_mu_x, Bx.e_mf1, Bx.e_mo, Bx.e_gd, Bx.e_put2, Bx.e_op, Bx.e_op_ok, Bx.e_op_x, Bx.e_fin, Bx.e_res, Bx.e_evO0, Bx.e_evOe, Bx.e_val, Bx.e_val_x, Bx.e_cons, Bx.e_cons_x, Bx.e_evOv, Bx.e_bor, Bx.e_resAll0, Bx.e_resAllv, Bx.e_resAllb, Bx.e_br, Bx.e_mapS, Bx.e_c, Bx.e_var, Bx.e_vari, Bx.e_pu_t, Bx.e_pu_f, Bx.e_b, Bx.e_b_ok, Bx.e_b_x, Bx.e_tr, Bx.e_tr_ok, Bx.e_true, Bx.e_truth, Bx.e_truth_b, Bx.e_andT, Bx.e_and_t, Bx.e_and_f, Bx.e_orT, Bx.e_or_t, Bx.e_or_f, Bx.e_notT, Bx.e_not_ok, Bx.e_notE, Bx.e_notE_ok, Bx.e_ifE, Bx.e_ifE_t, Bx.e_ifE_f, Bx.e_andE, Bx.e_andE_ok, Bx.e_andE_t, Bx.e_andE_f, Bx.e_orE, Bx.e_orE_ok, Bx.e_orE_t, Bx.e_orE_f, Bx.e_evA0, Bx.e_evA, Bx.e_A, Bx.e_A_x, Bx.e_ACons, Bx.e_ACons_x, Bx.e_tup, Bx.e_tup_ok, Bx.e_lst, Bx.e_lst_ok, Bx.e_disp, Bx.e_disp_ok, Bx.e_shr, Bx.e_shr_ok, Bx.e_call, Bx.e_call_ok, Bx.e_mv, Bx.e_rf, Bx.e_rf_x, Bx.e_wb, Bx.e_wx, Bx.e_mvv, Bx.e_mvf, Bx.e_mvb, Bx.e_mb, Bx.e_mv0, Bx.e_mapM, Bx.e_wb0, Bx.e_wbs, Bx.e_ws, Bx.e_wbn, Bx.e_p_int, Bx.e_p_str, Bx.e_p_bl, Bx.e_p_non, Bx.e_p_ref, Bx.e_p_ty, Bx.e_s_int, Bx.e_s_str, Bx.e_s_bl, Bx.e_s_non, Bx.e_for, Bx.e_for_ok, Bx.e_loop1, Bx.e_turn_nx, Bx.e_turn_rt, Bx.e_gN, Bx.d_rng1, Bx.d_rng2, Bx.d_seq, Bx.d_seq_ok, Bx.d_items, Bx.d_enum, Bx.d_enum_ok, Bx.d_zip, Bx.d_zip_ok, Bx.d_lc, Bx.d_lc_ok, Bx.d_lcE, Bx.d_par, Bx.d_par_ok, Bx.d_mte, Bx.d_mt_ok, Bx.d_mtv, Bx.d_mv_ok, Bx.d_chk, Bx.d_mc, Bx.e_pL, Bx.e_pT, Bx.d_sl, Bx.d_sl1, Bx.d_sl2, Bx.d_sl3, Bx.d_sl4, Bx.d_evPn, Bx.d_evPs, Bx.d_evPk, Bx.d_iI, Bx.d_iIk, Bx.d_ch, Bx.d_ch1, Bx.d_ch2, Bx.d_ch3f, Bx.d_ch3t, Bx.d_ch4, Bx.d_ch5, Bx.d_me, Bx.d_me1, Bx.d_me2, Bx.d_fld, Bx.d_fld1, Bx.d_rai, Bx.d_rai1, Bx.d_cv, Bx.d_cv1, Bx.d_cv2, Bx.d_yes, mkVw, takeP, wipeV, List.map_cons, List.map_nil, List.replicate_succ, List.replicate_zero, List.length_cons, List.length_nil, List.cons_append, List.nil_append, List.getElem?_cons_succ, List.getElem?_cons_zero, List.set_cons_zero, List.set_cons_succ, Nat.reduceAdd, Nat.reduceSub, Nat.reduceLT, Nat.lt_add_left_iff_pos, decide_true, decide_false, Bool.not_true, Bool.not_false, if_true, if_false, reduceIte, Bool.false_eq_true, Option.map_some, Option.map_none, Nat.zero_lt_succ, Nat.reduceLeDiff, eq_self, and_self, and_true, true_and, e0, e1, e2, e3, a1, a2, a3]
end
end K01
set_option maxRecDepth 100000
set_option maxHeartbeats 4000000
set_option linter.all false
/-! K01b4: fields and kinds of the made errors. -/
namespace K01
open PySem PySem.Spec PyProof.Rows Bx
open L2 (Key)
def fldB (K : PySem.W.Frag) : IS := (jIf (iB (iOp opEq [(.v 3), (.e (iC (.str "line")))])) (jExpr (iMu muAppend isLK 2 [(iOp (opXf ["BadText"] "line") [(.v 0)])])) (jIf (iB (iOp opEq [(.v 3), (.e (iC (.str "word")))])) (jExpr (iMu muAppend isLK 2 [(iOp (opXf ["BadText"] "word") [(.v 0)])])) (jIf (iB (iOp opEq [(.v 3), (.e (iC (.str "name")))])) (jExpr (iMu muAppend isLK 2 [(iOp (opXf ["BadName", "NoName", "TakenName"] "name") [(.v 0)])])) (jIf (iB (iOp opEq [(.v 3), (.e (iC (.str "what")))])) (jExpr (iMu muAppend isLK 2 [(iOp (opXf ["BadNumber", "BadRow", "Unlike", "NotThere", "TooMany"] "what") [(.v 0)])])) (jIf (iB (iOp opEq [(.v 3), (.e (iC (.str "number")))])) (jExpr (iMu muAppend isLK 2 [(iOp (opXf ["BadNumber"] "number") [(.v 0)])])) (jIf (iB (iOp opEq [(.v 3), (.e (iC (.str "row")))])) (jExpr (iMu muAppend isLK 2 [(iOp (opXf ["BadRow"] "row") [(.v 0)])])) (jIf (iB (iOp opEq [(.v 3), (.e (iC (.str "many")))])) (jExpr (iMu muAppend isLK 2 [(iOp (opXf ["TooMany"] "many") [(.v 0)])])) (jIf (iB (iOp opEq [(.v 3), (.e (iC (.str "limit")))])) (jExpr (iMu muAppend isLK 2 [(iOp (opXf ["TooMany"] "limit") [(.v 0)])])) (jIf (iB (iOp opEq [(.v 3), (.e (iC (.str "promise")))])) (jExpr (iMu muAppend isLK 2 [(iOp (opXf ["NotKept"] "promise") [(.v 0)])])) (jExpr (iMu muAppend isLK 2 [(iOp (opXf ["NotKept"] "witness") [(.v 0)])])))))))))))
theorem app_ok (op : List PV → Option PV) (p nm y v : PV) (fd : List PV) (h : op [p] = some v) (hf : fd.length < 100) : jExpr (iMu muAppend isLK 2 [(iOp op [(.v 0)])]) [some p, some nm, some (L fd), some y] = .ok .nx [some p, some nm, some (L (fd ++ [v])), some y] := by
  have hz : fd.length < sizeLine := Nat.lt_of_lt_of_le hf (by decide)
  simp (maxSteps := 400000) only [Bx.e_def, Bx.e_end_nx, Bx.e_end_rt, Bx.e_end_exc, Bx.e_retF, Bx.e_excF, Bx.e_seq, Bx.e_seq_nx, Bx.e_seq_rt, Bx.e_seq_bk, Bx.e_seq_ct, Bx.e_seq_exc, Bx.e_nx, Bx.e_bk, Bx.e_ct, Bx.e_retN, Bx.e_if, Bx.e_if_t, Bx.e_if_f, Bx.e_if_x, Bx.e_ret, Bx.e_ret_ok, Bx.e_ret_x, Bx.e_expr, Bx.e_expr_ok, Bx.e_expr_x, Bx.e_asg, Bx.e_asg_ok, Bx.e_asg_x, Bx.e_put, Bx.e_put1, Bx.e_hk1, Bx.e_mk_l, Bx.e_lk_l, Bx.e_mk_d, Bx.e_mk_i, Bx.e_mu, Bx.e_mu_ok, Bx.e_mu_x, Bx.e_mf1, Bx.e_mo, Bx.e_gd, Bx.e_put2, Bx.e_op, Bx.e_op_ok, Bx.e_op_x, Bx.e_fin, Bx.e_res, Bx.e_evO0, Bx.e_evOe, Bx.e_val, Bx.e_val_x, Bx.e_cons, Bx.e_cons_x, Bx.e_evOv, Bx.e_bor, Bx.e_resAll0, Bx.e_resAllv, Bx.e_resAllb, Bx.e_br, Bx.e_mapS, Bx.e_c, Bx.e_var, Bx.e_vari, Bx.e_pu_t, Bx.e_pu_f, Bx.e_b, Bx.e_b_ok, Bx.e_b_x, Bx.e_tr, Bx.e_tr_ok, Bx.e_true, Bx.e_truth, Bx.e_truth_b, Bx.e_andT, Bx.e_and_t, Bx.e_and_f, Bx.e_orT, Bx.e_or_t, Bx.e_or_f, Bx.e_notT, Bx.e_not_ok, Bx.e_notE, Bx.e_notE_ok, Bx.e_ifE, Bx.e_ifE_t, Bx.e_ifE_f, Bx.e_andE, Bx.e_andE_ok, Bx.e_andE_t, Bx.e_andE_f, Bx.e_orE, Bx.e_orE_ok, Bx.e_orE_t, Bx.e_orE_f, Bx.e_evA0, Bx.e_evA, Bx.e_A, Bx.e_A_x, Bx.e_ACons, Bx.e_ACons_x, Bx.e_tup, Bx.e_tup_ok, Bx.e_lst, Bx.e_lst_ok, Bx.e_disp, Bx.e_disp_ok, Bx.e_shr, Bx.e_shr_ok, Bx.e_call, Bx.e_call_ok, Bx.e_mv, Bx.e_rf, Bx.e_rf_x, Bx.e_wb, Bx.e_wx, Bx.e_mvv, Bx.e_mvf, Bx.e_mvb, Bx.e_mb, Bx.e_mv0, Bx.e_mapM, Bx.e_wb0, Bx.e_wbs, Bx.e_ws, Bx.e_wbn, Bx.e_p_int, Bx.e_p_str, Bx.e_p_bl, Bx.e_p_non, Bx.e_p_ref, Bx.e_p_ty, Bx.e_s_int, Bx.e_s_str, Bx.e_s_bl, Bx.e_s_non, Bx.e_for, Bx.e_for_ok, Bx.e_loop1, Bx.e_turn_nx, Bx.e_turn_rt, Bx.e_gN, Bx.d_rng1, Bx.d_rng2, Bx.d_seq, Bx.d_seq_ok, Bx.d_items, Bx.d_enum, Bx.d_enum_ok, Bx.d_zip, Bx.d_zip_ok, Bx.d_lc, Bx.d_lc_ok, Bx.d_lcE, Bx.d_par, Bx.d_par_ok, Bx.d_mte, Bx.d_mt_ok, Bx.d_mtv, Bx.d_mv_ok, Bx.d_chk, Bx.d_mc, Bx.e_pL, Bx.e_pT, Bx.d_sl, Bx.d_sl1, Bx.d_sl2, Bx.d_sl3, Bx.d_sl4, Bx.d_evPn, Bx.d_evPs, Bx.d_evPk, Bx.d_iI, Bx.d_iIk, Bx.d_ch, Bx.d_ch1, Bx.d_ch2, Bx.d_ch3f, Bx.d_ch3t, Bx.d_ch4, Bx.d_ch5, Bx.d_me, Bx.d_me1, Bx.d_me2, Bx.d_fld, Bx.d_fld1, Bx.d_rai, Bx.d_rai1, Bx.d_cv, Bx.d_cv1, Bx.d_cv2, Bx.d_yes, mkVw, takeP, wipeV, List.map_cons, List.map_nil, List.replicate_succ, List.replicate_zero, List.length_cons, List.length_nil, List.cons_append, List.nil_append, List.getElem?_cons_succ, List.getElem?_cons_zero, List.set_cons_zero, List.set_cons_succ, Nat.reduceAdd, Nat.reduceSub, Nat.reduceLT, Nat.lt_add_left_iff_pos, decide_true, decide_false, Bool.not_true, Bool.not_false, if_true, if_false, reduceIte, Bool.false_eq_true, Option.map_some, Option.map_none, Nat.zero_lt_succ, Nat.reduceLeDiff, eq_self, and_self, and_true, true_and, Bx.e_hk, Bx.e_mf, L, h, o_append _ fd hz]
def StepF (K : PySem.W.Frag) (p : PV) (y : Str) (v : PV) : Prop := ∀ (nm : PV) (fd : List PV), fd.length < 100 → fldB K [some p, some nm, some (L fd), some (.str y)] = .ok .nx [some p, some nm, some (L (fd ++ [v])), some (.str y)]
theorem fields_loop (K : PySem.W.Frag) (p nm : PV) : ∀ (ys : List (Str × PV)) (fd : List PV) (o : Option PV), (∀ q ∈ ys, StepF K p q.1 q.2) → fd.length + ys.length < 100 → ∃ o', jLoop (gN 3) (fldB K) (txs (ys.map (·.1))) [some p, some nm, some (L fd), o] = .ok .nx [some p, some nm, some (L (fd ++ ys.map (·.2))), o']
  | [], fd, o, h, hl => ⟨o, by rw [show fd ++ List.map (fun q : Str × PV => q.2) [] = fd from List.append_nil fd]; rfl⟩
  | q :: ys, fd, o, h, hl => by
    rw [List.length_cons] at hl
    obtain ⟨o', e⟩ := fields_loop K p nm ys (fd ++ [q.2]) (some (.str q.1)) (fun z hz => h z (List.mem_cons_of_mem _ hz)) (by rw [List.length_append]; simp; omega)
    refine ⟨o', ?_⟩
    have s := h q List.mem_cons_self nm fd (by omega)
    show jLoop (gN 3) (fldB K) (.str q.1 :: txs (ys.map (·.1))) _ = _
    have e4 : gN 3 (.str q.1) [some p, some nm, some (L fd), o] = some [some p, some nm, some (L fd), some (.str q.1)] := rfl
    rw [e_loop, e4, e_loop1, s, e_turn_nx, e, List.append_assoc]
    rfl
theorem fields_ok (K : PySem.W.Frag) (p : PV) (ys : List (Str × PV)) (h : ∀ q ∈ ys, StepF K p q.1 q.2) (hl : ys.length < 100) (hv : pures (ys.map (·.2)) = true) : D__law_fields K [p, .nd .lst false (txs (ys.map (·.1)))] = .ret (.nd .lst false (ys.map (·.2))) [] := by
  obtain ⟨o', e⟩ := fields_loop K p (.nd .lst false (txs (ys.map (·.1)))) ys [] none h (by simpa using hl)
  have hp : pures (txs (ys.map (·.1))) = true := txs_pure _
  have hq : (PV.nd .lst false (txs (ys.map (·.1)))).pure = true := by rw [PV.pure, hp]; rfl
  have it := itemsOf_l false (txs (ys.map (·.1))) hp
  have z0 : (0 : Nat) ≤ sizeLine := Nat.zero_le _
  rw [List.nil_append] at e
  unfold fldB at e
  unfold D__law_fields j__law_fields
  generalize txs (ys.map (·.1)) = A at *
  generalize ys.map (·.2) = B at *
  generalize PV.nd .lst false A = C at *
  rw [e_def]
  show zEnd [false, false] (jSeq _ _ [some p, some C, none, none]) = _
  have s0 : jAsg 2 (iLst []) [some p, some C, none, none] = .ok .nx [some p, some C, some (L []), none] := by
    simp (maxSteps := 400000) only [Bx.e_def, Bx.e_end_nx, Bx.e_end_rt, Bx.e_end_exc, Bx.e_retF, Bx.e_excF, Bx.e_seq, Bx.e_seq_nx, Bx.e_seq_rt, Bx.e_seq_bk, Bx.e_seq_ct, Bx.e_seq_exc, Bx.e_nx, Bx.e_bk, Bx.e_ct, Bx.e_retN, Bx.e_if, Bx.e_if_t, Bx.e_if_f, Bx.e_if_x, Bx.e_ret, Bx.e_ret_ok, Bx.e_ret_x, Bx.e_expr, Bx.e_expr_ok, Bx.e_expr_x, Bx.e_asg, Bx.e_asg_ok, Bx.e_asg_x, Bx.e_put, Bx.e_put1, Bx.e_hk1, Bx.e_mk_l, Bx.e_lk_l, Bx.e_mk_d, Bx.e_mk_i, Bx.e_mu, Bx.e_mu_ok, Bx.e_mu_x, Bx.e_mf1, Bx.e_mo, Bx.e_gd, Bx.e_put2, Bx.e_op, Bx.e_op_ok, Bx.e_op_x, Bx.e_fin, Bx.e_res, Bx.e_evO0, Bx.e_evOe, Bx.e_val, Bx.e_val_x, Bx.e_cons, Bx.e_cons_x, Bx.e_evOv, Bx.e_bor, Bx.e_resAll0, Bx.e_resAllv, Bx.e_resAllb, Bx.e_br, Bx.e_mapS, Bx.e_c, Bx.e_var, Bx.e_vari, Bx.e_pu_t, Bx.e_pu_f, Bx.e_b, Bx.e_b_ok, Bx.e_b_x, Bx.e_tr, Bx.e_tr_ok, Bx.e_true, Bx.e_truth, Bx.e_truth_b, Bx.e_andT, Bx.e_and_t, Bx.e_and_f, Bx.e_orT, Bx.e_or_t, Bx.e_or_f, Bx.e_notT, Bx.e_not_ok, Bx.e_notE, Bx.e_notE_ok, Bx.e_ifE, Bx.e_ifE_t, Bx.e_ifE_f, Bx.e_andE, Bx.e_andE_ok, Bx.e_andE_t, Bx.e_andE_f, Bx.e_orE, Bx.e_orE_ok, Bx.e_orE_t, Bx.e_orE_f, Bx.e_evA0, Bx.e_evA, Bx.e_A, Bx.e_A_x, Bx.e_ACons, Bx.e_ACons_x, Bx.e_tup, Bx.e_tup_ok, Bx.e_lst, Bx.e_lst_ok, Bx.e_disp, Bx.e_disp_ok, Bx.e_shr, Bx.e_shr_ok, Bx.e_call, Bx.e_call_ok, Bx.e_mv, Bx.e_rf, Bx.e_rf_x, Bx.e_wb, Bx.e_wx, Bx.e_mvv, Bx.e_mvf, Bx.e_mvb, Bx.e_mb, Bx.e_mv0, Bx.e_mapM, Bx.e_wb0, Bx.e_wbs, Bx.e_ws, Bx.e_wbn, Bx.e_p_int, Bx.e_p_str, Bx.e_p_bl, Bx.e_p_non, Bx.e_p_ref, Bx.e_p_ty, Bx.e_s_int, Bx.e_s_str, Bx.e_s_bl, Bx.e_s_non, Bx.e_for, Bx.e_for_ok, Bx.e_loop1, Bx.e_turn_nx, Bx.e_turn_rt, Bx.e_gN, Bx.d_rng1, Bx.d_rng2, Bx.d_seq, Bx.d_seq_ok, Bx.d_items, Bx.d_enum, Bx.d_enum_ok, Bx.d_zip, Bx.d_zip_ok, Bx.d_lc, Bx.d_lc_ok, Bx.d_lcE, Bx.d_par, Bx.d_par_ok, Bx.d_mte, Bx.d_mt_ok, Bx.d_mtv, Bx.d_mv_ok, Bx.d_chk, Bx.d_mc, Bx.e_pL, Bx.e_pT, Bx.d_sl, Bx.d_sl1, Bx.d_sl2, Bx.d_sl3, Bx.d_sl4, Bx.d_evPn, Bx.d_evPs, Bx.d_evPk, Bx.d_iI, Bx.d_iIk, Bx.d_ch, Bx.d_ch1, Bx.d_ch2, Bx.d_ch3f, Bx.d_ch3t, Bx.d_ch4, Bx.d_ch5, Bx.d_me, Bx.d_me1, Bx.d_me2, Bx.d_fld, Bx.d_fld1, Bx.d_rai, Bx.d_rai1, Bx.d_cv, Bx.d_cv1, Bx.d_cv2, Bx.d_yes, mkVw, takeP, wipeV, List.map_cons, List.map_nil, List.replicate_succ, List.replicate_zero, List.length_cons, List.length_nil, List.cons_append, List.nil_append, List.getElem?_cons_succ, List.getElem?_cons_zero, List.set_cons_zero, List.set_cons_succ, Nat.reduceAdd, Nat.reduceSub, Nat.reduceLT, Nat.lt_add_left_iff_pos, decide_true, decide_false, Bool.not_true, Bool.not_false, if_true, if_false, reduceIte, Bool.false_eq_true, Option.map_some, Option.map_none, Nat.zero_lt_succ, Nat.reduceLeDiff, eq_self, and_self, and_true, true_and, z0]
  have s1 : sSeq (iVar 1) [some p, some C, some (L []), none] = .ok A [some p, some C, some (L []), none] := by
    simp (maxSteps := 400000) only [Bx.e_def, Bx.e_end_nx, Bx.e_end_rt, Bx.e_end_exc, Bx.e_retF, Bx.e_excF, Bx.e_seq, Bx.e_seq_nx, Bx.e_seq_rt, Bx.e_seq_bk, Bx.e_seq_ct, Bx.e_seq_exc, Bx.e_nx, Bx.e_bk, Bx.e_ct, Bx.e_retN, Bx.e_if, Bx.e_if_t, Bx.e_if_f, Bx.e_if_x, Bx.e_ret, Bx.e_ret_ok, Bx.e_ret_x, Bx.e_expr, Bx.e_expr_ok, Bx.e_expr_x, Bx.e_asg, Bx.e_asg_ok, Bx.e_asg_x, Bx.e_put, Bx.e_put1, Bx.e_hk1, Bx.e_mk_l, Bx.e_lk_l, Bx.e_mk_d, Bx.e_mk_i, Bx.e_mu, Bx.e_mu_ok, Bx.e_mu_x, Bx.e_mf1, Bx.e_mo, Bx.e_gd, Bx.e_put2, Bx.e_op, Bx.e_op_ok, Bx.e_op_x, Bx.e_fin, Bx.e_res, Bx.e_evO0, Bx.e_evOe, Bx.e_val, Bx.e_val_x, Bx.e_cons, Bx.e_cons_x, Bx.e_evOv, Bx.e_bor, Bx.e_resAll0, Bx.e_resAllv, Bx.e_resAllb, Bx.e_br, Bx.e_mapS, Bx.e_c, Bx.e_var, Bx.e_vari, Bx.e_pu_t, Bx.e_pu_f, Bx.e_b, Bx.e_b_ok, Bx.e_b_x, Bx.e_tr, Bx.e_tr_ok, Bx.e_true, Bx.e_truth, Bx.e_truth_b, Bx.e_andT, Bx.e_and_t, Bx.e_and_f, Bx.e_orT, Bx.e_or_t, Bx.e_or_f, Bx.e_notT, Bx.e_not_ok, Bx.e_notE, Bx.e_notE_ok, Bx.e_ifE, Bx.e_ifE_t, Bx.e_ifE_f, Bx.e_andE, Bx.e_andE_ok, Bx.e_andE_t, Bx.e_andE_f, Bx.e_orE, Bx.e_orE_ok, Bx.e_orE_t, Bx.e_orE_f, Bx.e_evA0, Bx.e_evA, Bx.e_A, Bx.e_A_x, Bx.e_ACons, Bx.e_ACons_x, Bx.e_tup, Bx.e_tup_ok, Bx.e_lst, Bx.e_lst_ok, Bx.e_disp, Bx.e_disp_ok, Bx.e_shr, Bx.e_shr_ok, Bx.e_call, Bx.e_call_ok, Bx.e_mv, Bx.e_rf, Bx.e_rf_x, Bx.e_wb, Bx.e_wx, Bx.e_mvv, Bx.e_mvf, Bx.e_mvb, Bx.e_mb, Bx.e_mv0, Bx.e_mapM, Bx.e_wb0, Bx.e_wbs, Bx.e_ws, Bx.e_wbn, Bx.e_p_int, Bx.e_p_str, Bx.e_p_bl, Bx.e_p_non, Bx.e_p_ref, Bx.e_p_ty, Bx.e_s_int, Bx.e_s_str, Bx.e_s_bl, Bx.e_s_non, Bx.e_for, Bx.e_for_ok, Bx.e_loop1, Bx.e_turn_nx, Bx.e_turn_rt, Bx.e_gN, Bx.d_rng1, Bx.d_rng2, Bx.d_seq, Bx.d_seq_ok, Bx.d_items, Bx.d_enum, Bx.d_enum_ok, Bx.d_zip, Bx.d_zip_ok, Bx.d_lc, Bx.d_lc_ok, Bx.d_lcE, Bx.d_par, Bx.d_par_ok, Bx.d_mte, Bx.d_mt_ok, Bx.d_mtv, Bx.d_mv_ok, Bx.d_chk, Bx.d_mc, Bx.e_pL, Bx.e_pT, Bx.d_sl, Bx.d_sl1, Bx.d_sl2, Bx.d_sl3, Bx.d_sl4, Bx.d_evPn, Bx.d_evPs, Bx.d_evPk, Bx.d_iI, Bx.d_iIk, Bx.d_ch, Bx.d_ch1, Bx.d_ch2, Bx.d_ch3f, Bx.d_ch3t, Bx.d_ch4, Bx.d_ch5, Bx.d_me, Bx.d_me1, Bx.d_me2, Bx.d_fld, Bx.d_fld1, Bx.d_rai, Bx.d_rai1, Bx.d_cv, Bx.d_cv1, Bx.d_cv2, Bx.d_yes, mkVw, takeP, wipeV, List.map_cons, List.map_nil, List.replicate_succ, List.replicate_zero, List.length_cons, List.length_nil, List.cons_append, List.nil_append, List.getElem?_cons_succ, List.getElem?_cons_zero, List.set_cons_zero, List.set_cons_succ, Nat.reduceAdd, Nat.reduceSub, Nat.reduceLT, Nat.lt_add_left_iff_pos, decide_true, decide_false, Bool.not_true, Bool.not_false, if_true, if_false, reduceIte, Bool.false_eq_true, Option.map_some, Option.map_none, Nat.zero_lt_succ, Nat.reduceLeDiff, eq_self, and_self, and_true, true_and, hq, it]
  rw [e_seq, s0, e_seq_nx, e_seq, e_for, s1, e_for_ok, e, e_seq_nx]
  have sh : (L B).shr = .nd .lst false B := shr_L hv
  have fin : jRet (iVar 2) [some p, some C, some (L B), o'] = .ok (.rt (.nd .lst false B)) [some p, some C, some (.nd .lst false B), o'] := by
    rw [e_ret, e_var]
    show zRet (zVar 2 (some (some (L B))) _) = _
    rw [e_vari]
    have : (L B).pure = false := by rw [L, PV.pure]; rfl
    rw [this, e_pu_f, e_ret_ok, sh]; rfl
  rw [fin]
  rfl
end K01
set_option maxRecDepth 100000
set_option maxHeartbeats 4000000
set_option linter.all false
/-! K01b5: fields and kinds of each error. -/
namespace K01
open PySem PySem.Spec PyProof.Rows Bx
open L2 (Key)
section
variable (K : PySem.W.Frag) (a b c : PV) (ha : a.pure = true) (hb : b.pure = true) (hc : c.pure = true)
include ha hb hc
theorem st_BadText_line : StepF K (.nd (.xc "BadText" ["word", "line"]) false [b, a]) "line" a := fun nm fd h => by
  have e1 : fldB K [some (.nd (.xc "BadText" ["word", "line"]) false [b, a]), some nm, some (L fd), some (.str "line")] = jExpr (iMu muAppend isLK 2 [(iOp (opXf ["BadText"] "line") [(.v 0)])]) [some (.nd (.xc "BadText" ["word", "line"]) false [b, a]), some nm, some (L fd), some (.str "line")] := by kernel_rfl
  have e2 : opXf ["BadText"] "line" [(.nd (.xc "BadText" ["word", "line"]) false [b, a])] = if a.pure = true then some a else none := by kernel_rfl
  rw [e1]
  exact app_ok _ _ _ _ _ _ (e2.trans (if_pos ha)) h
theorem st_BadText_word : StepF K (.nd (.xc "BadText" ["word", "line"]) false [b, a]) "word" b := fun nm fd h => by
  have e1 : fldB K [some (.nd (.xc "BadText" ["word", "line"]) false [b, a]), some nm, some (L fd), some (.str "word")] = jExpr (iMu muAppend isLK 2 [(iOp (opXf ["BadText"] "word") [(.v 0)])]) [some (.nd (.xc "BadText" ["word", "line"]) false [b, a]), some nm, some (L fd), some (.str "word")] := by kernel_rfl
  have e2 : opXf ["BadText"] "word" [(.nd (.xc "BadText" ["word", "line"]) false [b, a])] = if b.pure = true then some b else none := by kernel_rfl
  rw [e1]
  exact app_ok _ _ _ _ _ _ (e2.trans (if_pos hb)) h
theorem fo_BadText : D__law_fields K [(.nd (.xc "BadText" ["word", "line"]) false [b, a]), .nd .lst false (txs ["line", "word"])] = .ret (.nd .lst false [a, b]) [] :=
  fields_ok K (.nd (.xc "BadText" ["word", "line"]) false [b, a]) [("line", a), ("word", b)] (List.forall_mem_cons.mpr ⟨st_BadText_line K a b c ha hb hc, (List.forall_mem_cons.mpr ⟨st_BadText_word K a b c ha hb hc, (fun _ h => nomatch h)⟩)⟩) (by simp) (pures2 ha hb)
theorem st_BadName_name : StepF K (.nd (.xc "BadName" ["name"]) false [a]) "name" a := fun nm fd h => by
  have e1 : fldB K [some (.nd (.xc "BadName" ["name"]) false [a]), some nm, some (L fd), some (.str "name")] = jExpr (iMu muAppend isLK 2 [(iOp (opXf ["BadName", "NoName", "TakenName"] "name") [(.v 0)])]) [some (.nd (.xc "BadName" ["name"]) false [a]), some nm, some (L fd), some (.str "name")] := by kernel_rfl
  have e2 : opXf ["BadName", "NoName", "TakenName"] "name" [(.nd (.xc "BadName" ["name"]) false [a])] = if a.pure = true then some a else none := by kernel_rfl
  rw [e1]
  exact app_ok _ _ _ _ _ _ (e2.trans (if_pos ha)) h
theorem fo_BadName : D__law_fields K [(.nd (.xc "BadName" ["name"]) false [a]), .nd .lst false (txs ["name"])] = .ret (.nd .lst false [a]) [] :=
  fields_ok K (.nd (.xc "BadName" ["name"]) false [a]) [("name", a)] (List.forall_mem_cons.mpr ⟨st_BadName_name K a b c ha hb hc, (fun _ h => nomatch h)⟩) (by simp) (pures1 ha)
theorem st_BadNumber_what : StepF K (.nd (.xc "BadNumber" ["number", "what"]) false [b, a]) "what" a := fun nm fd h => by
  have e1 : fldB K [some (.nd (.xc "BadNumber" ["number", "what"]) false [b, a]), some nm, some (L fd), some (.str "what")] = jExpr (iMu muAppend isLK 2 [(iOp (opXf ["BadNumber", "BadRow", "Unlike", "NotThere", "TooMany"] "what") [(.v 0)])]) [some (.nd (.xc "BadNumber" ["number", "what"]) false [b, a]), some nm, some (L fd), some (.str "what")] := by kernel_rfl
  have e2 : opXf ["BadNumber", "BadRow", "Unlike", "NotThere", "TooMany"] "what" [(.nd (.xc "BadNumber" ["number", "what"]) false [b, a])] = if a.pure = true then some a else none := by kernel_rfl
  rw [e1]
  exact app_ok _ _ _ _ _ _ (e2.trans (if_pos ha)) h
theorem st_BadNumber_number : StepF K (.nd (.xc "BadNumber" ["number", "what"]) false [b, a]) "number" b := fun nm fd h => by
  have e1 : fldB K [some (.nd (.xc "BadNumber" ["number", "what"]) false [b, a]), some nm, some (L fd), some (.str "number")] = jExpr (iMu muAppend isLK 2 [(iOp (opXf ["BadNumber"] "number") [(.v 0)])]) [some (.nd (.xc "BadNumber" ["number", "what"]) false [b, a]), some nm, some (L fd), some (.str "number")] := by kernel_rfl
  have e2 : opXf ["BadNumber"] "number" [(.nd (.xc "BadNumber" ["number", "what"]) false [b, a])] = if b.pure = true then some b else none := by kernel_rfl
  rw [e1]
  exact app_ok _ _ _ _ _ _ (e2.trans (if_pos hb)) h
theorem fo_BadNumber : D__law_fields K [(.nd (.xc "BadNumber" ["number", "what"]) false [b, a]), .nd .lst false (txs ["what", "number"])] = .ret (.nd .lst false [a, b]) [] :=
  fields_ok K (.nd (.xc "BadNumber" ["number", "what"]) false [b, a]) [("what", a), ("number", b)] (List.forall_mem_cons.mpr ⟨st_BadNumber_what K a b c ha hb hc, (List.forall_mem_cons.mpr ⟨st_BadNumber_number K a b c ha hb hc, (fun _ h => nomatch h)⟩)⟩) (by simp) (pures2 ha hb)
theorem st_BadRow_what : StepF K (.nd (.xc "BadRow" ["row", "what"]) false [b, a]) "what" a := fun nm fd h => by
  have e1 : fldB K [some (.nd (.xc "BadRow" ["row", "what"]) false [b, a]), some nm, some (L fd), some (.str "what")] = jExpr (iMu muAppend isLK 2 [(iOp (opXf ["BadNumber", "BadRow", "Unlike", "NotThere", "TooMany"] "what") [(.v 0)])]) [some (.nd (.xc "BadRow" ["row", "what"]) false [b, a]), some nm, some (L fd), some (.str "what")] := by kernel_rfl
  have e2 : opXf ["BadNumber", "BadRow", "Unlike", "NotThere", "TooMany"] "what" [(.nd (.xc "BadRow" ["row", "what"]) false [b, a])] = if a.pure = true then some a else none := by kernel_rfl
  rw [e1]
  exact app_ok _ _ _ _ _ _ (e2.trans (if_pos ha)) h
theorem st_BadRow_row : StepF K (.nd (.xc "BadRow" ["row", "what"]) false [b, a]) "row" b := fun nm fd h => by
  have e1 : fldB K [some (.nd (.xc "BadRow" ["row", "what"]) false [b, a]), some nm, some (L fd), some (.str "row")] = jExpr (iMu muAppend isLK 2 [(iOp (opXf ["BadRow"] "row") [(.v 0)])]) [some (.nd (.xc "BadRow" ["row", "what"]) false [b, a]), some nm, some (L fd), some (.str "row")] := by kernel_rfl
  have e2 : opXf ["BadRow"] "row" [(.nd (.xc "BadRow" ["row", "what"]) false [b, a])] = if b.pure = true then some b else none := by kernel_rfl
  rw [e1]
  exact app_ok _ _ _ _ _ _ (e2.trans (if_pos hb)) h
theorem fo_BadRow : D__law_fields K [(.nd (.xc "BadRow" ["row", "what"]) false [b, a]), .nd .lst false (txs ["what", "row"])] = .ret (.nd .lst false [a, b]) [] :=
  fields_ok K (.nd (.xc "BadRow" ["row", "what"]) false [b, a]) [("what", a), ("row", b)] (List.forall_mem_cons.mpr ⟨st_BadRow_what K a b c ha hb hc, (List.forall_mem_cons.mpr ⟨st_BadRow_row K a b c ha hb hc, (fun _ h => nomatch h)⟩)⟩) (by simp) (pures2 ha hb)
theorem st_NoName_name : StepF K (.nd (.xc "NoName" ["name"]) false [a]) "name" a := fun nm fd h => by
  have e1 : fldB K [some (.nd (.xc "NoName" ["name"]) false [a]), some nm, some (L fd), some (.str "name")] = jExpr (iMu muAppend isLK 2 [(iOp (opXf ["BadName", "NoName", "TakenName"] "name") [(.v 0)])]) [some (.nd (.xc "NoName" ["name"]) false [a]), some nm, some (L fd), some (.str "name")] := by kernel_rfl
  have e2 : opXf ["BadName", "NoName", "TakenName"] "name" [(.nd (.xc "NoName" ["name"]) false [a])] = if a.pure = true then some a else none := by kernel_rfl
  rw [e1]
  exact app_ok _ _ _ _ _ _ (e2.trans (if_pos ha)) h
theorem fo_NoName : D__law_fields K [(.nd (.xc "NoName" ["name"]) false [a]), .nd .lst false (txs ["name"])] = .ret (.nd .lst false [a]) [] :=
  fields_ok K (.nd (.xc "NoName" ["name"]) false [a]) [("name", a)] (List.forall_mem_cons.mpr ⟨st_NoName_name K a b c ha hb hc, (fun _ h => nomatch h)⟩) (by simp) (pures1 ha)
theorem st_TakenName_name : StepF K (.nd (.xc "TakenName" ["name"]) false [a]) "name" a := fun nm fd h => by
  have e1 : fldB K [some (.nd (.xc "TakenName" ["name"]) false [a]), some nm, some (L fd), some (.str "name")] = jExpr (iMu muAppend isLK 2 [(iOp (opXf ["BadName", "NoName", "TakenName"] "name") [(.v 0)])]) [some (.nd (.xc "TakenName" ["name"]) false [a]), some nm, some (L fd), some (.str "name")] := by kernel_rfl
  have e2 : opXf ["BadName", "NoName", "TakenName"] "name" [(.nd (.xc "TakenName" ["name"]) false [a])] = if a.pure = true then some a else none := by kernel_rfl
  rw [e1]
  exact app_ok _ _ _ _ _ _ (e2.trans (if_pos ha)) h
theorem fo_TakenName : D__law_fields K [(.nd (.xc "TakenName" ["name"]) false [a]), .nd .lst false (txs ["name"])] = .ret (.nd .lst false [a]) [] :=
  fields_ok K (.nd (.xc "TakenName" ["name"]) false [a]) [("name", a)] (List.forall_mem_cons.mpr ⟨st_TakenName_name K a b c ha hb hc, (fun _ h => nomatch h)⟩) (by simp) (pures1 ha)
theorem st_Unlike_what : StepF K (.nd (.xc "Unlike" ["what"]) false [a]) "what" a := fun nm fd h => by
  have e1 : fldB K [some (.nd (.xc "Unlike" ["what"]) false [a]), some nm, some (L fd), some (.str "what")] = jExpr (iMu muAppend isLK 2 [(iOp (opXf ["BadNumber", "BadRow", "Unlike", "NotThere", "TooMany"] "what") [(.v 0)])]) [some (.nd (.xc "Unlike" ["what"]) false [a]), some nm, some (L fd), some (.str "what")] := by kernel_rfl
  have e2 : opXf ["BadNumber", "BadRow", "Unlike", "NotThere", "TooMany"] "what" [(.nd (.xc "Unlike" ["what"]) false [a])] = if a.pure = true then some a else none := by kernel_rfl
  rw [e1]
  exact app_ok _ _ _ _ _ _ (e2.trans (if_pos ha)) h
theorem fo_Unlike : D__law_fields K [(.nd (.xc "Unlike" ["what"]) false [a]), .nd .lst false (txs ["what"])] = .ret (.nd .lst false [a]) [] :=
  fields_ok K (.nd (.xc "Unlike" ["what"]) false [a]) [("what", a)] (List.forall_mem_cons.mpr ⟨st_Unlike_what K a b c ha hb hc, (fun _ h => nomatch h)⟩) (by simp) (pures1 ha)
theorem st_NotThere_what : StepF K (.nd (.xc "NotThere" ["what"]) false [a]) "what" a := fun nm fd h => by
  have e1 : fldB K [some (.nd (.xc "NotThere" ["what"]) false [a]), some nm, some (L fd), some (.str "what")] = jExpr (iMu muAppend isLK 2 [(iOp (opXf ["BadNumber", "BadRow", "Unlike", "NotThere", "TooMany"] "what") [(.v 0)])]) [some (.nd (.xc "NotThere" ["what"]) false [a]), some nm, some (L fd), some (.str "what")] := by kernel_rfl
  have e2 : opXf ["BadNumber", "BadRow", "Unlike", "NotThere", "TooMany"] "what" [(.nd (.xc "NotThere" ["what"]) false [a])] = if a.pure = true then some a else none := by kernel_rfl
  rw [e1]
  exact app_ok _ _ _ _ _ _ (e2.trans (if_pos ha)) h
theorem fo_NotThere : D__law_fields K [(.nd (.xc "NotThere" ["what"]) false [a]), .nd .lst false (txs ["what"])] = .ret (.nd .lst false [a]) [] :=
  fields_ok K (.nd (.xc "NotThere" ["what"]) false [a]) [("what", a)] (List.forall_mem_cons.mpr ⟨st_NotThere_what K a b c ha hb hc, (fun _ h => nomatch h)⟩) (by simp) (pures1 ha)
theorem st_TooMany_what : StepF K (.nd (.xc "TooMany" ["limit", "many", "what"]) false [c, b, a]) "what" a := fun nm fd h => by
  have e1 : fldB K [some (.nd (.xc "TooMany" ["limit", "many", "what"]) false [c, b, a]), some nm, some (L fd), some (.str "what")] = jExpr (iMu muAppend isLK 2 [(iOp (opXf ["BadNumber", "BadRow", "Unlike", "NotThere", "TooMany"] "what") [(.v 0)])]) [some (.nd (.xc "TooMany" ["limit", "many", "what"]) false [c, b, a]), some nm, some (L fd), some (.str "what")] := by kernel_rfl
  have e2 : opXf ["BadNumber", "BadRow", "Unlike", "NotThere", "TooMany"] "what" [(.nd (.xc "TooMany" ["limit", "many", "what"]) false [c, b, a])] = if a.pure = true then some a else none := by kernel_rfl
  rw [e1]
  exact app_ok _ _ _ _ _ _ (e2.trans (if_pos ha)) h
theorem st_TooMany_many : StepF K (.nd (.xc "TooMany" ["limit", "many", "what"]) false [c, b, a]) "many" b := fun nm fd h => by
  have e1 : fldB K [some (.nd (.xc "TooMany" ["limit", "many", "what"]) false [c, b, a]), some nm, some (L fd), some (.str "many")] = jExpr (iMu muAppend isLK 2 [(iOp (opXf ["TooMany"] "many") [(.v 0)])]) [some (.nd (.xc "TooMany" ["limit", "many", "what"]) false [c, b, a]), some nm, some (L fd), some (.str "many")] := by kernel_rfl
  have e2 : opXf ["TooMany"] "many" [(.nd (.xc "TooMany" ["limit", "many", "what"]) false [c, b, a])] = if b.pure = true then some b else none := by kernel_rfl
  rw [e1]
  exact app_ok _ _ _ _ _ _ (e2.trans (if_pos hb)) h
theorem st_TooMany_limit : StepF K (.nd (.xc "TooMany" ["limit", "many", "what"]) false [c, b, a]) "limit" c := fun nm fd h => by
  have e1 : fldB K [some (.nd (.xc "TooMany" ["limit", "many", "what"]) false [c, b, a]), some nm, some (L fd), some (.str "limit")] = jExpr (iMu muAppend isLK 2 [(iOp (opXf ["TooMany"] "limit") [(.v 0)])]) [some (.nd (.xc "TooMany" ["limit", "many", "what"]) false [c, b, a]), some nm, some (L fd), some (.str "limit")] := by kernel_rfl
  have e2 : opXf ["TooMany"] "limit" [(.nd (.xc "TooMany" ["limit", "many", "what"]) false [c, b, a])] = if c.pure = true then some c else none := by kernel_rfl
  rw [e1]
  exact app_ok _ _ _ _ _ _ (e2.trans (if_pos hc)) h
theorem fo_TooMany : D__law_fields K [(.nd (.xc "TooMany" ["limit", "many", "what"]) false [c, b, a]), .nd .lst false (txs ["what", "many", "limit"])] = .ret (.nd .lst false [a, b, c]) [] :=
  fields_ok K (.nd (.xc "TooMany" ["limit", "many", "what"]) false [c, b, a]) [("what", a), ("many", b), ("limit", c)] (List.forall_mem_cons.mpr ⟨st_TooMany_what K a b c ha hb hc, (List.forall_mem_cons.mpr ⟨st_TooMany_many K a b c ha hb hc, (List.forall_mem_cons.mpr ⟨st_TooMany_limit K a b c ha hb hc, (fun _ h => nomatch h)⟩)⟩)⟩) (by simp) (pures3 ha hb hc)
theorem st_NotKept_promise : StepF K (.nd (.xc "NotKept" ["witness", "promise"]) false [b, a]) "promise" a := fun nm fd h => by
  have e1 : fldB K [some (.nd (.xc "NotKept" ["witness", "promise"]) false [b, a]), some nm, some (L fd), some (.str "promise")] = jExpr (iMu muAppend isLK 2 [(iOp (opXf ["NotKept"] "promise") [(.v 0)])]) [some (.nd (.xc "NotKept" ["witness", "promise"]) false [b, a]), some nm, some (L fd), some (.str "promise")] := by kernel_rfl
  have e2 : opXf ["NotKept"] "promise" [(.nd (.xc "NotKept" ["witness", "promise"]) false [b, a])] = if a.pure = true then some a else none := by kernel_rfl
  rw [e1]
  exact app_ok _ _ _ _ _ _ (e2.trans (if_pos ha)) h
theorem st_NotKept_witness : StepF K (.nd (.xc "NotKept" ["witness", "promise"]) false [b, a]) "witness" b := fun nm fd h => by
  have e1 : fldB K [some (.nd (.xc "NotKept" ["witness", "promise"]) false [b, a]), some nm, some (L fd), some (.str "witness")] = jExpr (iMu muAppend isLK 2 [(iOp (opXf ["NotKept"] "witness") [(.v 0)])]) [some (.nd (.xc "NotKept" ["witness", "promise"]) false [b, a]), some nm, some (L fd), some (.str "witness")] := by kernel_rfl
  have e2 : opXf ["NotKept"] "witness" [(.nd (.xc "NotKept" ["witness", "promise"]) false [b, a])] = if b.pure = true then some b else none := by kernel_rfl
  rw [e1]
  exact app_ok _ _ _ _ _ _ (e2.trans (if_pos hb)) h
theorem fo_NotKept : D__law_fields K [(.nd (.xc "NotKept" ["witness", "promise"]) false [b, a]), .nd .lst false (txs ["promise", "witness"])] = .ret (.nd .lst false [a, b]) [] :=
  fields_ok K (.nd (.xc "NotKept" ["witness", "promise"]) false [b, a]) [("promise", a), ("witness", b)] (List.forall_mem_cons.mpr ⟨st_NotKept_promise K a b c ha hb hc, (List.forall_mem_cons.mpr ⟨st_NotKept_witness K a b c ha hb hc, (fun _ h => nomatch h)⟩)⟩) (by simp) (pures2 ha hb)
end
section
variable (K : PySem.W.Frag)
theorem fo_NothingToUndo : D__law_fields K [.nd (.xc "NothingToUndo" []) false [], .nd .lst false (txs [])] = .ret (.nd .lst false []) [] :=
  fields_ok K (.nd (.xc "NothingToUndo" []) false []) [] (fun _ h => nomatch h) (by simp) rfl
theorem fo_NothingToRedo : D__law_fields K [.nd (.xc "NothingToRedo" []) false [], .nd .lst false (txs [])] = .ret (.nd .lst false []) [] :=
  fields_ok K (.nd (.xc "NothingToRedo" []) false []) [] (fun _ h => nomatch h) (by simp) rfl
theorem ki_BadText (ns : List Str) (xs : List PV) : D__law_kinds K [.nd (.xc "BadText" ns) false xs] = .ret (L (blL [true, false, false, false, false, false, false, false, false, false, false, false])) [] := by kernel_rfl
theorem is_BadText (ns : List Str) (xs : List PV) : opIsx tb_GoerError [.nd (.xc "BadText" ns) false xs] = some (.bl true) ∧ opIsx tv [.nd (.xc "BadText" ns) false xs] = some (.bl true) := ⟨by kernel_rfl, by kernel_rfl⟩
theorem ki_BadName (ns : List Str) (xs : List PV) : D__law_kinds K [.nd (.xc "BadName" ns) false xs] = .ret (L (blL [false, true, false, false, false, false, false, false, false, false, false, false])) [] := by kernel_rfl
theorem is_BadName (ns : List Str) (xs : List PV) : opIsx tb_GoerError [.nd (.xc "BadName" ns) false xs] = some (.bl true) ∧ opIsx tv [.nd (.xc "BadName" ns) false xs] = some (.bl true) := ⟨by kernel_rfl, by kernel_rfl⟩
theorem ki_BadNumber (ns : List Str) (xs : List PV) : D__law_kinds K [.nd (.xc "BadNumber" ns) false xs] = .ret (L (blL [false, false, true, false, false, false, false, false, false, false, false, false])) [] := by kernel_rfl
theorem is_BadNumber (ns : List Str) (xs : List PV) : opIsx tb_GoerError [.nd (.xc "BadNumber" ns) false xs] = some (.bl true) ∧ opIsx tv [.nd (.xc "BadNumber" ns) false xs] = some (.bl true) := ⟨by kernel_rfl, by kernel_rfl⟩
theorem ki_BadRow (ns : List Str) (xs : List PV) : D__law_kinds K [.nd (.xc "BadRow" ns) false xs] = .ret (L (blL [false, false, false, true, false, false, false, false, false, false, false, false])) [] := by kernel_rfl
theorem is_BadRow (ns : List Str) (xs : List PV) : opIsx tb_GoerError [.nd (.xc "BadRow" ns) false xs] = some (.bl true) ∧ opIsx tv [.nd (.xc "BadRow" ns) false xs] = some (.bl true) := ⟨by kernel_rfl, by kernel_rfl⟩
theorem ki_NoName (ns : List Str) (xs : List PV) : D__law_kinds K [.nd (.xc "NoName" ns) false xs] = .ret (L (blL [false, false, false, false, true, false, false, false, false, false, false, false])) [] := by kernel_rfl
theorem is_NoName (ns : List Str) (xs : List PV) : opIsx tb_GoerError [.nd (.xc "NoName" ns) false xs] = some (.bl true) ∧ opIsx tv [.nd (.xc "NoName" ns) false xs] = some (.bl true) := ⟨by kernel_rfl, by kernel_rfl⟩
theorem ki_TakenName (ns : List Str) (xs : List PV) : D__law_kinds K [.nd (.xc "TakenName" ns) false xs] = .ret (L (blL [false, false, false, false, false, true, false, false, false, false, false, false])) [] := by kernel_rfl
theorem is_TakenName (ns : List Str) (xs : List PV) : opIsx tb_GoerError [.nd (.xc "TakenName" ns) false xs] = some (.bl true) ∧ opIsx tv [.nd (.xc "TakenName" ns) false xs] = some (.bl true) := ⟨by kernel_rfl, by kernel_rfl⟩
theorem ki_Unlike (ns : List Str) (xs : List PV) : D__law_kinds K [.nd (.xc "Unlike" ns) false xs] = .ret (L (blL [false, false, false, false, false, false, true, false, false, false, false, false])) [] := by kernel_rfl
theorem is_Unlike (ns : List Str) (xs : List PV) : opIsx tb_GoerError [.nd (.xc "Unlike" ns) false xs] = some (.bl true) ∧ opIsx tv [.nd (.xc "Unlike" ns) false xs] = some (.bl true) := ⟨by kernel_rfl, by kernel_rfl⟩
theorem ki_NotThere (ns : List Str) (xs : List PV) : D__law_kinds K [.nd (.xc "NotThere" ns) false xs] = .ret (L (blL [false, false, false, false, false, false, false, true, false, false, false, false])) [] := by kernel_rfl
theorem is_NotThere (ns : List Str) (xs : List PV) : opIsx tb_GoerError [.nd (.xc "NotThere" ns) false xs] = some (.bl true) ∧ opIsx tv [.nd (.xc "NotThere" ns) false xs] = some (.bl true) := ⟨by kernel_rfl, by kernel_rfl⟩
theorem ki_TooMany (ns : List Str) (xs : List PV) : D__law_kinds K [.nd (.xc "TooMany" ns) false xs] = .ret (L (blL [false, false, false, false, false, false, false, false, true, false, false, false])) [] := by kernel_rfl
theorem is_TooMany (ns : List Str) (xs : List PV) : opIsx tb_GoerError [.nd (.xc "TooMany" ns) false xs] = some (.bl true) ∧ opIsx tv [.nd (.xc "TooMany" ns) false xs] = some (.bl true) := ⟨by kernel_rfl, by kernel_rfl⟩
theorem ki_NotKept (ns : List Str) (xs : List PV) : D__law_kinds K [.nd (.xc "NotKept" ns) false xs] = .ret (L (blL [false, false, false, false, false, false, false, false, false, true, false, false])) [] := by kernel_rfl
theorem is_NotKept (ns : List Str) (xs : List PV) : opIsx tb_GoerError [.nd (.xc "NotKept" ns) false xs] = some (.bl true) ∧ opIsx tv [.nd (.xc "NotKept" ns) false xs] = some (.bl true) := ⟨by kernel_rfl, by kernel_rfl⟩
theorem ki_NothingToUndo (ns : List Str) (xs : List PV) : D__law_kinds K [.nd (.xc "NothingToUndo" ns) false xs] = .ret (L (blL [false, false, false, false, false, false, false, false, false, false, true, false])) [] := by kernel_rfl
theorem is_NothingToUndo (ns : List Str) (xs : List PV) : opIsx tb_GoerError [.nd (.xc "NothingToUndo" ns) false xs] = some (.bl true) ∧ opIsx tv [.nd (.xc "NothingToUndo" ns) false xs] = some (.bl true) := ⟨by kernel_rfl, by kernel_rfl⟩
theorem ki_NothingToRedo (ns : List Str) (xs : List PV) : D__law_kinds K [.nd (.xc "NothingToRedo" ns) false xs] = .ret (L (blL [false, false, false, false, false, false, false, false, false, false, false, true])) [] := by kernel_rfl
theorem is_NothingToRedo (ns : List Str) (xs : List PV) : opIsx tb_GoerError [.nd (.xc "NothingToRedo" ns) false xs] = some (.bl true) ∧ opIsx tv [.nd (.xc "NothingToRedo" ns) false xs] = some (.bl true) := ⟨by kernel_rfl, by kernel_rfl⟩
end
end K01
set_option maxRecDepth 100000
set_option maxHeartbeats 4000000
set_option linter.all false
/-! K01r: the texts of the values' lists. -/
namespace K01
open PySem PySem.Spec PyProof.Rows Bx
open L2 (Key)
def rvB (v : PV) : Bool := match v.dat with
  | some d => d.showable && (!d.hasDict && (decide (d.depth ≤ 5) && (decide (d.shown.length ≤ 100) && PyData.strOk d.shown)))
  | none => false
theorem rv_all : VL.all rvB = true := by kernel_rfl
theorem so_app {x y : Str} (hx : PyData.strOk x = true) (hy : PyData.strOk y = true) : PyData.strOk (x ++ y) = true := by letI : Tbs := ⟨[]⟩; exact strOk_append hx hy
theorem tf_ok : ∀ (ts : List Str) (k : Nat) (acc : Str), (∀ t ∈ ts, t.length ≤ 100 ∧ PyData.strOk t = true) → PyData.strOk acc = true → PyData.strOk (textFrom k acc ts) = true ∧ (textFrom k acc ts).length ≤ acc.length + 102 * ts.length
  | [], k, acc, _, h => ⟨h, Nat.le_add_right _ _⟩
  | t :: ts, k, acc, ht, h => by
    obtain ⟨t1, t2⟩ := ht t List.mem_cons_self
    have sep : PyData.strOk (Str.ofString (if k > 0 then ", " else "")) = true ∧ (Str.ofString (if k > 0 then ", " else "")).length ≤ 2 := by
      by_cases hk : k > 0
      · rw [if_pos hk]; exact ⟨by decide +kernel, by decide +kernel⟩
      · rw [if_neg hk]; exact ⟨by decide +kernel, by decide +kernel⟩
    have ok := so_app (so_app h sep.1) t2
    obtain ⟨g1, g2⟩ := tf_ok ts (k + 1) (acc ++ Str.ofString (if k > 0 then ", " else "") ++ t) (fun z hz => ht z (List.mem_cons_of_mem _ hz)) ok
    refine ⟨g1, ?_⟩
    have e : (acc ++ Str.ofString (if k > 0 then ", " else "") ++ t).length = acc.length + (Str.ofString (if k > 0 then ", " else "")).length + t.length := by rw [strLen_append, strLen_append]
    rw [List.length_cons]
    have := sep.2
    refine Nat.le_trans g2 ?_
    omega
theorem dats_ok : ∀ vs : List PV, (∀ v ∈ vs, rvB v = true) → ∃ ds, dats vs = some ds ∧ ds.length = vs.length ∧ PyData.showableAll ds = true ∧ PyData.hasDictAll ds = false ∧ PyData.depthAll ds ≤ 5 ∧ (PyData.shownAll ds).length = vs.length ∧ ∀ t ∈ PyData.shownAll ds, t.length ≤ 100 ∧ PyData.strOk t = true
  | [], _ => ⟨[], rfl, rfl, rfl, rfl, Nat.zero_le _, rfl, fun _ h => nomatch h⟩
  | v :: vs, h => by
    obtain ⟨ds, h1, h2, h3, h4, h5, h6, h7⟩ := dats_ok vs fun z hz => h z (List.mem_cons_of_mem _ hz)
    have hv := h v List.mem_cons_self
    unfold rvB at hv
    cases e : v.dat with
    | none => rw [e] at hv; cases hv
    | some d =>
      rw [e] at hv
      simp only [Bool.and_eq_true, Bool.not_eq_true', decide_eq_true_eq] at hv
      obtain ⟨g1, g2, g3, g4, g5⟩ := hv
      refine ⟨d :: ds, by rw [dats, e, h1], by rw [List.length_cons, List.length_cons, h2], by rw [PyData.showableAll, g1, h3]; rfl, by rw [PyData.hasDictAll, g2, h4]; rfl, ?_, by rw [PyData.shownAll, List.length_cons, List.length_cons, h6], fun t ht => ?_⟩
      · rw [PyData.depthAll]; omega
      · rw [PyData.shownAll] at ht
        rcases List.mem_cons.mp ht with rfl | ht
        · exact ⟨g4, g5⟩
        · exact h7 t ht
theorem rep_list (vs : List PV) (h : ∀ v ∈ vs, rvB v = true) (hl : vs.length ≤ 10) : ∃ s, opRepr [L vs] = some (.str s) := by
  obtain ⟨ds, h1, h2, h3, h4, h5, h6, h7⟩ := dats_ok vs h
  obtain ⟨t1, t2⟩ := tf_ok (PyData.shownAll ds) 0 "[" h7 (by decide +kernel)
  have e : (L vs).dat = some (.list ds) := by rw [L, PV.dat, h1]
  refine ⟨(PyData.list ds).shown, ?_⟩
  show (match (L vs).dat with
    | some d => if d.showable = true ∧ d.hasDict = false ∧ d.depth ≤ 64 ∧ d.shown.length ≤ sizeLine ∧ PyData.strOk d.shown = true then some (PV.str d.shown) else none
    | none => none) = _
  rw [e]
  have len : (PyData.list ds).shown.length ≤ 2000 := by
    rw [PyData.shown]
    unfold listText
    rw [strLen_append]
    have a1 : (Str.ofString "[").length ≤ 1 := by decide +kernel
    have a2 : (Str.ofString "]").length ≤ 1 := by decide +kernel
    omega
  exact if_pos ⟨by rw [PyData.showable, h3], by rw [PyData.hasDict, h4], by rw [PyData.depth]; omega, Nat.le_trans len (by decide), by rw [PyData.shown]; exact so_app t1 (by decide +kernel)⟩
end K01
set_option maxRecDepth 100000
set_option maxHeartbeats 4000000
set_option linter.all false
/-! K01b6: the law's loop, turn by turn. -/
namespace K01
open PySem PySem.Spec PyProof.Rows Bx
open L2 (Key)
def lcI : IE := (iLc (sRng1 (iC (.int 12))) (gN 12) tYesT (iOp opEq [(.v 12), (.v 3)]) [12])
def trB (K : PySem.W.Frag) : IS := (jSeq (jAsgT (gT 2 (gCons (gN 8) (gCons (gN 9) gNil))) (iVar 4))
  (jSeq (jIf (iOrT (iNotT (iTr [(.e (iOp (opIsx tb_GoerError) [(.v 8)]))])) (iNotT (iTr [(.e (iOp (opIsx tv) [(.v 8)]))]))) (jRet (iC (.bl false))) jNx)
  (jSeq (jAsg 10 (iSl (.v 2) none (some (iI (iOp opLen [(.v 9)])))))
  (jSeq (jIf (iB (iOp opNe [(.e (iOp opRepr [(.e (iCall (D__law_fields K) [false, false] [(.e (iVar 8)), (.e (iVar 9))]))])), (.e (iOp opRepr [(.v 10)]))])) (jRet (iC (.bl false))) jNx)
  (jIf (iB (iOp opNe [(.e (iCall (D__law_kinds K) [false] [(.e (iVar 8))])), (.e (iLc (sRng1 (iC (.int 12))) (gN 12) tYesT (iOp opEq [(.v 12), (.v 3)]) [12]))])) (jRet (iC (.bl false))) jNx)))))
theorem lc_0 (x0 x1 x2 x4 x5 x6 x7 x8 x9 x10 x11 x12 : Option PV) : lcI [x0, x1, x2, some (.int 0), x4, x5, x6, x7, x8, x9, x10, x11, x12] = .ok (L (blL [true, false, false, false, false, false, false, false, false, false, false, false])) [x0, x1, x2, some (.int 0), x4, x5, x6, x7, x8, x9, x10, x11, none] := by kernel_rfl
theorem ne_0 : opNe [L (blL [true, false, false, false, false, false, false, false, false, false, false, false]), L (blL [true, false, false, false, false, false, false, false, false, false, false, false])] = some (.bl false) := by kernel_rfl
theorem lc_1 (x0 x1 x2 x4 x5 x6 x7 x8 x9 x10 x11 x12 : Option PV) : lcI [x0, x1, x2, some (.int 1), x4, x5, x6, x7, x8, x9, x10, x11, x12] = .ok (L (blL [false, true, false, false, false, false, false, false, false, false, false, false])) [x0, x1, x2, some (.int 1), x4, x5, x6, x7, x8, x9, x10, x11, none] := by kernel_rfl
theorem ne_1 : opNe [L (blL [false, true, false, false, false, false, false, false, false, false, false, false]), L (blL [false, true, false, false, false, false, false, false, false, false, false, false])] = some (.bl false) := by kernel_rfl
theorem lc_2 (x0 x1 x2 x4 x5 x6 x7 x8 x9 x10 x11 x12 : Option PV) : lcI [x0, x1, x2, some (.int 2), x4, x5, x6, x7, x8, x9, x10, x11, x12] = .ok (L (blL [false, false, true, false, false, false, false, false, false, false, false, false])) [x0, x1, x2, some (.int 2), x4, x5, x6, x7, x8, x9, x10, x11, none] := by kernel_rfl
theorem ne_2 : opNe [L (blL [false, false, true, false, false, false, false, false, false, false, false, false]), L (blL [false, false, true, false, false, false, false, false, false, false, false, false])] = some (.bl false) := by kernel_rfl
theorem lc_3 (x0 x1 x2 x4 x5 x6 x7 x8 x9 x10 x11 x12 : Option PV) : lcI [x0, x1, x2, some (.int 3), x4, x5, x6, x7, x8, x9, x10, x11, x12] = .ok (L (blL [false, false, false, true, false, false, false, false, false, false, false, false])) [x0, x1, x2, some (.int 3), x4, x5, x6, x7, x8, x9, x10, x11, none] := by kernel_rfl
theorem ne_3 : opNe [L (blL [false, false, false, true, false, false, false, false, false, false, false, false]), L (blL [false, false, false, true, false, false, false, false, false, false, false, false])] = some (.bl false) := by kernel_rfl
theorem lc_4 (x0 x1 x2 x4 x5 x6 x7 x8 x9 x10 x11 x12 : Option PV) : lcI [x0, x1, x2, some (.int 4), x4, x5, x6, x7, x8, x9, x10, x11, x12] = .ok (L (blL [false, false, false, false, true, false, false, false, false, false, false, false])) [x0, x1, x2, some (.int 4), x4, x5, x6, x7, x8, x9, x10, x11, none] := by kernel_rfl
theorem ne_4 : opNe [L (blL [false, false, false, false, true, false, false, false, false, false, false, false]), L (blL [false, false, false, false, true, false, false, false, false, false, false, false])] = some (.bl false) := by kernel_rfl
theorem lc_5 (x0 x1 x2 x4 x5 x6 x7 x8 x9 x10 x11 x12 : Option PV) : lcI [x0, x1, x2, some (.int 5), x4, x5, x6, x7, x8, x9, x10, x11, x12] = .ok (L (blL [false, false, false, false, false, true, false, false, false, false, false, false])) [x0, x1, x2, some (.int 5), x4, x5, x6, x7, x8, x9, x10, x11, none] := by kernel_rfl
theorem ne_5 : opNe [L (blL [false, false, false, false, false, true, false, false, false, false, false, false]), L (blL [false, false, false, false, false, true, false, false, false, false, false, false])] = some (.bl false) := by kernel_rfl
theorem lc_6 (x0 x1 x2 x4 x5 x6 x7 x8 x9 x10 x11 x12 : Option PV) : lcI [x0, x1, x2, some (.int 6), x4, x5, x6, x7, x8, x9, x10, x11, x12] = .ok (L (blL [false, false, false, false, false, false, true, false, false, false, false, false])) [x0, x1, x2, some (.int 6), x4, x5, x6, x7, x8, x9, x10, x11, none] := by kernel_rfl
theorem ne_6 : opNe [L (blL [false, false, false, false, false, false, true, false, false, false, false, false]), L (blL [false, false, false, false, false, false, true, false, false, false, false, false])] = some (.bl false) := by kernel_rfl
theorem lc_7 (x0 x1 x2 x4 x5 x6 x7 x8 x9 x10 x11 x12 : Option PV) : lcI [x0, x1, x2, some (.int 7), x4, x5, x6, x7, x8, x9, x10, x11, x12] = .ok (L (blL [false, false, false, false, false, false, false, true, false, false, false, false])) [x0, x1, x2, some (.int 7), x4, x5, x6, x7, x8, x9, x10, x11, none] := by kernel_rfl
theorem ne_7 : opNe [L (blL [false, false, false, false, false, false, false, true, false, false, false, false]), L (blL [false, false, false, false, false, false, false, true, false, false, false, false])] = some (.bl false) := by kernel_rfl
theorem lc_8 (x0 x1 x2 x4 x5 x6 x7 x8 x9 x10 x11 x12 : Option PV) : lcI [x0, x1, x2, some (.int 8), x4, x5, x6, x7, x8, x9, x10, x11, x12] = .ok (L (blL [false, false, false, false, false, false, false, false, true, false, false, false])) [x0, x1, x2, some (.int 8), x4, x5, x6, x7, x8, x9, x10, x11, none] := by kernel_rfl
theorem ne_8 : opNe [L (blL [false, false, false, false, false, false, false, false, true, false, false, false]), L (blL [false, false, false, false, false, false, false, false, true, false, false, false])] = some (.bl false) := by kernel_rfl
theorem lc_9 (x0 x1 x2 x4 x5 x6 x7 x8 x9 x10 x11 x12 : Option PV) : lcI [x0, x1, x2, some (.int 9), x4, x5, x6, x7, x8, x9, x10, x11, x12] = .ok (L (blL [false, false, false, false, false, false, false, false, false, true, false, false])) [x0, x1, x2, some (.int 9), x4, x5, x6, x7, x8, x9, x10, x11, none] := by kernel_rfl
theorem ne_9 : opNe [L (blL [false, false, false, false, false, false, false, false, false, true, false, false]), L (blL [false, false, false, false, false, false, false, false, false, true, false, false])] = some (.bl false) := by kernel_rfl
theorem lc_10 (x0 x1 x2 x4 x5 x6 x7 x8 x9 x10 x11 x12 : Option PV) : lcI [x0, x1, x2, some (.int 10), x4, x5, x6, x7, x8, x9, x10, x11, x12] = .ok (L (blL [false, false, false, false, false, false, false, false, false, false, true, false])) [x0, x1, x2, some (.int 10), x4, x5, x6, x7, x8, x9, x10, x11, none] := by kernel_rfl
theorem ne_10 : opNe [L (blL [false, false, false, false, false, false, false, false, false, false, true, false]), L (blL [false, false, false, false, false, false, false, false, false, false, true, false])] = some (.bl false) := by kernel_rfl
theorem lc_11 (x0 x1 x2 x4 x5 x6 x7 x8 x9 x10 x11 x12 : Option PV) : lcI [x0, x1, x2, some (.int 11), x4, x5, x6, x7, x8, x9, x10, x11, x12] = .ok (L (blL [false, false, false, false, false, false, false, false, false, false, false, true])) [x0, x1, x2, some (.int 11), x4, x5, x6, x7, x8, x9, x10, x11, none] := by kernel_rfl
theorem ne_11 : opNe [L (blL [false, false, false, false, false, false, false, false, false, false, false, true]), L (blL [false, false, false, false, false, false, false, false, false, false, false, true])] = some (.bl false) := by kernel_rfl
section
variable (K : PySem.W.Frag) (scr p a b c : PV) (o5 o6 o7 o8 o9 o10 o11 o12 : Option PV)
theorem turn_ok (at_ one nm due fl KS LC : PV) (s : Str) (n : Int) (hp1 : one.pure = true) (hp2 : nm.pure = true) (g1 : opIsx tb_GoerError [one] = some (.bl true)) (g2 : opIsx tv [one] = some (.bl true)) (hl : opLen [nm] = some (.int n)) (hs : opSl [L [a, b, c]] none (some n) = some due)
    (hf : D__law_fields K [one, nm] = .ret fl []) (r1 : opRepr [fl] = some (.str s)) (r2 : opRepr [due] = some (.str s)) (hk : D__law_kinds K [one] = .ret KS []) (hn : opNe [KS, LC] = some (.bl false))
    (hlc : lcI [some scr, some p, some (L [a, b, c]), some at_, some (T [one, nm]), o5, o6, o7, some one, some nm, some due, o11, o12] = .ok LC [some scr, some p, some (L [a, b, c]), some at_, some (T [one, nm]), o5, o6, o7, some one, some nm, some due, o11, none]) :
    trB K [some scr, some p, some (L [a, b, c]), some at_, some (T [one, nm]), o5, o6, o7, o8, o9, o10, o11, o12] = .ok .nx [some scr, some p, some (L [a, b, c]), some at_, some (T [one, nm]), o5, o6, o7, some one, some nm, some due, o11, none] := by
  have hp : (T [one, nm]).pure = true := by rw [T, PV.pure, pures2 hp1 hp2]; rfl
  have hss : opNe [.str s, .str s] = some (.bl false) := by rw [o_ne_s]; simp
  generalize hM : T [one, nm] = M at *
  generalize L [a, b, c] = VA at *
  have v4 : iVar 4 [some scr, some p, some VA, some at_, some M, o5, o6, o7, o8, o9, o10, o11, o12] = .ok M [some scr, some p, some VA, some at_, some M, o5, o6, o7, o8, o9, o10, o11, o12] := by
    rw [e_var]
    show zVar 4 (some (some M)) _ = _
    rw [e_vari, hp, e_pu_t]
  have s1 : (jAsgT (gT 2 (gCons (gN 8) (gCons (gN 9) gNil))) (iVar 4)) [some scr, some p, some VA, some at_, some M, o5, o6, o7, o8, o9, o10, o11, o12] = .ok .nx [some scr, some p, some VA, some at_, some M, o5, o6, o7, some one, some nm, o10, o11, o12] := by
    unfold jAsgT
    rw [v4, ← hM]
    rfl
  have s2 : ((jIf (iOrT (iNotT (iTr [(.e (iOp (opIsx tb_GoerError) [(.v 8)]))])) (iNotT (iTr [(.e (iOp (opIsx tv) [(.v 8)]))]))) (jRet (iC (.bl false))) jNx)) [some scr, some p, some VA, some at_, some M, o5, o6, o7, some one, some nm, o10, o11, o12] = .ok .nx [some scr, some p, some VA, some at_, some M, o5, o6, o7, some one, some nm, o10, o11, o12] := by
    simp (maxSteps := 400000) only [Bx.e_def, Bx.e_end_nx, Bx.e_end_rt, Bx.e_end_exc, Bx.e_retF, Bx.e_excF, Bx.e_seq, Bx.e_seq_nx, Bx.e_seq_rt, Bx.e_seq_bk, Bx.e_seq_ct, Bx.e_seq_exc, Bx.e_nx, Bx.e_bk, Bx.e_ct, Bx.e_retN, Bx.e_if, Bx.e_if_t, Bx.e_if_f, Bx.e_if_x, Bx.e_ret, Bx.e_ret_ok, Bx.e_ret_x, Bx.e_expr, Bx.e_expr_ok, Bx.e_expr_x, Bx.e_asg, Bx.e_asg_ok, Bx.e_asg_x, Bx.e_put, Bx.e_put1, Bx.e_hk1, Bx.e_mk_l, Bx.e_lk_l, Bx.e_mk_d, Bx.e_mk_i, Bx.e_mu, Bx.e_mu_ok, Bx.e_mu_x, Bx.e_mf1, Bx.e_mo, Bx.e_gd, Bx.e_put2, Bx.e_op, Bx.e_op_ok, Bx.e_op_x, Bx.e_fin, Bx.e_res, Bx.e_evO0, Bx.e_evOe, Bx.e_val, Bx.e_val_x, Bx.e_cons, Bx.e_cons_x, Bx.e_evOv, Bx.e_bor, Bx.e_resAll0, Bx.e_resAllv, Bx.e_resAllb, Bx.e_br, Bx.e_mapS, Bx.e_c, Bx.e_var, Bx.e_vari, Bx.e_pu_t, Bx.e_pu_f, Bx.e_b, Bx.e_b_ok, Bx.e_b_x, Bx.e_tr, Bx.e_tr_ok, Bx.e_true, Bx.e_truth, Bx.e_truth_b, Bx.e_andT, Bx.e_and_t, Bx.e_and_f, Bx.e_orT, Bx.e_or_t, Bx.e_or_f, Bx.e_notT, Bx.e_not_ok, Bx.e_notE, Bx.e_notE_ok, Bx.e_ifE, Bx.e_ifE_t, Bx.e_ifE_f, Bx.e_andE, Bx.e_andE_ok, Bx.e_andE_t, Bx.e_andE_f, Bx.e_orE, Bx.e_orE_ok, Bx.e_orE_t, Bx.e_orE_f, Bx.e_evA0, Bx.e_evA, Bx.e_A, Bx.e_A_x, Bx.e_ACons, Bx.e_ACons_x, Bx.e_tup, Bx.e_tup_ok, Bx.e_lst, Bx.e_lst_ok, Bx.e_disp, Bx.e_disp_ok, Bx.e_shr, Bx.e_shr_ok, Bx.e_call, Bx.e_call_ok, Bx.e_mv, Bx.e_rf, Bx.e_rf_x, Bx.e_wb, Bx.e_wx, Bx.e_mvv, Bx.e_mvf, Bx.e_mvb, Bx.e_mb, Bx.e_mv0, Bx.e_mapM, Bx.e_wb0, Bx.e_wbs, Bx.e_ws, Bx.e_wbn, Bx.e_p_int, Bx.e_p_str, Bx.e_p_bl, Bx.e_p_non, Bx.e_p_ref, Bx.e_p_ty, Bx.e_s_int, Bx.e_s_str, Bx.e_s_bl, Bx.e_s_non, Bx.e_for, Bx.e_for_ok, Bx.e_loop1, Bx.e_turn_nx, Bx.e_turn_rt, Bx.e_gN, Bx.d_rng1, Bx.d_rng2, Bx.d_seq, Bx.d_seq_ok, Bx.d_items, Bx.d_enum, Bx.d_enum_ok, Bx.d_zip, Bx.d_zip_ok, Bx.d_lc, Bx.d_lc_ok, Bx.d_lcE, Bx.d_par, Bx.d_par_ok, Bx.d_mte, Bx.d_mt_ok, Bx.d_mtv, Bx.d_mv_ok, Bx.d_chk, Bx.d_mc, Bx.e_pL, Bx.e_pT, Bx.d_sl, Bx.d_sl1, Bx.d_sl2, Bx.d_sl3, Bx.d_sl4, Bx.d_evPn, Bx.d_evPs, Bx.d_evPk, Bx.d_iI, Bx.d_iIk, Bx.d_ch, Bx.d_ch1, Bx.d_ch2, Bx.d_ch3f, Bx.d_ch3t, Bx.d_ch4, Bx.d_ch5, Bx.d_me, Bx.d_me1, Bx.d_me2, Bx.d_fld, Bx.d_fld1, Bx.d_rai, Bx.d_rai1, Bx.d_cv, Bx.d_cv1, Bx.d_cv2, Bx.d_yes, mkVw, takeP, wipeV, List.map_cons, List.map_nil, List.replicate_succ, List.replicate_zero, List.length_cons, List.length_nil, List.cons_append, List.nil_append, List.getElem?_cons_succ, List.getElem?_cons_zero, List.set_cons_zero, List.set_cons_succ, Nat.reduceAdd, Nat.reduceSub, Nat.reduceLT, Nat.lt_add_left_iff_pos, decide_true, decide_false, Bool.not_true, Bool.not_false, if_true, if_false, reduceIte, Bool.false_eq_true, Option.map_some, Option.map_none, Nat.zero_lt_succ, Nat.reduceLeDiff, eq_self, and_self, and_true, true_and, g1, g2]
  have s3 : ((jAsg 10 (iSl (.v 2) none (some (iI (iOp opLen [(.v 9)])))))) [some scr, some p, some VA, some at_, some M, o5, o6, o7, some one, some nm, o10, o11, o12] = .ok .nx [some scr, some p, some VA, some at_, some M, o5, o6, o7, some one, some nm, some due, o11, o12] := by
    simp (maxSteps := 400000) only [Bx.e_def, Bx.e_end_nx, Bx.e_end_rt, Bx.e_end_exc, Bx.e_retF, Bx.e_excF, Bx.e_seq, Bx.e_seq_nx, Bx.e_seq_rt, Bx.e_seq_bk, Bx.e_seq_ct, Bx.e_seq_exc, Bx.e_nx, Bx.e_bk, Bx.e_ct, Bx.e_retN, Bx.e_if, Bx.e_if_t, Bx.e_if_f, Bx.e_if_x, Bx.e_ret, Bx.e_ret_ok, Bx.e_ret_x, Bx.e_expr, Bx.e_expr_ok, Bx.e_expr_x, Bx.e_asg, Bx.e_asg_ok, Bx.e_asg_x, Bx.e_put, Bx.e_put1, Bx.e_hk1, Bx.e_mk_l, Bx.e_lk_l, Bx.e_mk_d, Bx.e_mk_i, Bx.e_mu, Bx.e_mu_ok, Bx.e_mu_x, Bx.e_mf1, Bx.e_mo, Bx.e_gd, Bx.e_put2, Bx.e_op, Bx.e_op_ok, Bx.e_op_x, Bx.e_fin, Bx.e_res, Bx.e_evO0, Bx.e_evOe, Bx.e_val, Bx.e_val_x, Bx.e_cons, Bx.e_cons_x, Bx.e_evOv, Bx.e_bor, Bx.e_resAll0, Bx.e_resAllv, Bx.e_resAllb, Bx.e_br, Bx.e_mapS, Bx.e_c, Bx.e_var, Bx.e_vari, Bx.e_pu_t, Bx.e_pu_f, Bx.e_b, Bx.e_b_ok, Bx.e_b_x, Bx.e_tr, Bx.e_tr_ok, Bx.e_true, Bx.e_truth, Bx.e_truth_b, Bx.e_andT, Bx.e_and_t, Bx.e_and_f, Bx.e_orT, Bx.e_or_t, Bx.e_or_f, Bx.e_notT, Bx.e_not_ok, Bx.e_notE, Bx.e_notE_ok, Bx.e_ifE, Bx.e_ifE_t, Bx.e_ifE_f, Bx.e_andE, Bx.e_andE_ok, Bx.e_andE_t, Bx.e_andE_f, Bx.e_orE, Bx.e_orE_ok, Bx.e_orE_t, Bx.e_orE_f, Bx.e_evA0, Bx.e_evA, Bx.e_A, Bx.e_A_x, Bx.e_ACons, Bx.e_ACons_x, Bx.e_tup, Bx.e_tup_ok, Bx.e_lst, Bx.e_lst_ok, Bx.e_disp, Bx.e_disp_ok, Bx.e_shr, Bx.e_shr_ok, Bx.e_call, Bx.e_call_ok, Bx.e_mv, Bx.e_rf, Bx.e_rf_x, Bx.e_wb, Bx.e_wx, Bx.e_mvv, Bx.e_mvf, Bx.e_mvb, Bx.e_mb, Bx.e_mv0, Bx.e_mapM, Bx.e_wb0, Bx.e_wbs, Bx.e_ws, Bx.e_wbn, Bx.e_p_int, Bx.e_p_str, Bx.e_p_bl, Bx.e_p_non, Bx.e_p_ref, Bx.e_p_ty, Bx.e_s_int, Bx.e_s_str, Bx.e_s_bl, Bx.e_s_non, Bx.e_for, Bx.e_for_ok, Bx.e_loop1, Bx.e_turn_nx, Bx.e_turn_rt, Bx.e_gN, Bx.d_rng1, Bx.d_rng2, Bx.d_seq, Bx.d_seq_ok, Bx.d_items, Bx.d_enum, Bx.d_enum_ok, Bx.d_zip, Bx.d_zip_ok, Bx.d_lc, Bx.d_lc_ok, Bx.d_lcE, Bx.d_par, Bx.d_par_ok, Bx.d_mte, Bx.d_mt_ok, Bx.d_mtv, Bx.d_mv_ok, Bx.d_chk, Bx.d_mc, Bx.e_pL, Bx.e_pT, Bx.d_sl, Bx.d_sl1, Bx.d_sl2, Bx.d_sl3, Bx.d_sl4, Bx.d_evPn, Bx.d_evPs, Bx.d_evPk, Bx.d_iI, Bx.d_iIk, Bx.d_ch, Bx.d_ch1, Bx.d_ch2, Bx.d_ch3f, Bx.d_ch3t, Bx.d_ch4, Bx.d_ch5, Bx.d_me, Bx.d_me1, Bx.d_me2, Bx.d_fld, Bx.d_fld1, Bx.d_rai, Bx.d_rai1, Bx.d_cv, Bx.d_cv1, Bx.d_cv2, Bx.d_yes, mkVw, takeP, wipeV, List.map_cons, List.map_nil, List.replicate_succ, List.replicate_zero, List.length_cons, List.length_nil, List.cons_append, List.nil_append, List.getElem?_cons_succ, List.getElem?_cons_zero, List.set_cons_zero, List.set_cons_succ, Nat.reduceAdd, Nat.reduceSub, Nat.reduceLT, Nat.lt_add_left_iff_pos, decide_true, decide_false, Bool.not_true, Bool.not_false, if_true, if_false, reduceIte, Bool.false_eq_true, Option.map_some, Option.map_none, Nat.zero_lt_succ, Nat.reduceLeDiff, eq_self, and_self, and_true, true_and, hl, hs]
  have s4 : ((jIf (iB (iOp opNe [(.e (iOp opRepr [(.e (iCall (D__law_fields K) [false, false] [(.e (iVar 8)), (.e (iVar 9))]))])), (.e (iOp opRepr [(.v 10)]))])) (jRet (iC (.bl false))) jNx)) [some scr, some p, some VA, some at_, some M, o5, o6, o7, some one, some nm, some due, o11, o12] = .ok .nx [some scr, some p, some VA, some at_, some M, o5, o6, o7, some one, some nm, some due, o11, o12] := by
    simp (maxSteps := 400000) only [Bx.e_def, Bx.e_end_nx, Bx.e_end_rt, Bx.e_end_exc, Bx.e_retF, Bx.e_excF, Bx.e_seq, Bx.e_seq_nx, Bx.e_seq_rt, Bx.e_seq_bk, Bx.e_seq_ct, Bx.e_seq_exc, Bx.e_nx, Bx.e_bk, Bx.e_ct, Bx.e_retN, Bx.e_if, Bx.e_if_t, Bx.e_if_f, Bx.e_if_x, Bx.e_ret, Bx.e_ret_ok, Bx.e_ret_x, Bx.e_expr, Bx.e_expr_ok, Bx.e_expr_x, Bx.e_asg, Bx.e_asg_ok, Bx.e_asg_x, Bx.e_put, Bx.e_put1, Bx.e_hk1, Bx.e_mk_l, Bx.e_lk_l, Bx.e_mk_d, Bx.e_mk_i, Bx.e_mu, Bx.e_mu_ok, Bx.e_mu_x, Bx.e_mf1, Bx.e_mo, Bx.e_gd, Bx.e_put2, Bx.e_op, Bx.e_op_ok, Bx.e_op_x, Bx.e_fin, Bx.e_res, Bx.e_evO0, Bx.e_evOe, Bx.e_val, Bx.e_val_x, Bx.e_cons, Bx.e_cons_x, Bx.e_evOv, Bx.e_bor, Bx.e_resAll0, Bx.e_resAllv, Bx.e_resAllb, Bx.e_br, Bx.e_mapS, Bx.e_c, Bx.e_var, Bx.e_vari, Bx.e_pu_t, Bx.e_pu_f, Bx.e_b, Bx.e_b_ok, Bx.e_b_x, Bx.e_tr, Bx.e_tr_ok, Bx.e_true, Bx.e_truth, Bx.e_truth_b, Bx.e_andT, Bx.e_and_t, Bx.e_and_f, Bx.e_orT, Bx.e_or_t, Bx.e_or_f, Bx.e_notT, Bx.e_not_ok, Bx.e_notE, Bx.e_notE_ok, Bx.e_ifE, Bx.e_ifE_t, Bx.e_ifE_f, Bx.e_andE, Bx.e_andE_ok, Bx.e_andE_t, Bx.e_andE_f, Bx.e_orE, Bx.e_orE_ok, Bx.e_orE_t, Bx.e_orE_f, Bx.e_evA0, Bx.e_evA, Bx.e_A, Bx.e_A_x, Bx.e_ACons, Bx.e_ACons_x, Bx.e_tup, Bx.e_tup_ok, Bx.e_lst, Bx.e_lst_ok, Bx.e_disp, Bx.e_disp_ok, Bx.e_shr, Bx.e_shr_ok, Bx.e_call, Bx.e_call_ok, Bx.e_mv, Bx.e_rf, Bx.e_rf_x, Bx.e_wb, Bx.e_wx, Bx.e_mvv, Bx.e_mvf, Bx.e_mvb, Bx.e_mb, Bx.e_mv0, Bx.e_mapM, Bx.e_wb0, Bx.e_wbs, Bx.e_ws, Bx.e_wbn, Bx.e_p_int, Bx.e_p_str, Bx.e_p_bl, Bx.e_p_non, Bx.e_p_ref, Bx.e_p_ty, Bx.e_s_int, Bx.e_s_str, Bx.e_s_bl, Bx.e_s_non, Bx.e_for, Bx.e_for_ok, Bx.e_loop1, Bx.e_turn_nx, Bx.e_turn_rt, Bx.e_gN, Bx.d_rng1, Bx.d_rng2, Bx.d_seq, Bx.d_seq_ok, Bx.d_items, Bx.d_enum, Bx.d_enum_ok, Bx.d_zip, Bx.d_zip_ok, Bx.d_lc, Bx.d_lc_ok, Bx.d_lcE, Bx.d_par, Bx.d_par_ok, Bx.d_mte, Bx.d_mt_ok, Bx.d_mtv, Bx.d_mv_ok, Bx.d_chk, Bx.d_mc, Bx.e_pL, Bx.e_pT, Bx.d_sl, Bx.d_sl1, Bx.d_sl2, Bx.d_sl3, Bx.d_sl4, Bx.d_evPn, Bx.d_evPs, Bx.d_evPk, Bx.d_iI, Bx.d_iIk, Bx.d_ch, Bx.d_ch1, Bx.d_ch2, Bx.d_ch3f, Bx.d_ch3t, Bx.d_ch4, Bx.d_ch5, Bx.d_me, Bx.d_me1, Bx.d_me2, Bx.d_fld, Bx.d_fld1, Bx.d_rai, Bx.d_rai1, Bx.d_cv, Bx.d_cv1, Bx.d_cv2, Bx.d_yes, mkVw, takeP, wipeV, List.map_cons, List.map_nil, List.replicate_succ, List.replicate_zero, List.length_cons, List.length_nil, List.cons_append, List.nil_append, List.getElem?_cons_succ, List.getElem?_cons_zero, List.set_cons_zero, List.set_cons_succ, Nat.reduceAdd, Nat.reduceSub, Nat.reduceLT, Nat.lt_add_left_iff_pos, decide_true, decide_false, Bool.not_true, Bool.not_false, if_true, if_false, reduceIte, Bool.false_eq_true, Option.map_some, Option.map_none, Nat.zero_lt_succ, Nat.reduceLeDiff, eq_self, and_self, and_true, true_and, hp1, hp2, hf, r1, r2, hss]
  have s5 : (jIf (iB (iOp opNe [(.e (iCall (D__law_kinds K) [false] [(.e (iVar 8))])), (.e lcI)])) (jRet (iC (.bl false))) jNx) [some scr, some p, some VA, some at_, some M, o5, o6, o7, some one, some nm, some due, o11, o12] = .ok .nx [some scr, some p, some VA, some at_, some M, o5, o6, o7, some one, some nm, some due, o11, none] := by
    generalize lcI = LI at *
    simp (maxSteps := 400000) only [Bx.e_def, Bx.e_end_nx, Bx.e_end_rt, Bx.e_end_exc, Bx.e_retF, Bx.e_excF, Bx.e_seq, Bx.e_seq_nx, Bx.e_seq_rt, Bx.e_seq_bk, Bx.e_seq_ct, Bx.e_seq_exc, Bx.e_nx, Bx.e_bk, Bx.e_ct, Bx.e_retN, Bx.e_if, Bx.e_if_t, Bx.e_if_f, Bx.e_if_x, Bx.e_ret, Bx.e_ret_ok, Bx.e_ret_x, Bx.e_expr, Bx.e_expr_ok, Bx.e_expr_x, Bx.e_asg, Bx.e_asg_ok, Bx.e_asg_x, Bx.e_put, Bx.e_put1, Bx.e_hk1, Bx.e_mk_l, Bx.e_lk_l, Bx.e_mk_d, Bx.e_mk_i, Bx.e_mu, Bx.e_mu_ok, Bx.e_mu_x, Bx.e_mf1, Bx.e_mo, Bx.e_gd, Bx.e_put2, Bx.e_op, Bx.e_op_ok, Bx.e_op_x, Bx.e_fin, Bx.e_res, Bx.e_evO0, Bx.e_evOe, Bx.e_val, Bx.e_val_x, Bx.e_cons, Bx.e_cons_x, Bx.e_evOv, Bx.e_bor, Bx.e_resAll0, Bx.e_resAllv, Bx.e_resAllb, Bx.e_br, Bx.e_mapS, Bx.e_c, Bx.e_var, Bx.e_vari, Bx.e_pu_t, Bx.e_pu_f, Bx.e_b, Bx.e_b_ok, Bx.e_b_x, Bx.e_tr, Bx.e_tr_ok, Bx.e_true, Bx.e_truth, Bx.e_truth_b, Bx.e_andT, Bx.e_and_t, Bx.e_and_f, Bx.e_orT, Bx.e_or_t, Bx.e_or_f, Bx.e_notT, Bx.e_not_ok, Bx.e_notE, Bx.e_notE_ok, Bx.e_ifE, Bx.e_ifE_t, Bx.e_ifE_f, Bx.e_andE, Bx.e_andE_ok, Bx.e_andE_t, Bx.e_andE_f, Bx.e_orE, Bx.e_orE_ok, Bx.e_orE_t, Bx.e_orE_f, Bx.e_evA0, Bx.e_evA, Bx.e_A, Bx.e_A_x, Bx.e_ACons, Bx.e_ACons_x, Bx.e_tup, Bx.e_tup_ok, Bx.e_lst, Bx.e_lst_ok, Bx.e_disp, Bx.e_disp_ok, Bx.e_shr, Bx.e_shr_ok, Bx.e_call, Bx.e_call_ok, Bx.e_mv, Bx.e_rf, Bx.e_rf_x, Bx.e_wb, Bx.e_wx, Bx.e_mvv, Bx.e_mvf, Bx.e_mvb, Bx.e_mb, Bx.e_mv0, Bx.e_mapM, Bx.e_wb0, Bx.e_wbs, Bx.e_ws, Bx.e_wbn, Bx.e_p_int, Bx.e_p_str, Bx.e_p_bl, Bx.e_p_non, Bx.e_p_ref, Bx.e_p_ty, Bx.e_s_int, Bx.e_s_str, Bx.e_s_bl, Bx.e_s_non, Bx.e_for, Bx.e_for_ok, Bx.e_loop1, Bx.e_turn_nx, Bx.e_turn_rt, Bx.e_gN, Bx.d_rng1, Bx.d_rng2, Bx.d_seq, Bx.d_seq_ok, Bx.d_items, Bx.d_enum, Bx.d_enum_ok, Bx.d_zip, Bx.d_zip_ok, Bx.d_lc, Bx.d_lc_ok, Bx.d_lcE, Bx.d_par, Bx.d_par_ok, Bx.d_mte, Bx.d_mt_ok, Bx.d_mtv, Bx.d_mv_ok, Bx.d_chk, Bx.d_mc, Bx.e_pL, Bx.e_pT, Bx.d_sl, Bx.d_sl1, Bx.d_sl2, Bx.d_sl3, Bx.d_sl4, Bx.d_evPn, Bx.d_evPs, Bx.d_evPk, Bx.d_iI, Bx.d_iIk, Bx.d_ch, Bx.d_ch1, Bx.d_ch2, Bx.d_ch3f, Bx.d_ch3t, Bx.d_ch4, Bx.d_ch5, Bx.d_me, Bx.d_me1, Bx.d_me2, Bx.d_fld, Bx.d_fld1, Bx.d_rai, Bx.d_rai1, Bx.d_cv, Bx.d_cv1, Bx.d_cv2, Bx.d_yes, mkVw, takeP, wipeV, List.map_cons, List.map_nil, List.replicate_succ, List.replicate_zero, List.length_cons, List.length_nil, List.cons_append, List.nil_append, List.getElem?_cons_succ, List.getElem?_cons_zero, List.set_cons_zero, List.set_cons_succ, Nat.reduceAdd, Nat.reduceSub, Nat.reduceLT, Nat.lt_add_left_iff_pos, decide_true, decide_false, Bool.not_true, Bool.not_false, if_true, if_false, reduceIte, Bool.false_eq_true, Option.map_some, Option.map_none, Nat.zero_lt_succ, Nat.reduceLeDiff, eq_self, and_self, and_true, true_and, hp1, hk, hlc, hn]
  unfold lcI at s5
  unfold trB
  rw [e_seq, s1, e_seq_nx, e_seq, s2, e_seq_nx, e_seq, s3, e_seq_nx, e_seq, s4, e_seq_nx, s5]
end
end K01
set_option maxRecDepth 100000
set_option maxHeartbeats 4000000
set_option linter.all false
/-! K01b7: all turns. -/
namespace K01
open PySem PySem.Spec PyProof.Rows Bx
open L2 (Key)
def gL : TgF := gT 2 (gCons (gN 3) (gCons (gN 4) gNil))
theorem gt_e (x y : PV) (x0 x1 x2 x3 x4 x5 x6 x7 x8 x9 x10 x11 x12 : Option PV) : gL (T [x, y]) [x0, x1, x2, x3, x4, x5, x6, x7, x8, x9, x10, x11, x12] = some [x0, x1, x2, some x, some y, x5, x6, x7, x8, x9, x10, x11, x12] := rfl
section
variable (K : PySem.W.Frag) (scr p a b c : PV) (ha : a.pure = true) (hb : b.pure = true) (hc : c.pure = true) (ra : rvB a = true) (rb : rvB b = true) (rc : rvB c = true)
include ha hb hc ra rb rc
theorem tu_0 (o5 o6 o7 o8 o9 o10 o11 o12 : Option PV) : trB K [some scr, some p, some (L [a, b, c]), some (.int 0), some (T [(.nd (.xc "BadText" ["word", "line"]) false [b, a]), .nd .lst false (txs ["line", "word"])]), o5, o6, o7, o8, o9, o10, o11, o12] = .ok .nx [some scr, some p, some (L [a, b, c]), some (.int 0), some (T [(.nd (.xc "BadText" ["word", "line"]) false [b, a]), .nd .lst false (txs ["line", "word"])]), o5, o6, o7, some (.nd (.xc "BadText" ["word", "line"]) false [b, a]), some (.nd .lst false (txs ["line", "word"])), some (L [a, b]), o11, none] := by
  obtain ⟨s, r⟩ := rep_list [a, b] (List.forall_mem_cons.mpr ⟨ra, (List.forall_mem_cons.mpr ⟨rb, (fun _ h => nomatch h)⟩)⟩) (by simp)
  have r1 : opRepr [.nd .lst false [a, b]] = opRepr [L [a, b]] := by kernel_rfl
  have hs : opSl [L [a, b, c]] none (some 2) = if pures [a, b, c] = true then some (L [a, b]) else none := by kernel_rfl
  exact turn_ok K scr p a b c o5 o6 o7 o8 o9 o10 o11 o12 (.int 0) (.nd (.xc "BadText" ["word", "line"]) false [b, a]) (.nd .lst false (txs ["line", "word"])) (L [a, b]) (.nd .lst false [a, b]) _ _ s 2 (by rw [PV.pure, (pures2 hb ha)]; rfl) (by rw [PV.pure, txs_pure]; rfl) (is_BadText _ _).1 (is_BadText _ _).2 (by kernel_rfl) (hs.trans (if_pos (pures3 ha hb hc))) (fo_BadText K a b c ha hb hc) (r1.trans r) r (ki_BadText K _ _) ne_0 (lc_0 _ _ _ _ _ _ _ _ _ _ _ _)
theorem sp_0 (rest : List PV) (o3 o4 o5 o6 o7 o8 o9 o10 o11 o12 : Option PV) : jLoop gL (trB K) (T [.int 0, (T [(.nd (.xc "BadText" ["word", "line"]) false [b, a]), .nd .lst false (txs ["line", "word"])])] :: rest) [some scr, some p, some (L [a, b, c]), o3, o4, o5, o6, o7, o8, o9, o10, o11, o12] = jLoop gL (trB K) rest [some scr, some p, some (L [a, b, c]), some (.int 0), some (T [(.nd (.xc "BadText" ["word", "line"]) false [b, a]), .nd .lst false (txs ["line", "word"])]), o5, o6, o7, some (.nd (.xc "BadText" ["word", "line"]) false [b, a]), some (.nd .lst false (txs ["line", "word"])), some (L [a, b]), o11, none] := by
  rw [e_loop, gt_e, e_loop1, tu_0 K scr p a b c ha hb hc ra rb rc, e_turn_nx]
theorem tu_1 (o5 o6 o7 o8 o9 o10 o11 o12 : Option PV) : trB K [some scr, some p, some (L [a, b, c]), some (.int 1), some (T [(.nd (.xc "BadName" ["name"]) false [a]), .nd .lst false (txs ["name"])]), o5, o6, o7, o8, o9, o10, o11, o12] = .ok .nx [some scr, some p, some (L [a, b, c]), some (.int 1), some (T [(.nd (.xc "BadName" ["name"]) false [a]), .nd .lst false (txs ["name"])]), o5, o6, o7, some (.nd (.xc "BadName" ["name"]) false [a]), some (.nd .lst false (txs ["name"])), some (L [a]), o11, none] := by
  obtain ⟨s, r⟩ := rep_list [a] (List.forall_mem_cons.mpr ⟨ra, (fun _ h => nomatch h)⟩) (by simp)
  have r1 : opRepr [.nd .lst false [a]] = opRepr [L [a]] := by kernel_rfl
  have hs : opSl [L [a, b, c]] none (some 1) = if pures [a, b, c] = true then some (L [a]) else none := by kernel_rfl
  exact turn_ok K scr p a b c o5 o6 o7 o8 o9 o10 o11 o12 (.int 1) (.nd (.xc "BadName" ["name"]) false [a]) (.nd .lst false (txs ["name"])) (L [a]) (.nd .lst false [a]) _ _ s 1 (by rw [PV.pure, (pures1 ha)]; rfl) (by rw [PV.pure, txs_pure]; rfl) (is_BadName _ _).1 (is_BadName _ _).2 (by kernel_rfl) (hs.trans (if_pos (pures3 ha hb hc))) (fo_BadName K a b c ha hb hc) (r1.trans r) r (ki_BadName K _ _) ne_1 (lc_1 _ _ _ _ _ _ _ _ _ _ _ _)
theorem sp_1 (rest : List PV) (o3 o4 o5 o6 o7 o8 o9 o10 o11 o12 : Option PV) : jLoop gL (trB K) (T [.int 1, (T [(.nd (.xc "BadName" ["name"]) false [a]), .nd .lst false (txs ["name"])])] :: rest) [some scr, some p, some (L [a, b, c]), o3, o4, o5, o6, o7, o8, o9, o10, o11, o12] = jLoop gL (trB K) rest [some scr, some p, some (L [a, b, c]), some (.int 1), some (T [(.nd (.xc "BadName" ["name"]) false [a]), .nd .lst false (txs ["name"])]), o5, o6, o7, some (.nd (.xc "BadName" ["name"]) false [a]), some (.nd .lst false (txs ["name"])), some (L [a]), o11, none] := by
  rw [e_loop, gt_e, e_loop1, tu_1 K scr p a b c ha hb hc ra rb rc, e_turn_nx]
theorem tu_2 (o5 o6 o7 o8 o9 o10 o11 o12 : Option PV) : trB K [some scr, some p, some (L [a, b, c]), some (.int 2), some (T [(.nd (.xc "BadNumber" ["number", "what"]) false [b, a]), .nd .lst false (txs ["what", "number"])]), o5, o6, o7, o8, o9, o10, o11, o12] = .ok .nx [some scr, some p, some (L [a, b, c]), some (.int 2), some (T [(.nd (.xc "BadNumber" ["number", "what"]) false [b, a]), .nd .lst false (txs ["what", "number"])]), o5, o6, o7, some (.nd (.xc "BadNumber" ["number", "what"]) false [b, a]), some (.nd .lst false (txs ["what", "number"])), some (L [a, b]), o11, none] := by
  obtain ⟨s, r⟩ := rep_list [a, b] (List.forall_mem_cons.mpr ⟨ra, (List.forall_mem_cons.mpr ⟨rb, (fun _ h => nomatch h)⟩)⟩) (by simp)
  have r1 : opRepr [.nd .lst false [a, b]] = opRepr [L [a, b]] := by kernel_rfl
  have hs : opSl [L [a, b, c]] none (some 2) = if pures [a, b, c] = true then some (L [a, b]) else none := by kernel_rfl
  exact turn_ok K scr p a b c o5 o6 o7 o8 o9 o10 o11 o12 (.int 2) (.nd (.xc "BadNumber" ["number", "what"]) false [b, a]) (.nd .lst false (txs ["what", "number"])) (L [a, b]) (.nd .lst false [a, b]) _ _ s 2 (by rw [PV.pure, (pures2 hb ha)]; rfl) (by rw [PV.pure, txs_pure]; rfl) (is_BadNumber _ _).1 (is_BadNumber _ _).2 (by kernel_rfl) (hs.trans (if_pos (pures3 ha hb hc))) (fo_BadNumber K a b c ha hb hc) (r1.trans r) r (ki_BadNumber K _ _) ne_2 (lc_2 _ _ _ _ _ _ _ _ _ _ _ _)
theorem sp_2 (rest : List PV) (o3 o4 o5 o6 o7 o8 o9 o10 o11 o12 : Option PV) : jLoop gL (trB K) (T [.int 2, (T [(.nd (.xc "BadNumber" ["number", "what"]) false [b, a]), .nd .lst false (txs ["what", "number"])])] :: rest) [some scr, some p, some (L [a, b, c]), o3, o4, o5, o6, o7, o8, o9, o10, o11, o12] = jLoop gL (trB K) rest [some scr, some p, some (L [a, b, c]), some (.int 2), some (T [(.nd (.xc "BadNumber" ["number", "what"]) false [b, a]), .nd .lst false (txs ["what", "number"])]), o5, o6, o7, some (.nd (.xc "BadNumber" ["number", "what"]) false [b, a]), some (.nd .lst false (txs ["what", "number"])), some (L [a, b]), o11, none] := by
  rw [e_loop, gt_e, e_loop1, tu_2 K scr p a b c ha hb hc ra rb rc, e_turn_nx]
theorem tu_3 (o5 o6 o7 o8 o9 o10 o11 o12 : Option PV) : trB K [some scr, some p, some (L [a, b, c]), some (.int 3), some (T [(.nd (.xc "BadRow" ["row", "what"]) false [b, a]), .nd .lst false (txs ["what", "row"])]), o5, o6, o7, o8, o9, o10, o11, o12] = .ok .nx [some scr, some p, some (L [a, b, c]), some (.int 3), some (T [(.nd (.xc "BadRow" ["row", "what"]) false [b, a]), .nd .lst false (txs ["what", "row"])]), o5, o6, o7, some (.nd (.xc "BadRow" ["row", "what"]) false [b, a]), some (.nd .lst false (txs ["what", "row"])), some (L [a, b]), o11, none] := by
  obtain ⟨s, r⟩ := rep_list [a, b] (List.forall_mem_cons.mpr ⟨ra, (List.forall_mem_cons.mpr ⟨rb, (fun _ h => nomatch h)⟩)⟩) (by simp)
  have r1 : opRepr [.nd .lst false [a, b]] = opRepr [L [a, b]] := by kernel_rfl
  have hs : opSl [L [a, b, c]] none (some 2) = if pures [a, b, c] = true then some (L [a, b]) else none := by kernel_rfl
  exact turn_ok K scr p a b c o5 o6 o7 o8 o9 o10 o11 o12 (.int 3) (.nd (.xc "BadRow" ["row", "what"]) false [b, a]) (.nd .lst false (txs ["what", "row"])) (L [a, b]) (.nd .lst false [a, b]) _ _ s 2 (by rw [PV.pure, (pures2 hb ha)]; rfl) (by rw [PV.pure, txs_pure]; rfl) (is_BadRow _ _).1 (is_BadRow _ _).2 (by kernel_rfl) (hs.trans (if_pos (pures3 ha hb hc))) (fo_BadRow K a b c ha hb hc) (r1.trans r) r (ki_BadRow K _ _) ne_3 (lc_3 _ _ _ _ _ _ _ _ _ _ _ _)
theorem sp_3 (rest : List PV) (o3 o4 o5 o6 o7 o8 o9 o10 o11 o12 : Option PV) : jLoop gL (trB K) (T [.int 3, (T [(.nd (.xc "BadRow" ["row", "what"]) false [b, a]), .nd .lst false (txs ["what", "row"])])] :: rest) [some scr, some p, some (L [a, b, c]), o3, o4, o5, o6, o7, o8, o9, o10, o11, o12] = jLoop gL (trB K) rest [some scr, some p, some (L [a, b, c]), some (.int 3), some (T [(.nd (.xc "BadRow" ["row", "what"]) false [b, a]), .nd .lst false (txs ["what", "row"])]), o5, o6, o7, some (.nd (.xc "BadRow" ["row", "what"]) false [b, a]), some (.nd .lst false (txs ["what", "row"])), some (L [a, b]), o11, none] := by
  rw [e_loop, gt_e, e_loop1, tu_3 K scr p a b c ha hb hc ra rb rc, e_turn_nx]
theorem tu_4 (o5 o6 o7 o8 o9 o10 o11 o12 : Option PV) : trB K [some scr, some p, some (L [a, b, c]), some (.int 4), some (T [(.nd (.xc "NoName" ["name"]) false [a]), .nd .lst false (txs ["name"])]), o5, o6, o7, o8, o9, o10, o11, o12] = .ok .nx [some scr, some p, some (L [a, b, c]), some (.int 4), some (T [(.nd (.xc "NoName" ["name"]) false [a]), .nd .lst false (txs ["name"])]), o5, o6, o7, some (.nd (.xc "NoName" ["name"]) false [a]), some (.nd .lst false (txs ["name"])), some (L [a]), o11, none] := by
  obtain ⟨s, r⟩ := rep_list [a] (List.forall_mem_cons.mpr ⟨ra, (fun _ h => nomatch h)⟩) (by simp)
  have r1 : opRepr [.nd .lst false [a]] = opRepr [L [a]] := by kernel_rfl
  have hs : opSl [L [a, b, c]] none (some 1) = if pures [a, b, c] = true then some (L [a]) else none := by kernel_rfl
  exact turn_ok K scr p a b c o5 o6 o7 o8 o9 o10 o11 o12 (.int 4) (.nd (.xc "NoName" ["name"]) false [a]) (.nd .lst false (txs ["name"])) (L [a]) (.nd .lst false [a]) _ _ s 1 (by rw [PV.pure, (pures1 ha)]; rfl) (by rw [PV.pure, txs_pure]; rfl) (is_NoName _ _).1 (is_NoName _ _).2 (by kernel_rfl) (hs.trans (if_pos (pures3 ha hb hc))) (fo_NoName K a b c ha hb hc) (r1.trans r) r (ki_NoName K _ _) ne_4 (lc_4 _ _ _ _ _ _ _ _ _ _ _ _)
theorem sp_4 (rest : List PV) (o3 o4 o5 o6 o7 o8 o9 o10 o11 o12 : Option PV) : jLoop gL (trB K) (T [.int 4, (T [(.nd (.xc "NoName" ["name"]) false [a]), .nd .lst false (txs ["name"])])] :: rest) [some scr, some p, some (L [a, b, c]), o3, o4, o5, o6, o7, o8, o9, o10, o11, o12] = jLoop gL (trB K) rest [some scr, some p, some (L [a, b, c]), some (.int 4), some (T [(.nd (.xc "NoName" ["name"]) false [a]), .nd .lst false (txs ["name"])]), o5, o6, o7, some (.nd (.xc "NoName" ["name"]) false [a]), some (.nd .lst false (txs ["name"])), some (L [a]), o11, none] := by
  rw [e_loop, gt_e, e_loop1, tu_4 K scr p a b c ha hb hc ra rb rc, e_turn_nx]
theorem tu_5 (o5 o6 o7 o8 o9 o10 o11 o12 : Option PV) : trB K [some scr, some p, some (L [a, b, c]), some (.int 5), some (T [(.nd (.xc "TakenName" ["name"]) false [a]), .nd .lst false (txs ["name"])]), o5, o6, o7, o8, o9, o10, o11, o12] = .ok .nx [some scr, some p, some (L [a, b, c]), some (.int 5), some (T [(.nd (.xc "TakenName" ["name"]) false [a]), .nd .lst false (txs ["name"])]), o5, o6, o7, some (.nd (.xc "TakenName" ["name"]) false [a]), some (.nd .lst false (txs ["name"])), some (L [a]), o11, none] := by
  obtain ⟨s, r⟩ := rep_list [a] (List.forall_mem_cons.mpr ⟨ra, (fun _ h => nomatch h)⟩) (by simp)
  have r1 : opRepr [.nd .lst false [a]] = opRepr [L [a]] := by kernel_rfl
  have hs : opSl [L [a, b, c]] none (some 1) = if pures [a, b, c] = true then some (L [a]) else none := by kernel_rfl
  exact turn_ok K scr p a b c o5 o6 o7 o8 o9 o10 o11 o12 (.int 5) (.nd (.xc "TakenName" ["name"]) false [a]) (.nd .lst false (txs ["name"])) (L [a]) (.nd .lst false [a]) _ _ s 1 (by rw [PV.pure, (pures1 ha)]; rfl) (by rw [PV.pure, txs_pure]; rfl) (is_TakenName _ _).1 (is_TakenName _ _).2 (by kernel_rfl) (hs.trans (if_pos (pures3 ha hb hc))) (fo_TakenName K a b c ha hb hc) (r1.trans r) r (ki_TakenName K _ _) ne_5 (lc_5 _ _ _ _ _ _ _ _ _ _ _ _)
theorem sp_5 (rest : List PV) (o3 o4 o5 o6 o7 o8 o9 o10 o11 o12 : Option PV) : jLoop gL (trB K) (T [.int 5, (T [(.nd (.xc "TakenName" ["name"]) false [a]), .nd .lst false (txs ["name"])])] :: rest) [some scr, some p, some (L [a, b, c]), o3, o4, o5, o6, o7, o8, o9, o10, o11, o12] = jLoop gL (trB K) rest [some scr, some p, some (L [a, b, c]), some (.int 5), some (T [(.nd (.xc "TakenName" ["name"]) false [a]), .nd .lst false (txs ["name"])]), o5, o6, o7, some (.nd (.xc "TakenName" ["name"]) false [a]), some (.nd .lst false (txs ["name"])), some (L [a]), o11, none] := by
  rw [e_loop, gt_e, e_loop1, tu_5 K scr p a b c ha hb hc ra rb rc, e_turn_nx]
theorem tu_6 (o5 o6 o7 o8 o9 o10 o11 o12 : Option PV) : trB K [some scr, some p, some (L [a, b, c]), some (.int 6), some (T [(.nd (.xc "Unlike" ["what"]) false [a]), .nd .lst false (txs ["what"])]), o5, o6, o7, o8, o9, o10, o11, o12] = .ok .nx [some scr, some p, some (L [a, b, c]), some (.int 6), some (T [(.nd (.xc "Unlike" ["what"]) false [a]), .nd .lst false (txs ["what"])]), o5, o6, o7, some (.nd (.xc "Unlike" ["what"]) false [a]), some (.nd .lst false (txs ["what"])), some (L [a]), o11, none] := by
  obtain ⟨s, r⟩ := rep_list [a] (List.forall_mem_cons.mpr ⟨ra, (fun _ h => nomatch h)⟩) (by simp)
  have r1 : opRepr [.nd .lst false [a]] = opRepr [L [a]] := by kernel_rfl
  have hs : opSl [L [a, b, c]] none (some 1) = if pures [a, b, c] = true then some (L [a]) else none := by kernel_rfl
  exact turn_ok K scr p a b c o5 o6 o7 o8 o9 o10 o11 o12 (.int 6) (.nd (.xc "Unlike" ["what"]) false [a]) (.nd .lst false (txs ["what"])) (L [a]) (.nd .lst false [a]) _ _ s 1 (by rw [PV.pure, (pures1 ha)]; rfl) (by rw [PV.pure, txs_pure]; rfl) (is_Unlike _ _).1 (is_Unlike _ _).2 (by kernel_rfl) (hs.trans (if_pos (pures3 ha hb hc))) (fo_Unlike K a b c ha hb hc) (r1.trans r) r (ki_Unlike K _ _) ne_6 (lc_6 _ _ _ _ _ _ _ _ _ _ _ _)
theorem sp_6 (rest : List PV) (o3 o4 o5 o6 o7 o8 o9 o10 o11 o12 : Option PV) : jLoop gL (trB K) (T [.int 6, (T [(.nd (.xc "Unlike" ["what"]) false [a]), .nd .lst false (txs ["what"])])] :: rest) [some scr, some p, some (L [a, b, c]), o3, o4, o5, o6, o7, o8, o9, o10, o11, o12] = jLoop gL (trB K) rest [some scr, some p, some (L [a, b, c]), some (.int 6), some (T [(.nd (.xc "Unlike" ["what"]) false [a]), .nd .lst false (txs ["what"])]), o5, o6, o7, some (.nd (.xc "Unlike" ["what"]) false [a]), some (.nd .lst false (txs ["what"])), some (L [a]), o11, none] := by
  rw [e_loop, gt_e, e_loop1, tu_6 K scr p a b c ha hb hc ra rb rc, e_turn_nx]
theorem tu_7 (o5 o6 o7 o8 o9 o10 o11 o12 : Option PV) : trB K [some scr, some p, some (L [a, b, c]), some (.int 7), some (T [(.nd (.xc "NotThere" ["what"]) false [a]), .nd .lst false (txs ["what"])]), o5, o6, o7, o8, o9, o10, o11, o12] = .ok .nx [some scr, some p, some (L [a, b, c]), some (.int 7), some (T [(.nd (.xc "NotThere" ["what"]) false [a]), .nd .lst false (txs ["what"])]), o5, o6, o7, some (.nd (.xc "NotThere" ["what"]) false [a]), some (.nd .lst false (txs ["what"])), some (L [a]), o11, none] := by
  obtain ⟨s, r⟩ := rep_list [a] (List.forall_mem_cons.mpr ⟨ra, (fun _ h => nomatch h)⟩) (by simp)
  have r1 : opRepr [.nd .lst false [a]] = opRepr [L [a]] := by kernel_rfl
  have hs : opSl [L [a, b, c]] none (some 1) = if pures [a, b, c] = true then some (L [a]) else none := by kernel_rfl
  exact turn_ok K scr p a b c o5 o6 o7 o8 o9 o10 o11 o12 (.int 7) (.nd (.xc "NotThere" ["what"]) false [a]) (.nd .lst false (txs ["what"])) (L [a]) (.nd .lst false [a]) _ _ s 1 (by rw [PV.pure, (pures1 ha)]; rfl) (by rw [PV.pure, txs_pure]; rfl) (is_NotThere _ _).1 (is_NotThere _ _).2 (by kernel_rfl) (hs.trans (if_pos (pures3 ha hb hc))) (fo_NotThere K a b c ha hb hc) (r1.trans r) r (ki_NotThere K _ _) ne_7 (lc_7 _ _ _ _ _ _ _ _ _ _ _ _)
theorem sp_7 (rest : List PV) (o3 o4 o5 o6 o7 o8 o9 o10 o11 o12 : Option PV) : jLoop gL (trB K) (T [.int 7, (T [(.nd (.xc "NotThere" ["what"]) false [a]), .nd .lst false (txs ["what"])])] :: rest) [some scr, some p, some (L [a, b, c]), o3, o4, o5, o6, o7, o8, o9, o10, o11, o12] = jLoop gL (trB K) rest [some scr, some p, some (L [a, b, c]), some (.int 7), some (T [(.nd (.xc "NotThere" ["what"]) false [a]), .nd .lst false (txs ["what"])]), o5, o6, o7, some (.nd (.xc "NotThere" ["what"]) false [a]), some (.nd .lst false (txs ["what"])), some (L [a]), o11, none] := by
  rw [e_loop, gt_e, e_loop1, tu_7 K scr p a b c ha hb hc ra rb rc, e_turn_nx]
theorem tu_8 (o5 o6 o7 o8 o9 o10 o11 o12 : Option PV) : trB K [some scr, some p, some (L [a, b, c]), some (.int 8), some (T [(.nd (.xc "TooMany" ["limit", "many", "what"]) false [c, b, a]), .nd .lst false (txs ["what", "many", "limit"])]), o5, o6, o7, o8, o9, o10, o11, o12] = .ok .nx [some scr, some p, some (L [a, b, c]), some (.int 8), some (T [(.nd (.xc "TooMany" ["limit", "many", "what"]) false [c, b, a]), .nd .lst false (txs ["what", "many", "limit"])]), o5, o6, o7, some (.nd (.xc "TooMany" ["limit", "many", "what"]) false [c, b, a]), some (.nd .lst false (txs ["what", "many", "limit"])), some (L [a, b, c]), o11, none] := by
  obtain ⟨s, r⟩ := rep_list [a, b, c] (List.forall_mem_cons.mpr ⟨ra, (List.forall_mem_cons.mpr ⟨rb, (List.forall_mem_cons.mpr ⟨rc, (fun _ h => nomatch h)⟩)⟩)⟩) (by simp)
  have r1 : opRepr [.nd .lst false [a, b, c]] = opRepr [L [a, b, c]] := by kernel_rfl
  have hs : opSl [L [a, b, c]] none (some 3) = if pures [a, b, c] = true then some (L [a, b, c]) else none := by kernel_rfl
  exact turn_ok K scr p a b c o5 o6 o7 o8 o9 o10 o11 o12 (.int 8) (.nd (.xc "TooMany" ["limit", "many", "what"]) false [c, b, a]) (.nd .lst false (txs ["what", "many", "limit"])) (L [a, b, c]) (.nd .lst false [a, b, c]) _ _ s 3 (by rw [PV.pure, (pures3 hc hb ha)]; rfl) (by rw [PV.pure, txs_pure]; rfl) (is_TooMany _ _).1 (is_TooMany _ _).2 (by kernel_rfl) (hs.trans (if_pos (pures3 ha hb hc))) (fo_TooMany K a b c ha hb hc) (r1.trans r) r (ki_TooMany K _ _) ne_8 (lc_8 _ _ _ _ _ _ _ _ _ _ _ _)
theorem sp_8 (rest : List PV) (o3 o4 o5 o6 o7 o8 o9 o10 o11 o12 : Option PV) : jLoop gL (trB K) (T [.int 8, (T [(.nd (.xc "TooMany" ["limit", "many", "what"]) false [c, b, a]), .nd .lst false (txs ["what", "many", "limit"])])] :: rest) [some scr, some p, some (L [a, b, c]), o3, o4, o5, o6, o7, o8, o9, o10, o11, o12] = jLoop gL (trB K) rest [some scr, some p, some (L [a, b, c]), some (.int 8), some (T [(.nd (.xc "TooMany" ["limit", "many", "what"]) false [c, b, a]), .nd .lst false (txs ["what", "many", "limit"])]), o5, o6, o7, some (.nd (.xc "TooMany" ["limit", "many", "what"]) false [c, b, a]), some (.nd .lst false (txs ["what", "many", "limit"])), some (L [a, b, c]), o11, none] := by
  rw [e_loop, gt_e, e_loop1, tu_8 K scr p a b c ha hb hc ra rb rc, e_turn_nx]
theorem tu_9 (o5 o6 o7 o8 o9 o10 o11 o12 : Option PV) : trB K [some scr, some p, some (L [a, b, c]), some (.int 9), some (T [(.nd (.xc "NotKept" ["witness", "promise"]) false [b, a]), .nd .lst false (txs ["promise", "witness"])]), o5, o6, o7, o8, o9, o10, o11, o12] = .ok .nx [some scr, some p, some (L [a, b, c]), some (.int 9), some (T [(.nd (.xc "NotKept" ["witness", "promise"]) false [b, a]), .nd .lst false (txs ["promise", "witness"])]), o5, o6, o7, some (.nd (.xc "NotKept" ["witness", "promise"]) false [b, a]), some (.nd .lst false (txs ["promise", "witness"])), some (L [a, b]), o11, none] := by
  obtain ⟨s, r⟩ := rep_list [a, b] (List.forall_mem_cons.mpr ⟨ra, (List.forall_mem_cons.mpr ⟨rb, (fun _ h => nomatch h)⟩)⟩) (by simp)
  have r1 : opRepr [.nd .lst false [a, b]] = opRepr [L [a, b]] := by kernel_rfl
  have hs : opSl [L [a, b, c]] none (some 2) = if pures [a, b, c] = true then some (L [a, b]) else none := by kernel_rfl
  exact turn_ok K scr p a b c o5 o6 o7 o8 o9 o10 o11 o12 (.int 9) (.nd (.xc "NotKept" ["witness", "promise"]) false [b, a]) (.nd .lst false (txs ["promise", "witness"])) (L [a, b]) (.nd .lst false [a, b]) _ _ s 2 (by rw [PV.pure, (pures2 hb ha)]; rfl) (by rw [PV.pure, txs_pure]; rfl) (is_NotKept _ _).1 (is_NotKept _ _).2 (by kernel_rfl) (hs.trans (if_pos (pures3 ha hb hc))) (fo_NotKept K a b c ha hb hc) (r1.trans r) r (ki_NotKept K _ _) ne_9 (lc_9 _ _ _ _ _ _ _ _ _ _ _ _)
theorem sp_9 (rest : List PV) (o3 o4 o5 o6 o7 o8 o9 o10 o11 o12 : Option PV) : jLoop gL (trB K) (T [.int 9, (T [(.nd (.xc "NotKept" ["witness", "promise"]) false [b, a]), .nd .lst false (txs ["promise", "witness"])])] :: rest) [some scr, some p, some (L [a, b, c]), o3, o4, o5, o6, o7, o8, o9, o10, o11, o12] = jLoop gL (trB K) rest [some scr, some p, some (L [a, b, c]), some (.int 9), some (T [(.nd (.xc "NotKept" ["witness", "promise"]) false [b, a]), .nd .lst false (txs ["promise", "witness"])]), o5, o6, o7, some (.nd (.xc "NotKept" ["witness", "promise"]) false [b, a]), some (.nd .lst false (txs ["promise", "witness"])), some (L [a, b]), o11, none] := by
  rw [e_loop, gt_e, e_loop1, tu_9 K scr p a b c ha hb hc ra rb rc, e_turn_nx]
theorem tu_10 (o5 o6 o7 o8 o9 o10 o11 o12 : Option PV) : trB K [some scr, some p, some (L [a, b, c]), some (.int 10), some (T [(.nd (.xc "NothingToUndo" []) false []), .nd .lst false (txs [])]), o5, o6, o7, o8, o9, o10, o11, o12] = .ok .nx [some scr, some p, some (L [a, b, c]), some (.int 10), some (T [(.nd (.xc "NothingToUndo" []) false []), .nd .lst false (txs [])]), o5, o6, o7, some (.nd (.xc "NothingToUndo" []) false []), some (.nd .lst false (txs [])), some (L []), o11, none] := by
  obtain ⟨s, r⟩ := rep_list [] (fun _ h => nomatch h) (by simp)
  have r1 : opRepr [.nd .lst false []] = opRepr [L []] := by kernel_rfl
  have hs : opSl [L [a, b, c]] none (some 0) = if pures [a, b, c] = true then some (L []) else none := by kernel_rfl
  exact turn_ok K scr p a b c o5 o6 o7 o8 o9 o10 o11 o12 (.int 10) (.nd (.xc "NothingToUndo" []) false []) (.nd .lst false (txs [])) (L []) (.nd .lst false []) _ _ s 0 (by rw [PV.pure, (rfl : pures [] = true)]; rfl) (by rw [PV.pure, txs_pure]; rfl) (is_NothingToUndo _ _).1 (is_NothingToUndo _ _).2 (by kernel_rfl) (hs.trans (if_pos (pures3 ha hb hc))) (fo_NothingToUndo K) (r1.trans r) r (ki_NothingToUndo K _ _) ne_10 (lc_10 _ _ _ _ _ _ _ _ _ _ _ _)
theorem sp_10 (rest : List PV) (o3 o4 o5 o6 o7 o8 o9 o10 o11 o12 : Option PV) : jLoop gL (trB K) (T [.int 10, (T [(.nd (.xc "NothingToUndo" []) false []), .nd .lst false (txs [])])] :: rest) [some scr, some p, some (L [a, b, c]), o3, o4, o5, o6, o7, o8, o9, o10, o11, o12] = jLoop gL (trB K) rest [some scr, some p, some (L [a, b, c]), some (.int 10), some (T [(.nd (.xc "NothingToUndo" []) false []), .nd .lst false (txs [])]), o5, o6, o7, some (.nd (.xc "NothingToUndo" []) false []), some (.nd .lst false (txs [])), some (L []), o11, none] := by
  rw [e_loop, gt_e, e_loop1, tu_10 K scr p a b c ha hb hc ra rb rc, e_turn_nx]
theorem tu_11 (o5 o6 o7 o8 o9 o10 o11 o12 : Option PV) : trB K [some scr, some p, some (L [a, b, c]), some (.int 11), some (T [(.nd (.xc "NothingToRedo" []) false []), .nd .lst false (txs [])]), o5, o6, o7, o8, o9, o10, o11, o12] = .ok .nx [some scr, some p, some (L [a, b, c]), some (.int 11), some (T [(.nd (.xc "NothingToRedo" []) false []), .nd .lst false (txs [])]), o5, o6, o7, some (.nd (.xc "NothingToRedo" []) false []), some (.nd .lst false (txs [])), some (L []), o11, none] := by
  obtain ⟨s, r⟩ := rep_list [] (fun _ h => nomatch h) (by simp)
  have r1 : opRepr [.nd .lst false []] = opRepr [L []] := by kernel_rfl
  have hs : opSl [L [a, b, c]] none (some 0) = if pures [a, b, c] = true then some (L []) else none := by kernel_rfl
  exact turn_ok K scr p a b c o5 o6 o7 o8 o9 o10 o11 o12 (.int 11) (.nd (.xc "NothingToRedo" []) false []) (.nd .lst false (txs [])) (L []) (.nd .lst false []) _ _ s 0 (by rw [PV.pure, (rfl : pures [] = true)]; rfl) (by rw [PV.pure, txs_pure]; rfl) (is_NothingToRedo _ _).1 (is_NothingToRedo _ _).2 (by kernel_rfl) (hs.trans (if_pos (pures3 ha hb hc))) (fo_NothingToRedo K) (r1.trans r) r (ki_NothingToRedo K _ _) ne_11 (lc_11 _ _ _ _ _ _ _ _ _ _ _ _)
theorem sp_11 (rest : List PV) (o3 o4 o5 o6 o7 o8 o9 o10 o11 o12 : Option PV) : jLoop gL (trB K) (T [.int 11, (T [(.nd (.xc "NothingToRedo" []) false []), .nd .lst false (txs [])])] :: rest) [some scr, some p, some (L [a, b, c]), o3, o4, o5, o6, o7, o8, o9, o10, o11, o12] = jLoop gL (trB K) rest [some scr, some p, some (L [a, b, c]), some (.int 11), some (T [(.nd (.xc "NothingToRedo" []) false []), .nd .lst false (txs [])]), o5, o6, o7, some (.nd (.xc "NothingToRedo" []) false []), some (.nd .lst false (txs [])), some (L []), o11, none] := by
  rw [e_loop, gt_e, e_loop1, tu_11 K scr p a b c ha hb hc ra rb rc, e_turn_nx]
theorem loop_ok (o5 o6 o7 o8 o9 o10 o11 o12 o3 o4 : Option PV) : ∃ x3 x4 x8 x9 x10 x12, jLoop gL (trB K) [T [.int 0, (T [(.nd (.xc "BadText" ["word", "line"]) false [b, a]), .nd .lst false (txs ["line", "word"])])], T [.int 1, (T [(.nd (.xc "BadName" ["name"]) false [a]), .nd .lst false (txs ["name"])])], T [.int 2, (T [(.nd (.xc "BadNumber" ["number", "what"]) false [b, a]), .nd .lst false (txs ["what", "number"])])], T [.int 3, (T [(.nd (.xc "BadRow" ["row", "what"]) false [b, a]), .nd .lst false (txs ["what", "row"])])], T [.int 4, (T [(.nd (.xc "NoName" ["name"]) false [a]), .nd .lst false (txs ["name"])])], T [.int 5, (T [(.nd (.xc "TakenName" ["name"]) false [a]), .nd .lst false (txs ["name"])])], T [.int 6, (T [(.nd (.xc "Unlike" ["what"]) false [a]), .nd .lst false (txs ["what"])])], T [.int 7, (T [(.nd (.xc "NotThere" ["what"]) false [a]), .nd .lst false (txs ["what"])])], T [.int 8, (T [(.nd (.xc "TooMany" ["limit", "many", "what"]) false [c, b, a]), .nd .lst false (txs ["what", "many", "limit"])])], T [.int 9, (T [(.nd (.xc "NotKept" ["witness", "promise"]) false [b, a]), .nd .lst false (txs ["promise", "witness"])])], T [.int 10, (T [(.nd (.xc "NothingToUndo" []) false []), .nd .lst false (txs [])])], T [.int 11, (T [(.nd (.xc "NothingToRedo" []) false []), .nd .lst false (txs [])])]] [some scr, some p, some (L [a, b, c]), o3, o4, o5, o6, o7, o8, o9, o10, o11, o12] = .ok .nx [some scr, some p, some (L [a, b, c]), x3, x4, o5, o6, o7, x8, x9, x10, o11, x12] :=
  ⟨_, _, _, _, _, _, ((sp_0 K scr p a b c ha hb hc ra rb rc _ _ _ _ _ _ _ _ _ _ _).trans ((sp_1 K scr p a b c ha hb hc ra rb rc _ _ _ _ _ _ _ _ _ _ _).trans ((sp_2 K scr p a b c ha hb hc ra rb rc _ _ _ _ _ _ _ _ _ _ _).trans ((sp_3 K scr p a b c ha hb hc ra rb rc _ _ _ _ _ _ _ _ _ _ _).trans ((sp_4 K scr p a b c ha hb hc ra rb rc _ _ _ _ _ _ _ _ _ _ _).trans ((sp_5 K scr p a b c ha hb hc ra rb rc _ _ _ _ _ _ _ _ _ _ _).trans ((sp_6 K scr p a b c ha hb hc ra rb rc _ _ _ _ _ _ _ _ _ _ _).trans ((sp_7 K scr p a b c ha hb hc ra rb rc _ _ _ _ _ _ _ _ _ _ _).trans ((sp_8 K scr p a b c ha hb hc ra rb rc _ _ _ _ _ _ _ _ _ _ _).trans ((sp_9 K scr p a b c ha hb hc ra rb rc _ _ _ _ _ _ _ _ _ _ _).trans ((sp_10 K scr p a b c ha hb hc ra rb rc _ _ _ _ _ _ _ _ _ _ _).trans ((sp_11 K scr p a b c ha hb hc ra rb rc _ _ _ _ _ _ _ _ _ _ _).trans rfl))))))))))))⟩
/-- the loop's source -/
theorem src_ok (o5 o6 o7 o8 o9 o10 o11 o12 o3 o4 : Option PV) : (sEnum (iOp opAdd [(.e (iCall (D__law_made_errors K) [false, false, false] [(.e (iOp opIx [(.v 2), (.e (iC (.int 0)))])), (.e (iOp opIx [(.v 2), (.e (iC (.int 1)))])), (.e (iOp opIx [(.v 2), (.e (iC (.int 2)))]))])), (.e (iShr (iLst [(iTup [(iC (.nd (.xc "NothingToUndo" []) false [])), (iLst [])]), (iTup [(iC (.nd (.xc "NothingToRedo" []) false [])), (iLst [])])])))])) [some scr, some p, some (L [a, b, c]), o3, o4, o5, o6, o7, o8, o9, o10, o11, o12] = .ok [T [.int 0, (T [(.nd (.xc "BadText" ["word", "line"]) false [b, a]), .nd .lst false (txs ["line", "word"])])], T [.int 1, (T [(.nd (.xc "BadName" ["name"]) false [a]), .nd .lst false (txs ["name"])])], T [.int 2, (T [(.nd (.xc "BadNumber" ["number", "what"]) false [b, a]), .nd .lst false (txs ["what", "number"])])], T [.int 3, (T [(.nd (.xc "BadRow" ["row", "what"]) false [b, a]), .nd .lst false (txs ["what", "row"])])], T [.int 4, (T [(.nd (.xc "NoName" ["name"]) false [a]), .nd .lst false (txs ["name"])])], T [.int 5, (T [(.nd (.xc "TakenName" ["name"]) false [a]), .nd .lst false (txs ["name"])])], T [.int 6, (T [(.nd (.xc "Unlike" ["what"]) false [a]), .nd .lst false (txs ["what"])])], T [.int 7, (T [(.nd (.xc "NotThere" ["what"]) false [a]), .nd .lst false (txs ["what"])])], T [.int 8, (T [(.nd (.xc "TooMany" ["limit", "many", "what"]) false [c, b, a]), .nd .lst false (txs ["what", "many", "limit"])])], T [.int 9, (T [(.nd (.xc "NotKept" ["witness", "promise"]) false [b, a]), .nd .lst false (txs ["promise", "witness"])])], T [.int 10, (T [(.nd (.xc "NothingToUndo" []) false []), .nd .lst false (txs [])])], T [.int 11, (T [(.nd (.xc "NothingToRedo" []) false []), .nd .lst false (txs [])])]] [some scr, some p, some (L [a, b, c]), o3, o4, o5, o6, o7, o8, o9, o10, o11, o12] := by
  have i0 : opIx [L [a, b, c], .int 0] = if a.pure = true then some a else none := by kernel_rfl
  have i1 : opIx [L [a, b, c], .int 1] = if b.pure = true then some b else none := by kernel_rfl
  have i2 : opIx [L [a, b, c], .int 2] = if c.pure = true then some c else none := by kernel_rfl
  rw [if_pos ha] at i0
  rw [if_pos hb] at i1
  rw [if_pos hc] at i2
  have hm := made_ok a b c ha hb hc K
  have pz : pures [(T [(.nd (.xc "NothingToUndo" []) false []), .nd .lst false (txs [])]), (T [(.nd (.xc "NothingToRedo" []) false []), .nd .lst false (txs [])])] = true := by kernel_rfl
  have p0 := mkp0 a b c ha hb hc
  have p1 := mkp1 a b c ha hb hc
  have p2 := mkp2 a b c ha hb hc
  have p3 := mkp3 a b c ha hb hc
  have pa : pures ([(T [(.nd (.xc "BadText" ["word", "line"]) false [b, a]), .nd .lst false (txs ["line", "word"])]), (T [(.nd (.xc "BadName" ["name"]) false [a]), .nd .lst false (txs ["name"])]), (T [(.nd (.xc "BadNumber" ["number", "what"]) false [b, a]), .nd .lst false (txs ["what", "number"])])] ++ [(T [(.nd (.xc "BadRow" ["row", "what"]) false [b, a]), .nd .lst false (txs ["what", "row"])]), (T [(.nd (.xc "NoName" ["name"]) false [a]), .nd .lst false (txs ["name"])]), (T [(.nd (.xc "TakenName" ["name"]) false [a]), .nd .lst false (txs ["name"])])] ++ [(T [(.nd (.xc "Unlike" ["what"]) false [a]), .nd .lst false (txs ["what"])]), (T [(.nd (.xc "NotThere" ["what"]) false [a]), .nd .lst false (txs ["what"])]), (T [(.nd (.xc "TooMany" ["limit", "many", "what"]) false [c, b, a]), .nd .lst false (txs ["what", "many", "limit"])])] ++ [(T [(.nd (.xc "NotKept" ["witness", "promise"]) false [b, a]), .nd .lst false (txs ["promise", "witness"])])]) = true := by letI : Tbs := ⟨[]⟩; exact pures_append (pures_append (pures_append p0 p1) p2) p3
  have hz : ∀ vw, (iShr (iLst [(iTup [(iC (.nd (.xc "NothingToUndo" []) false [])), (iLst [])]), (iTup [(iC (.nd (.xc "NothingToRedo" []) false [])), (iLst [])])])) vw = .ok (.nd .lst false [(T [(.nd (.xc "NothingToUndo" []) false []), .nd .lst false (txs [])]), (T [(.nd (.xc "NothingToRedo" []) false []), .nd .lst false (txs [])])]) vw := fun vw => by kernel_rfl
  have pall : pures ([(T [(.nd (.xc "BadText" ["word", "line"]) false [b, a]), .nd .lst false (txs ["line", "word"])]), (T [(.nd (.xc "BadName" ["name"]) false [a]), .nd .lst false (txs ["name"])]), (T [(.nd (.xc "BadNumber" ["number", "what"]) false [b, a]), .nd .lst false (txs ["what", "number"])]), (T [(.nd (.xc "BadRow" ["row", "what"]) false [b, a]), .nd .lst false (txs ["what", "row"])]), (T [(.nd (.xc "NoName" ["name"]) false [a]), .nd .lst false (txs ["name"])]), (T [(.nd (.xc "TakenName" ["name"]) false [a]), .nd .lst false (txs ["name"])]), (T [(.nd (.xc "Unlike" ["what"]) false [a]), .nd .lst false (txs ["what"])]), (T [(.nd (.xc "NotThere" ["what"]) false [a]), .nd .lst false (txs ["what"])]), (T [(.nd (.xc "TooMany" ["limit", "many", "what"]) false [c, b, a]), .nd .lst false (txs ["what", "many", "limit"])]), (T [(.nd (.xc "NotKept" ["witness", "promise"]) false [b, a]), .nd .lst false (txs ["promise", "witness"])])] ++ [(T [(.nd (.xc "NothingToUndo" []) false []), .nd .lst false (txs [])]), (T [(.nd (.xc "NothingToRedo" []) false []), .nd .lst false (txs [])])]) = true := by letI : Tbs := ⟨[]⟩; exact pures_append pa pz
  have hadd : opAdd [L [(T [(.nd (.xc "BadText" ["word", "line"]) false [b, a]), .nd .lst false (txs ["line", "word"])]), (T [(.nd (.xc "BadName" ["name"]) false [a]), .nd .lst false (txs ["name"])]), (T [(.nd (.xc "BadNumber" ["number", "what"]) false [b, a]), .nd .lst false (txs ["what", "number"])]), (T [(.nd (.xc "BadRow" ["row", "what"]) false [b, a]), .nd .lst false (txs ["what", "row"])]), (T [(.nd (.xc "NoName" ["name"]) false [a]), .nd .lst false (txs ["name"])]), (T [(.nd (.xc "TakenName" ["name"]) false [a]), .nd .lst false (txs ["name"])]), (T [(.nd (.xc "Unlike" ["what"]) false [a]), .nd .lst false (txs ["what"])]), (T [(.nd (.xc "NotThere" ["what"]) false [a]), .nd .lst false (txs ["what"])]), (T [(.nd (.xc "TooMany" ["limit", "many", "what"]) false [c, b, a]), .nd .lst false (txs ["what", "many", "limit"])]), (T [(.nd (.xc "NotKept" ["witness", "promise"]) false [b, a]), .nd .lst false (txs ["promise", "witness"])])], .nd .lst false [(T [(.nd (.xc "NothingToUndo" []) false []), .nd .lst false (txs [])]), (T [(.nd (.xc "NothingToRedo" []) false []), .nd .lst false (txs [])])]] = some (L ([(T [(.nd (.xc "BadText" ["word", "line"]) false [b, a]), .nd .lst false (txs ["line", "word"])]), (T [(.nd (.xc "BadName" ["name"]) false [a]), .nd .lst false (txs ["name"])]), (T [(.nd (.xc "BadNumber" ["number", "what"]) false [b, a]), .nd .lst false (txs ["what", "number"])]), (T [(.nd (.xc "BadRow" ["row", "what"]) false [b, a]), .nd .lst false (txs ["what", "row"])]), (T [(.nd (.xc "NoName" ["name"]) false [a]), .nd .lst false (txs ["name"])]), (T [(.nd (.xc "TakenName" ["name"]) false [a]), .nd .lst false (txs ["name"])]), (T [(.nd (.xc "Unlike" ["what"]) false [a]), .nd .lst false (txs ["what"])]), (T [(.nd (.xc "NotThere" ["what"]) false [a]), .nd .lst false (txs ["what"])]), (T [(.nd (.xc "TooMany" ["limit", "many", "what"]) false [c, b, a]), .nd .lst false (txs ["what", "many", "limit"])]), (T [(.nd (.xc "NotKept" ["witness", "promise"]) false [b, a]), .nd .lst false (txs ["promise", "witness"])])] ++ [(T [(.nd (.xc "NothingToUndo" []) false []), .nd .lst false (txs [])]), (T [(.nd (.xc "NothingToRedo" []) false []), .nd .lst false (txs [])])])) := o_add_l _ _ _ _ pa pz (by show 12 ≤ sizeLine; decide)
  have he : ∀ vw, enum1 [L ([(T [(.nd (.xc "BadText" ["word", "line"]) false [b, a]), .nd .lst false (txs ["line", "word"])]), (T [(.nd (.xc "BadName" ["name"]) false [a]), .nd .lst false (txs ["name"])]), (T [(.nd (.xc "BadNumber" ["number", "what"]) false [b, a]), .nd .lst false (txs ["what", "number"])]), (T [(.nd (.xc "BadRow" ["row", "what"]) false [b, a]), .nd .lst false (txs ["what", "row"])]), (T [(.nd (.xc "NoName" ["name"]) false [a]), .nd .lst false (txs ["name"])]), (T [(.nd (.xc "TakenName" ["name"]) false [a]), .nd .lst false (txs ["name"])]), (T [(.nd (.xc "Unlike" ["what"]) false [a]), .nd .lst false (txs ["what"])]), (T [(.nd (.xc "NotThere" ["what"]) false [a]), .nd .lst false (txs ["what"])]), (T [(.nd (.xc "TooMany" ["limit", "many", "what"]) false [c, b, a]), .nd .lst false (txs ["what", "many", "limit"])]), (T [(.nd (.xc "NotKept" ["witness", "promise"]) false [b, a]), .nd .lst false (txs ["promise", "witness"])])] ++ [(T [(.nd (.xc "NothingToUndo" []) false []), .nd .lst false (txs [])]), (T [(.nd (.xc "NothingToRedo" []) false []), .nd .lst false (txs [])])])] vw = .ok [T [.int 0, (T [(.nd (.xc "BadText" ["word", "line"]) false [b, a]), .nd .lst false (txs ["line", "word"])])], T [.int 1, (T [(.nd (.xc "BadName" ["name"]) false [a]), .nd .lst false (txs ["name"])])], T [.int 2, (T [(.nd (.xc "BadNumber" ["number", "what"]) false [b, a]), .nd .lst false (txs ["what", "number"])])], T [.int 3, (T [(.nd (.xc "BadRow" ["row", "what"]) false [b, a]), .nd .lst false (txs ["what", "row"])])], T [.int 4, (T [(.nd (.xc "NoName" ["name"]) false [a]), .nd .lst false (txs ["name"])])], T [.int 5, (T [(.nd (.xc "TakenName" ["name"]) false [a]), .nd .lst false (txs ["name"])])], T [.int 6, (T [(.nd (.xc "Unlike" ["what"]) false [a]), .nd .lst false (txs ["what"])])], T [.int 7, (T [(.nd (.xc "NotThere" ["what"]) false [a]), .nd .lst false (txs ["what"])])], T [.int 8, (T [(.nd (.xc "TooMany" ["limit", "many", "what"]) false [c, b, a]), .nd .lst false (txs ["what", "many", "limit"])])], T [.int 9, (T [(.nd (.xc "NotKept" ["witness", "promise"]) false [b, a]), .nd .lst false (txs ["promise", "witness"])])], T [.int 10, (T [(.nd (.xc "NothingToUndo" []) false []), .nd .lst false (txs [])])], T [.int 11, (T [(.nd (.xc "NothingToRedo" []) false []), .nd .lst false (txs [])])]] vw := fun vw => by
    show R.ok (enumL 0 (shrs _)) vw = _
    rw [shrs_pu pall]
    kernel_rfl
  generalize L ([(T [(.nd (.xc "BadText" ["word", "line"]) false [b, a]), .nd .lst false (txs ["line", "word"])]), (T [(.nd (.xc "BadName" ["name"]) false [a]), .nd .lst false (txs ["name"])]), (T [(.nd (.xc "BadNumber" ["number", "what"]) false [b, a]), .nd .lst false (txs ["what", "number"])]), (T [(.nd (.xc "BadRow" ["row", "what"]) false [b, a]), .nd .lst false (txs ["what", "row"])]), (T [(.nd (.xc "NoName" ["name"]) false [a]), .nd .lst false (txs ["name"])]), (T [(.nd (.xc "TakenName" ["name"]) false [a]), .nd .lst false (txs ["name"])]), (T [(.nd (.xc "Unlike" ["what"]) false [a]), .nd .lst false (txs ["what"])]), (T [(.nd (.xc "NotThere" ["what"]) false [a]), .nd .lst false (txs ["what"])]), (T [(.nd (.xc "TooMany" ["limit", "many", "what"]) false [c, b, a]), .nd .lst false (txs ["what", "many", "limit"])]), (T [(.nd (.xc "NotKept" ["witness", "promise"]) false [b, a]), .nd .lst false (txs ["promise", "witness"])])] ++ [(T [(.nd (.xc "NothingToUndo" []) false []), .nd .lst false (txs [])]), (T [(.nd (.xc "NothingToRedo" []) false []), .nd .lst false (txs [])])]) = Q at *
  generalize L [(T [(.nd (.xc "BadText" ["word", "line"]) false [b, a]), .nd .lst false (txs ["line", "word"])]), (T [(.nd (.xc "BadName" ["name"]) false [a]), .nd .lst false (txs ["name"])]), (T [(.nd (.xc "BadNumber" ["number", "what"]) false [b, a]), .nd .lst false (txs ["what", "number"])]), (T [(.nd (.xc "BadRow" ["row", "what"]) false [b, a]), .nd .lst false (txs ["what", "row"])]), (T [(.nd (.xc "NoName" ["name"]) false [a]), .nd .lst false (txs ["name"])]), (T [(.nd (.xc "TakenName" ["name"]) false [a]), .nd .lst false (txs ["name"])]), (T [(.nd (.xc "Unlike" ["what"]) false [a]), .nd .lst false (txs ["what"])]), (T [(.nd (.xc "NotThere" ["what"]) false [a]), .nd .lst false (txs ["what"])]), (T [(.nd (.xc "TooMany" ["limit", "many", "what"]) false [c, b, a]), .nd .lst false (txs ["what", "many", "limit"])]), (T [(.nd (.xc "NotKept" ["witness", "promise"]) false [b, a]), .nd .lst false (txs ["promise", "witness"])])] = Q1 at *
  generalize PV.nd .lst false [(T [(.nd (.xc "NothingToUndo" []) false []), .nd .lst false (txs [])]), (T [(.nd (.xc "NothingToRedo" []) false []), .nd .lst false (txs [])])] = Q2 at *
  generalize L [a, b, c] = VA at *
  generalize (iShr (iLst [(iTup [(iC (.nd (.xc "NothingToUndo" []) false [])), (iLst [])]), (iTup [(iC (.nd (.xc "NothingToRedo" []) false [])), (iLst [])])])) = SI at *
  generalize [T [.int 0, (T [(.nd (.xc "BadText" ["word", "line"]) false [b, a]), .nd .lst false (txs ["line", "word"])])], T [.int 1, (T [(.nd (.xc "BadName" ["name"]) false [a]), .nd .lst false (txs ["name"])])], T [.int 2, (T [(.nd (.xc "BadNumber" ["number", "what"]) false [b, a]), .nd .lst false (txs ["what", "number"])])], T [.int 3, (T [(.nd (.xc "BadRow" ["row", "what"]) false [b, a]), .nd .lst false (txs ["what", "row"])])], T [.int 4, (T [(.nd (.xc "NoName" ["name"]) false [a]), .nd .lst false (txs ["name"])])], T [.int 5, (T [(.nd (.xc "TakenName" ["name"]) false [a]), .nd .lst false (txs ["name"])])], T [.int 6, (T [(.nd (.xc "Unlike" ["what"]) false [a]), .nd .lst false (txs ["what"])])], T [.int 7, (T [(.nd (.xc "NotThere" ["what"]) false [a]), .nd .lst false (txs ["what"])])], T [.int 8, (T [(.nd (.xc "TooMany" ["limit", "many", "what"]) false [c, b, a]), .nd .lst false (txs ["what", "many", "limit"])])], T [.int 9, (T [(.nd (.xc "NotKept" ["witness", "promise"]) false [b, a]), .nd .lst false (txs ["promise", "witness"])])], T [.int 10, (T [(.nd (.xc "NothingToUndo" []) false []), .nd .lst false (txs [])])], T [.int 11, (T [(.nd (.xc "NothingToRedo" []) false []), .nd .lst false (txs [])])]] = IL at *
  simp (maxSteps := 400000) only [Bx.e_def, Bx.e_end_nx, Bx.e_end_rt, Bx.e_end_exc, Bx.e_retF, Bx.e_excF, Bx.e_seq, Bx.e_seq_nx, Bx.e_seq_rt, Bx.e_seq_bk, Bx.e_seq_ct, Bx.e_seq_exc, Bx.e_nx, Bx.e_bk, Bx.e_ct, Bx.e_retN, Bx.e_if, Bx.e_if_t, Bx.e_if_f, Bx.e_if_x, Bx.e_ret, Bx.e_ret_ok, Bx.e_ret_x, Bx.e_expr, Bx.e_expr_ok, Bx.e_expr_x, Bx.e_asg, Bx.e_asg_ok, Bx.e_asg_x, Bx.e_put, Bx.e_put1, Bx.e_hk1, Bx.e_mk_l, Bx.e_lk_l, Bx.e_mk_d, Bx.e_mk_i, Bx.e_mu, Bx.e_mu_ok, Bx.e_mu_x, Bx.e_mf1, Bx.e_mo, Bx.e_gd, Bx.e_put2, Bx.e_op, Bx.e_op_ok, Bx.e_op_x, Bx.e_fin, Bx.e_res, Bx.e_evO0, Bx.e_evOe, Bx.e_val, Bx.e_val_x, Bx.e_cons, Bx.e_cons_x, Bx.e_evOv, Bx.e_bor, Bx.e_resAll0, Bx.e_resAllv, Bx.e_resAllb, Bx.e_br, Bx.e_mapS, Bx.e_c, Bx.e_var, Bx.e_vari, Bx.e_pu_t, Bx.e_pu_f, Bx.e_b, Bx.e_b_ok, Bx.e_b_x, Bx.e_tr, Bx.e_tr_ok, Bx.e_true, Bx.e_truth, Bx.e_truth_b, Bx.e_andT, Bx.e_and_t, Bx.e_and_f, Bx.e_orT, Bx.e_or_t, Bx.e_or_f, Bx.e_notT, Bx.e_not_ok, Bx.e_notE, Bx.e_notE_ok, Bx.e_ifE, Bx.e_ifE_t, Bx.e_ifE_f, Bx.e_andE, Bx.e_andE_ok, Bx.e_andE_t, Bx.e_andE_f, Bx.e_orE, Bx.e_orE_ok, Bx.e_orE_t, Bx.e_orE_f, Bx.e_evA0, Bx.e_evA, Bx.e_A, Bx.e_A_x, Bx.e_ACons, Bx.e_ACons_x, Bx.e_tup, Bx.e_tup_ok, Bx.e_lst, Bx.e_lst_ok, Bx.e_disp, Bx.e_disp_ok, Bx.e_shr, Bx.e_shr_ok, Bx.e_call, Bx.e_call_ok, Bx.e_mv, Bx.e_rf, Bx.e_rf_x, Bx.e_wb, Bx.e_wx, Bx.e_mvv, Bx.e_mvf, Bx.e_mvb, Bx.e_mb, Bx.e_mv0, Bx.e_mapM, Bx.e_wb0, Bx.e_wbs, Bx.e_ws, Bx.e_wbn, Bx.e_p_int, Bx.e_p_str, Bx.e_p_bl, Bx.e_p_non, Bx.e_p_ref, Bx.e_p_ty, Bx.e_s_int, Bx.e_s_str, Bx.e_s_bl, Bx.e_s_non, Bx.e_for, Bx.e_for_ok, Bx.e_loop1, Bx.e_turn_nx, Bx.e_turn_rt, Bx.e_gN, Bx.d_rng1, Bx.d_rng2, Bx.d_seq, Bx.d_seq_ok, Bx.d_items, Bx.d_enum, Bx.d_enum_ok, Bx.d_zip, Bx.d_zip_ok, Bx.d_lc, Bx.d_lc_ok, Bx.d_lcE, Bx.d_par, Bx.d_par_ok, Bx.d_mte, Bx.d_mt_ok, Bx.d_mtv, Bx.d_mv_ok, Bx.d_chk, Bx.d_mc, Bx.e_pL, Bx.e_pT, Bx.d_sl, Bx.d_sl1, Bx.d_sl2, Bx.d_sl3, Bx.d_sl4, Bx.d_evPn, Bx.d_evPs, Bx.d_evPk, Bx.d_iI, Bx.d_iIk, Bx.d_ch, Bx.d_ch1, Bx.d_ch2, Bx.d_ch3f, Bx.d_ch3t, Bx.d_ch4, Bx.d_ch5, Bx.d_me, Bx.d_me1, Bx.d_me2, Bx.d_fld, Bx.d_fld1, Bx.d_rai, Bx.d_rai1, Bx.d_cv, Bx.d_cv1, Bx.d_cv2, Bx.d_yes, mkVw, takeP, wipeV, List.map_cons, List.map_nil, List.replicate_succ, List.replicate_zero, List.length_cons, List.length_nil, List.cons_append, List.nil_append, List.getElem?_cons_succ, List.getElem?_cons_zero, List.set_cons_zero, List.set_cons_succ, Nat.reduceAdd, Nat.reduceSub, Nat.reduceLT, Nat.lt_add_left_iff_pos, decide_true, decide_false, Bool.not_true, Bool.not_false, if_true, if_false, reduceIte, Bool.false_eq_true, Option.map_some, Option.map_none, Nat.zero_lt_succ, Nat.reduceLeDiff, eq_self, and_self, and_true, true_and, ha, hb, hc, i0, i1, i2, hm, hz, hadd, he]
end
end K01
set_option maxRecDepth 100000
set_option maxHeartbeats 4000000
set_option linter.all false
/-! K01b: the plain law of k01. -/
namespace K01
open PySem PySem.Spec PyProof.Rows Bx
open L2 (Key)
section
variable (K : PySem.W.Frag) (x0 x1 x2 x3 x4 x5 x6 x7 x8 x9 x10 x11 x12 : Option PV)
def tailJ (K : PySem.W.Frag) : IS := (jSeq (jAsg 5 (iLst [(iC (.int 1)), (iLst [(iC (.int 2))])]))
  (jAl 5 6 (jSeq (jAsg 7 (iLst []))
  (jSeq (jTry (PySem.W.exmOne K) (jRaise (He.ga K "NotThere") ["what"] [(iLst [(iC (.int 1)), (iLst [(iC (.int 2))]), (iC (.int 3))])]) [(.ref (He.ga K "GoerError"), some 11, jTold (He.ga K "NotThere") "what" 7)])
  (jRet (iOp opEq [(.v 7), (.e (iLst [(iC (.bl true))]))]))))))
def j67 (K : PySem.W.Frag) : IS := (jSeq (jAsg 7 (iLst []))
  (jSeq (jTry (PySem.W.exmOne K) (jRaise (He.ga K "NotThere") ["what"] [(iLst [(iC (.int 1)), (iLst [(iC (.int 2))]), (iC (.int 3))])]) [(.ref (He.ga K "GoerError"), some 11, jTold (He.ga K "NotThere") "what" 7)])
  (jRet (iOp opEq [(.v 7), (.e (iLst [(iC (.bl true))]))]))))
theorem tail_al (jr : IS) : jAl 5 6 jr [x0, x1, x2, x3, x4, some (.nd .lst true [.int 1, .nd .lst true [.int 2]]), x6, x7, x8, x9, x10, x11, x12] = jr [x0, x1, x2, x3, x4, none, none, x7, x8, x9, x10, x11, x12] := by
  unfold jAl
  exact if_pos ⟨rfl, (by decide : 6 < 13)⟩
def L3f : PV := .nd .lst false [.int 1, .nd .lst false [.int 2], .int 3]
theorem told_ok : jTold (He.ga K "NotThere") "what" 7 ⟨.ref (He.ga K "NotThere"), ["what"], [L3f]⟩ [x0, x1, x2, x3, x4, x5, x6, some (L []), x8, x9, x10, x11, x12] = .ok .nx [x0, x1, x2, x3, x4, x5, x6, some (L [.bl true]), x8, x9, x10, x11, x12] := by
  have e1 : fldOf ⟨.ref (He.ga K "NotThere"), ["what"], [L3f]⟩ (He.ga K "NotThere") "what" = some L3f := by
    unfold fldOf
    rw [if_pos rfl]
    kernel_rfl
  have e2 : isTr (opEq [L3f, L3]) = true := by kernel_rfl
  unfold jTold
  rw [e1]
  exact if_pos ⟨e2, rfl⟩
theorem try_ok (he : PySem.W.exmOne K (.ref (He.ga K "NotThere")) (.ref (He.ga K "GoerError")) = some true) : ((jTry (PySem.W.exmOne K) (jRaise (He.ga K "NotThere") ["what"] [(iLst [(iC (.int 1)), (iLst [(iC (.int 2))]), (iC (.int 3))])]) [(.ref (He.ga K "GoerError"), some 11, jTold (He.ga K "NotThere") "what" 7)])) [x0, x1, x2, x3, x4, x5, x6, some (L []), x8, x9, x10, x11, x12] = .ok .nx [x0, x1, x2, x3, x4, x5, x6, some (L [.bl true]), x8, x9, x10, none, x12] := by
  have e0 : ((jRaise (He.ga K "NotThere") ["what"] [(iLst [(iC (.int 1)), (iLst [(iC (.int 2))]), (iC (.int 3))])])) [x0, x1, x2, x3, x4, x5, x6, some (L []), x8, x9, x10, x11, x12] = .exc ⟨.ref (He.ga K "NotThere"), ["what"], [L3f]⟩ [x0, x1, x2, x3, x4, x5, x6, some (L []), x8, x9, x10, x11, x12] := by kernel_rfl
  unfold jTry
  rw [e0]
  show jClauses (PySem.W.exmOne K) [(.ref (He.ga K "GoerError"), some 11, jTold (He.ga K "NotThere") "what" 7)] ⟨.ref (He.ga K "NotThere"), ["what"], [L3f]⟩ _ = _
  unfold jClauses
  show (match PySem.W.exmOne K (.ref (He.ga K "NotThere")) (.ref (He.ga K "GoerError")) with
    | some true => _
    | some false => _
    | none => _) = _
  rw [he]
  show outV 11 (jTold (He.ga K "NotThere") "what" 7 ⟨.ref (He.ga K "NotThere"), ["what"], [L3f]⟩ [x0, x1, x2, x3, x4, x5, x6, some (L []), x8, x9, x10, none, x12]) = _
  rw [told_ok]
  rfl
theorem tail_ok (he : PySem.W.exmOne K (.ref (He.ga K "NotThere")) (.ref (He.ga K "GoerError")) = some true) : ∃ vw, tailJ K [x0, x1, x2, x3, x4, x5, x6, x7, x8, x9, x10, x11, x12] = .ok (.rt (.bl true)) vw ∧ vw.length = 13 := by
  have s1 : ((jAsg 5 (iLst [(iC (.int 1)), (iLst [(iC (.int 2))])]))) [x0, x1, x2, x3, x4, x5, x6, x7, x8, x9, x10, x11, x12] = .ok .nx [x0, x1, x2, x3, x4, some (.nd .lst true [.int 1, .nd .lst true [.int 2]]), x6, x7, x8, x9, x10, x11, x12] := by kernel_rfl
  have s2 : ((jAsg 7 (iLst []))) [x0, x1, x2, x3, x4, none, none, x7, x8, x9, x10, x11, x12] = .ok .nx [x0, x1, x2, x3, x4, none, none, some (L []), x8, x9, x10, x11, x12] := by kernel_rfl
  have s3 := try_ok K x0 x1 x2 x3 x4 none none x8 x9 x10 x11 x12 he
  have s4 : ((jRet (iOp opEq [(.v 7), (.e (iLst [(iC (.bl true))]))]))) [x0, x1, x2, x3, x4, none, none, some (L [.bl true]), x8, x9, x10, none, x12] = .ok (.rt (.bl true)) [x0, x1, x2, x3, x4, none, none, some (L [.bl true]), x8, x9, x10, none, x12] := by kernel_rfl
  refine ⟨[x0, x1, x2, x3, x4, none, none, some (L [.bl true]), x8, x9, x10, none, x12], ?_, rfl⟩
  unfold tailJ
  rw [e_seq, s1, e_seq_nx, tail_al, e_seq, s2, e_seq_nx, e_seq, s3, e_seq_nx, s4]
end
theorem VL_pure : pures VL = true := by rfl
theorem law_plain {K : PySem.W.Frag} {mg : Str → Option Value} (E : Ev fa fn xc K mg) (ns : List Int) (h1 : ns.length ≤ 63) (h2 : ∀ z ∈ ns, Builtin.Int.intBits z ≤ 1048576) : ∃ ws, defOf [false] N_law.length (j_law K) [scrP ns] = .ret (.bl true) ws := by
  have he : PySem.W.exmOne K (.ref (He.ga K "NotThere")) (.ref (He.ga K "GoerError")) = some true := E.exm 2
  obtain ⟨p0, e0, k0⟩ := pen_ok K ns
  obtain ⟨i1, j1, p1, v1, k1⟩ := value_ok K k0 (by decide)
  obtain ⟨i2, j2, p2, v2, k2⟩ := value_ok K k1 (by decide)
  obtain ⟨i3, j3, p3, v3, k3⟩ := value_ok K k2 (by decide)
  have m1 := List.getElem_mem j1
  have m2 := List.getElem_mem j2
  have m3 := List.getElem_mem j3
  have ha := pures_in VL_pure _ m1
  have hb := pures_in VL_pure _ m2
  have hc := pures_in VL_pure _ m3
  have ra := List.all_eq_true.mp rv_all _ m1
  have rb := List.all_eq_true.mp rv_all _ m2
  have rc := List.all_eq_true.mp rv_all _ m3
  generalize VL[i1] = a at *
  generalize VL[i2] = b at *
  generalize VL[i3] = c at *
  have hv : (scrP ns).pure = true := by unfold scrP; rw [PV.pure, pures_ints]; rfl
  generalize scrP ns = scr at *
  have s0 : (jAsg 1 (iCall (D__law_pen K) [false] [(.e (iVar 0))])) [some scr, none, none, none, none, none, none, none, none, none, none, none, none] = .ok .nx [some scr, some p0, none, none, none, none, none, none, none, none, none, none, none] := by
    simp (maxSteps := 400000) only [Bx.e_def, Bx.e_end_nx, Bx.e_end_rt, Bx.e_end_exc, Bx.e_retF, Bx.e_excF, Bx.e_seq, Bx.e_seq_nx, Bx.e_seq_rt, Bx.e_seq_bk, Bx.e_seq_ct, Bx.e_seq_exc, Bx.e_nx, Bx.e_bk, Bx.e_ct, Bx.e_retN, Bx.e_if, Bx.e_if_t, Bx.e_if_f, Bx.e_if_x, Bx.e_ret, Bx.e_ret_ok, Bx.e_ret_x, Bx.e_expr, Bx.e_expr_ok, Bx.e_expr_x, Bx.e_asg, Bx.e_asg_ok, Bx.e_asg_x, Bx.e_put, Bx.e_put1, Bx.e_hk1, Bx.e_mk_l, Bx.e_lk_l, Bx.e_mk_d, Bx.e_mk_i, Bx.e_mu, Bx.e_mu_ok, Bx.e_mu_x, Bx.e_mf1, Bx.e_mo, Bx.e_gd, Bx.e_put2, Bx.e_op, Bx.e_op_ok, Bx.e_op_x, Bx.e_fin, Bx.e_res, Bx.e_evO0, Bx.e_evOe, Bx.e_val, Bx.e_val_x, Bx.e_cons, Bx.e_cons_x, Bx.e_evOv, Bx.e_bor, Bx.e_resAll0, Bx.e_resAllv, Bx.e_resAllb, Bx.e_br, Bx.e_mapS, Bx.e_c, Bx.e_var, Bx.e_vari, Bx.e_pu_t, Bx.e_pu_f, Bx.e_b, Bx.e_b_ok, Bx.e_b_x, Bx.e_tr, Bx.e_tr_ok, Bx.e_true, Bx.e_truth, Bx.e_truth_b, Bx.e_andT, Bx.e_and_t, Bx.e_and_f, Bx.e_orT, Bx.e_or_t, Bx.e_or_f, Bx.e_notT, Bx.e_not_ok, Bx.e_notE, Bx.e_notE_ok, Bx.e_ifE, Bx.e_ifE_t, Bx.e_ifE_f, Bx.e_andE, Bx.e_andE_ok, Bx.e_andE_t, Bx.e_andE_f, Bx.e_orE, Bx.e_orE_ok, Bx.e_orE_t, Bx.e_orE_f, Bx.e_evA0, Bx.e_evA, Bx.e_A, Bx.e_A_x, Bx.e_ACons, Bx.e_ACons_x, Bx.e_tup, Bx.e_tup_ok, Bx.e_lst, Bx.e_lst_ok, Bx.e_disp, Bx.e_disp_ok, Bx.e_shr, Bx.e_shr_ok, Bx.e_call, Bx.e_call_ok, Bx.e_mv, Bx.e_rf, Bx.e_rf_x, Bx.e_wb, Bx.e_wx, Bx.e_mvv, Bx.e_mvf, Bx.e_mvb, Bx.e_mb, Bx.e_mv0, Bx.e_mapM, Bx.e_wb0, Bx.e_wbs, Bx.e_ws, Bx.e_wbn, Bx.e_p_int, Bx.e_p_str, Bx.e_p_bl, Bx.e_p_non, Bx.e_p_ref, Bx.e_p_ty, Bx.e_s_int, Bx.e_s_str, Bx.e_s_bl, Bx.e_s_non, Bx.e_for, Bx.e_for_ok, Bx.e_loop1, Bx.e_turn_nx, Bx.e_turn_rt, Bx.e_gN, Bx.d_rng1, Bx.d_rng2, Bx.d_seq, Bx.d_seq_ok, Bx.d_items, Bx.d_enum, Bx.d_enum_ok, Bx.d_zip, Bx.d_zip_ok, Bx.d_lc, Bx.d_lc_ok, Bx.d_lcE, Bx.d_par, Bx.d_par_ok, Bx.d_mte, Bx.d_mt_ok, Bx.d_mtv, Bx.d_mv_ok, Bx.d_chk, Bx.d_mc, Bx.e_pL, Bx.e_pT, Bx.d_sl, Bx.d_sl1, Bx.d_sl2, Bx.d_sl3, Bx.d_sl4, Bx.d_evPn, Bx.d_evPs, Bx.d_evPk, Bx.d_iI, Bx.d_iIk, Bx.d_ch, Bx.d_ch1, Bx.d_ch2, Bx.d_ch3f, Bx.d_ch3t, Bx.d_ch4, Bx.d_ch5, Bx.d_me, Bx.d_me1, Bx.d_me2, Bx.d_fld, Bx.d_fld1, Bx.d_rai, Bx.d_rai1, Bx.d_cv, Bx.d_cv1, Bx.d_cv2, Bx.d_yes, mkVw, takeP, wipeV, List.map_cons, List.map_nil, List.replicate_succ, List.replicate_zero, List.length_cons, List.length_nil, List.cons_append, List.nil_append, List.getElem?_cons_succ, List.getElem?_cons_zero, List.set_cons_zero, List.set_cons_succ, Nat.reduceAdd, Nat.reduceSub, Nat.reduceLT, Nat.lt_add_left_iff_pos, decide_true, decide_false, Bool.not_true, Bool.not_false, if_true, if_false, reduceIte, Bool.false_eq_true, Option.map_some, Option.map_none, Nat.zero_lt_succ, Nat.reduceLeDiff, eq_self, and_self, and_true, true_and, hv, e0]
  have z3 : (3 : Nat) ≤ sizeLine := by decide
  have s1 : (jAsg 2 (iLst [(iCall (D__law_value K) [true] [(.v 1)]), (iCall (D__law_value K) [true] [(.v 1)]), (iCall (D__law_value K) [true] [(.v 1)])])) [some scr, some p0, none, none, none, none, none, none, none, none, none, none, none] = .ok .nx [some scr, some p3, some (L [a, b, c]), none, none, none, none, none, none, none, none, none, none] := by
    simp (maxSteps := 400000) only [Bx.e_def, Bx.e_end_nx, Bx.e_end_rt, Bx.e_end_exc, Bx.e_retF, Bx.e_excF, Bx.e_seq, Bx.e_seq_nx, Bx.e_seq_rt, Bx.e_seq_bk, Bx.e_seq_ct, Bx.e_seq_exc, Bx.e_nx, Bx.e_bk, Bx.e_ct, Bx.e_retN, Bx.e_if, Bx.e_if_t, Bx.e_if_f, Bx.e_if_x, Bx.e_ret, Bx.e_ret_ok, Bx.e_ret_x, Bx.e_expr, Bx.e_expr_ok, Bx.e_expr_x, Bx.e_asg, Bx.e_asg_ok, Bx.e_asg_x, Bx.e_put, Bx.e_put1, Bx.e_hk1, Bx.e_mk_l, Bx.e_lk_l, Bx.e_mk_d, Bx.e_mk_i, Bx.e_mu, Bx.e_mu_ok, Bx.e_mu_x, Bx.e_mf1, Bx.e_mo, Bx.e_gd, Bx.e_put2, Bx.e_op, Bx.e_op_ok, Bx.e_op_x, Bx.e_fin, Bx.e_res, Bx.e_evO0, Bx.e_evOe, Bx.e_val, Bx.e_val_x, Bx.e_cons, Bx.e_cons_x, Bx.e_evOv, Bx.e_bor, Bx.e_resAll0, Bx.e_resAllv, Bx.e_resAllb, Bx.e_br, Bx.e_mapS, Bx.e_c, Bx.e_var, Bx.e_vari, Bx.e_pu_t, Bx.e_pu_f, Bx.e_b, Bx.e_b_ok, Bx.e_b_x, Bx.e_tr, Bx.e_tr_ok, Bx.e_true, Bx.e_truth, Bx.e_truth_b, Bx.e_andT, Bx.e_and_t, Bx.e_and_f, Bx.e_orT, Bx.e_or_t, Bx.e_or_f, Bx.e_notT, Bx.e_not_ok, Bx.e_notE, Bx.e_notE_ok, Bx.e_ifE, Bx.e_ifE_t, Bx.e_ifE_f, Bx.e_andE, Bx.e_andE_ok, Bx.e_andE_t, Bx.e_andE_f, Bx.e_orE, Bx.e_orE_ok, Bx.e_orE_t, Bx.e_orE_f, Bx.e_evA0, Bx.e_evA, Bx.e_A, Bx.e_A_x, Bx.e_ACons, Bx.e_ACons_x, Bx.e_tup, Bx.e_tup_ok, Bx.e_lst, Bx.e_lst_ok, Bx.e_disp, Bx.e_disp_ok, Bx.e_shr, Bx.e_shr_ok, Bx.e_call, Bx.e_call_ok, Bx.e_mv, Bx.e_rf, Bx.e_rf_x, Bx.e_wb, Bx.e_wx, Bx.e_mvv, Bx.e_mvf, Bx.e_mvb, Bx.e_mb, Bx.e_mv0, Bx.e_mapM, Bx.e_wb0, Bx.e_wbs, Bx.e_ws, Bx.e_wbn, Bx.e_p_int, Bx.e_p_str, Bx.e_p_bl, Bx.e_p_non, Bx.e_p_ref, Bx.e_p_ty, Bx.e_s_int, Bx.e_s_str, Bx.e_s_bl, Bx.e_s_non, Bx.e_for, Bx.e_for_ok, Bx.e_loop1, Bx.e_turn_nx, Bx.e_turn_rt, Bx.e_gN, Bx.d_rng1, Bx.d_rng2, Bx.d_seq, Bx.d_seq_ok, Bx.d_items, Bx.d_enum, Bx.d_enum_ok, Bx.d_zip, Bx.d_zip_ok, Bx.d_lc, Bx.d_lc_ok, Bx.d_lcE, Bx.d_par, Bx.d_par_ok, Bx.d_mte, Bx.d_mt_ok, Bx.d_mtv, Bx.d_mv_ok, Bx.d_chk, Bx.d_mc, Bx.e_pL, Bx.e_pT, Bx.d_sl, Bx.d_sl1, Bx.d_sl2, Bx.d_sl3, Bx.d_sl4, Bx.d_evPn, Bx.d_evPs, Bx.d_evPk, Bx.d_iI, Bx.d_iIk, Bx.d_ch, Bx.d_ch1, Bx.d_ch2, Bx.d_ch3f, Bx.d_ch3t, Bx.d_ch4, Bx.d_ch5, Bx.d_me, Bx.d_me1, Bx.d_me2, Bx.d_fld, Bx.d_fld1, Bx.d_rai, Bx.d_rai1, Bx.d_cv, Bx.d_cv1, Bx.d_cv2, Bx.d_yes, mkVw, takeP, wipeV, List.map_cons, List.map_nil, List.replicate_succ, List.replicate_zero, List.length_cons, List.length_nil, List.cons_append, List.nil_append, List.getElem?_cons_succ, List.getElem?_cons_zero, List.set_cons_zero, List.set_cons_succ, Nat.reduceAdd, Nat.reduceSub, Nat.reduceLT, Nat.lt_add_left_iff_pos, decide_true, decide_false, Bool.not_true, Bool.not_false, if_true, if_false, reduceIte, Bool.false_eq_true, Option.map_some, Option.map_none, Nat.zero_lt_succ, Nat.reduceLeDiff, eq_self, and_self, and_true, true_and, v1, v2, v3, z3, L]
  obtain ⟨x3, x4, x8, x9, x10, x12, e2⟩ := loop_ok K scr p3 a b c ha hb hc ra rb rc none none none none none none none none none none
  have src := src_ok K scr p3 a b c ha hb hc ra rb rc none none none none none none none none none none
  obtain ⟨vw, e3, hl⟩ := tail_ok K (some scr) (some p3) (some (L [a, b, c])) x3 x4 none none none x8 x9 x10 none x12 he
  refine ⟨[], ?_⟩
  show zEnd [false] (j_law K [some scr, none, none, none, none, none, none, none, none, none, none, none, none]) = _
  unfold tailJ at e3
  unfold trB gL at e2
  unfold j_law
  rw [e_seq, s0, e_seq_nx, e_seq, s1, e_seq_nx, e_seq, e_for, src, e_for_ok, e2, e_seq_nx, e3]
  obtain ⟨y, vw', rfl⟩ : ∃ y vw', vw = y :: vw' := by
    cases vw with
    | nil => cases hl
    | cons y vw' => exact ⟨y, vw', rfl⟩
  rfl
end K01
set_option Elab.async false
set_option linter.all false
set_option maxRecDepth 100000
set_option maxHeartbeats 4000000
/-! the row of law_k01_errors: the head's run, the end. -/
namespace K01
open PySem PySem.Spec PyProof.Rows L2 Bx
def lo0 : List PySem.Str := ["__name__", "GoerError", "BadText", "BadName", "BadNumber", "BadRow", "NoName", "TakenName", "Unlike", "NotThere", "TooMany", "NotKept", "NothingToUndo", "NothingToRedo", "_law_pen", "_law_draw", "_law_pick", "_law_value", "_law_fields", "_law_made_errors"]
def lo1 : List PySem.Str := ["_law_kinds"]
def lo : List PySem.Str := lo0 ++ lo1
abbrev Rw : PySem.W.OpenRow := PySem.W.OpenLaw.row PySem.Challenge.rw_goersnotes_k01_errors
def XB (K : PySem.W.Frag) : Bool := xcB xc K && xfAll xts tv K
abbrev hk : PySem.W.Hook := He.hookX 4 fa fn [] [] XB
def ob (s : PySem.W.SharedT) : He.AlX := He.obsX 4 fa fn [] [] XB (HandSHeadRun.getT s)
theorem ob_is (s : PySem.W.SharedT) : ob s = hk.obs s.abs := He.obsX_eq (HandSHeadRun.getT_eq s)
theorem run_is (w : World) : HandSHeadRun.RunEq Rw (PySem.W.view Rw.prog [22]) hk ob 8000 lo w := by
  intro os
  kernel_rfl
theorem lawG {w : World} {K : PySem.W.Frag} {mg : Str → Option Value} {f0 : Addr} {h : Heap} (KX : K.In h) (G : h.Ns mainGlobals mg) (hf : mg "law" = some (.ref f0)) (c : He.SaysX fa fn [] [] XB w h K) : LawG PySem.Challenge.rw_goersnotes_k01_errors w K (lawLevel + 1) 63 "script" mg f0 h := by
  obtain ⟨c1, c2⟩ := says_of (B := xcB xc) (B' := xfAll xts tv) c
  exact lawG_non (d := d_law) (N := N_law) (j := j_law K) KX G c1 hf 31 rfl lawAt rfl rfl sc_law (by decide) rfl rfl (fun _ _ _ _ _ _ us hl => match us, hl with | [_], _ => rfl) (fun T base E cdv => @law_body T w K mg base E (xfAll_ok c2) cdv)
    fun ns h1 h2 => law_plain (Ev.of KX G c1) ns h1 h2
end K01
open PySem PySem.W PySem.Calls PyProof.Rows
theorem PySem.Challenge.cw_goersnotes_k01_errors_holds : PySem.Challenge.rw_goersnotes_k01_errors.Holds := by
  w_on; o_law
  refine HandSHeadRun.head_any (r := OpenLaw.row PySem.Challenge.rw_goersnotes_k01_errors) (q := view (OpenLaw.row PySem.Challenge.rw_goersnotes_k01_errors).prog [22]) (H := K01.hk) (ob := K01.ob) (M := 8000) (loose := K01.lo) (d := HandSHeadRun.topDef (OpenLaw.row PySem.Challenge.rw_goersnotes_k01_errors).prog 22) (kwd := []) K01.ob_is
    (by kernel_rfl) (fun s => by kernel_rfl) K01.run_is (by kernel_rfl) (by kernel_rfl) (by kernel_rfl) (by rfl) (by first | assumption | decide +kernel) (by decide +kernel) ⟨rfl, rfl, rfl, rfl, rfl, by decide +kernel⟩ ?hw ?hc
  case hw => w_witness2
  case hc =>
    refine Bx.walk_ofG (l := PySem.Challenge.rw_goersnotes_k01_errors) (n := 63) (k := K01.lawLevel + 1) (x := "script") rfl (by decide) (by kernel_rfl) ⟨⟨rfl, by decide, by decide⟩, rfl⟩ ?F
    intro w mg f0 h Y G hmg0
    obtain ⟨K, KX, c⟩ := Y
    have hmg : mg ("law" : PySem.Str) = some (.ref f0) := by
      have e : (HandSHeadRun.topDef (OpenLaw.row PySem.Challenge.rw_goersnotes_k01_errors).prog 22).name = ("law" : PySem.Str) := by kernel_rfl
      rw [← e]
      exact hmg0
    exact ⟨K, KX, K01.lawG KX G hmg c⟩
