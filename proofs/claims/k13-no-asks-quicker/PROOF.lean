import PyProof.Rows.All
import Wide.All
import OpenK.AllK
import Wide.FinOn
import HandS.Base
import HandS.Call
import HandS.Ends
import HandS.More
import HandS.Words
import HandS.WordsExc
import HandS.Defaults
import HandS.HeadHook1
import HandS.HeadHook2
import HandS.List
import HandS.Comp
import HandS.Exc
import HandS.ExcOwn
import HandS.Wide
import HandS.WideBits
import HandS.TupAny
import HandS.TupLe
import HandS.IsInst
import HandS.Deep
import HandS.Conv
import HandS.Sort
import HandS.SortRule
import HandS.SortInts
import HandS.Text
import HandS.Walk
import HandS.Iter
import HandS.Flow
import HandS.Zip
import HandS.CallSlots
import HandS.RaiseMore
import HandS.MakeKwOnly
import KE.GoesEnum
import HandS.EndBits
import HandS.HeadEnd
import HandS.Style
import KE.IntBitsLaws
import HandS.HeadHook3
import PyProof.StrOps2
import HandS.Dict
import KE.GoesZip
import KE.GoesEnumKw
import KE.KDictZip
import PyProof.SumWalkG
import PyProof.WalksMore
import KE.DataMinMax
import HandS.SortKw
import HandS.NoneIn
import HandS.TupSets
import HandS.Keys
import KE.KStateDown
import Lean
import HandS.Head0
import HandS.Head1
import HandS.Head2
import PySem.Challenge.RW_hotpass_k13_no_asks_are_quicker
set_option Elab.async false
set_option linter.all false
set_option maxRecDepth 100000
set_option maxHeartbeats 0
/-! EvBase: trees (T) in place of values and heap; what a tree is of a heap (Rp); slots of trees (StR). -/
namespace Ev
noncomputable section
open PySem L2

/-- tests of numbers that are never run -/
def leC (a b : Int) : Bool := @decide (a ≤ b) (Classical.propDecidable _)
def ltC (a b : Int) : Bool := @decide (a < b) (Classical.propDecidable _)
def leN (a b : Nat) : Bool := @decide (a ≤ b) (Classical.propDecidable _)
theorem of_leC {a b : Int} (h : leC a b = true) : a ≤ b := @of_decide_eq_true _ (Classical.propDecidable _) h
theorem of_ltC {a b : Int} (h : ltC a b = true) : a < b := @of_decide_eq_true _ (Classical.propDecidable _) h
theorem of_leN {a b : Nat} (h : leN a b = true) : a ≤ b := @of_decide_eq_true _ (Classical.propDecidable _) h
theorem leC_of {a b : Int} (h : a ≤ b) : leC a b = true := @decide_eq_true _ (Classical.propDecidable _) h
theorem ltC_of {a b : Int} (h : a < b) : ltC a b = true := @decide_eq_true _ (Classical.propDecidable _) h
theorem leN_of {a b : Nat} (h : a ≤ b) : leN a b = true := @decide_eq_true _ (Classical.propDecidable _) h
theorem two_sz : 2 ≤ sizeLine := by decide
theorem sixty_sz : 63 ≤ sizeLine := by decide
/-- tests of lengths are never run, by simp or by the kernel -/
instance (priority := 5000) decSz (n : Nat) : Decidable (n ≤ sizeLine) := Classical.propDecidable _
instance (priority := 5000) decSzl (n : Nat) : Decidable (n < sizeLine) := Classical.propDecidable _

/-- a class: its global name, its fields in the order in which they are set first -/
structure Cd where
  nm : Str
  fl : List Str
/-- data as trees; o: owned (nobody else holds it), else frozen for ever -/
inductive T where
  | non | bl (b : Bool) | int (i : Int) | str (s : Str) | ty (n : String) | cls (n : Str) | scr (ns : List Int)
  | tup (xs : List T)
  | lst (o : Bool) (xs : List T)
  | obj (o : Bool) (c : Cd) (xs : List T)
  | dic (o : Bool) (ks : List Key) (xs : List T)
  | dit (o : Bool) (ks : List (List Key)) (xs : List T)

abbrev AS := Addr → Prop
def LstA (K : PySem.W.Frag) (G : AS) (H : Hp) (a : Addr) (vs : List V) : Prop :=
  G a ∧ H a = some (.lst vs)
def TupA (K : PySem.W.Frag) (G : AS) (H : Hp) (a : Addr) (vs : List V) : Prop :=
  (G a ∧ H a = some (.tup vs)) ∨ ∃ (o : Obj) (its : Array Value) (n : Nat), K.lookup a = some o ∧ o.cls = .type "tuple" ∧ o.data = .seq its n ∧ its.size ≤ sizeLine ∧ Vals vs its.toList
theorem LstA.seq {K : PySem.W.Frag} {G : AS} {H : Hp} {a : Addr} {vs : List V} (h : LstA K G H a vs) : SqL K H a vs := .of h.2
theorem TupA.seq {K : PySem.W.Frag} {G : AS} {H : Hp} {a : Addr} {vs : List V} (h : TupA K G H a vs) : SqT K H a vs := h.elim (fun x => .inl (.inl x.2)) .inr
theorem rd_at {H H' : Hp} {a : Addr} {u : HO} (r : Rd H a u) (e : H' a = H a) : Rd H' a u := by
  unfold Rd
  rw [e]
  exact r
theorem LstA.keep {K : PySem.W.Frag} {G G' : AS} {H H' : Hp} {a : Addr} {vs : List V} (h : LstA K G H a vs) (g : G a → G' a) (e : G a → H' a = H a) : LstA K G' H' a vs :=
  ⟨g h.1, (e h.1).trans h.2⟩
theorem TupA.keep {K : PySem.W.Frag} {G G' : AS} {H H' : Hp} {a : Addr} {vs : List V} (h : TupA K G H a vs) (g : G a → G' a) (e : G a → H' a = H a) : TupA K G' H' a vs :=
  h.elim (fun x => .inl ⟨g x.1, (e x.1).trans x.2⟩) .inr

/-- the list of ints that was handed in: locked, or of the kit -/
def ScrA (K : PySem.W.Frag) (G : AS) (H : Hp) (a : Addr) (ns : List Int) : Prop :=
  (G a ∧ ∃ o, H a = some (.frz o (.lst (ns.map V.int)))) ∨ ∃ (o : Obj) (its : Array Value) (n : Nat), K.lookup a = some o ∧ o.cls = .type "list" ∧ o.dict = none ∧ o.data = .seq its n ∧ its.size ≤ sizeLine ∧ Vals (ns.map V.int) its.toList
theorem ScrA.seq {K : PySem.W.Frag} {G : AS} {H : Hp} {a : Addr} {ns : List Int} (h : ScrA K G H a ns) : SqL K H a (ns.map V.int) := h.elim (fun x => .inl (.inr x.2)) .inr
theorem ScrA.keep {K : PySem.W.Frag} {G G' : AS} {H H' : Hp} {a : Addr} {ns : List Int} (h : ScrA K G H a ns) (g : G a → G' a) (e : G a → H' a = H a) : ScrA K G' H' a ns :=
  h.elim (fun ⟨x, o, y⟩ => .inl ⟨g x, o, (e x).trans y⟩) .inr
/-- the value v of the heap H is the tree t: what is frozen lies in G, what is owned within S -/
def Rp (K : PySem.W.Frag) (G : AS) (H : Hp) : T → V → AS → Prop
  | .non, v, _ => v = .non
  | .bl b, v, _ => v = .bl b
  | .int i, v, _ => v = .int i
  | .str s, v, _ => v = .str s
  | .ty n, v, _ => v = .ty n
  | .cls n, v, _ => v = .ref (He.ga K n)
  | .scr ns, v, _ => ∃ a, v = .ref a ∧ ScrA K G H a ns
  | .tup ts, v, S => ∃ a vs, v = .ref a ∧ TupA K G H a vs ∧ RpL K G H ts vs S
  | .lst o ts, v, S => ∃ a vs, v = .ref a ∧ (match o with
    | false => LstA K G H a vs ∧ RpL K G H ts vs S
    | true => S a ∧ H a = some (.lst vs) ∧ RpL K G H ts vs (fun b => S b ∧ b ≠ a))
  | .obj o c ts, v, S => ∃ a dx vs, v = .ref a ∧ H a = some (.ins (He.ga K c.nm) dx (c.fl.zip vs)) ∧ ts.length ≤ c.fl.length ∧ (match o with
    | false => G a ∧ RpL K G H ts vs S
    | true => S a ∧ RpL K G H ts vs (fun b => S b ∧ b ≠ a))
  | .dic o ks ts, v, S => ∃ a vs, v = .ref a ∧ H a = some (.dK (ks.zip vs)) ∧ ks.length = ts.length ∧ (match o with
    | false => G a ∧ RpL K G H ts vs S
    | true => S a ∧ RpL K G H ts vs (fun b => S b ∧ b ≠ a))
  | .dit o ks ts, v, S => ∃ a vs, v = .ref a ∧ H a = some (.dT (ks.zip vs)) ∧ ks.length = ts.length ∧ (match o with
    | false => G a ∧ RpL K G H ts vs S
    | true => S a ∧ RpL K G H ts vs (fun b => S b ∧ b ≠ a))
where RpL (K : PySem.W.Frag) (G : AS) (H : Hp) : List T → List V → AS → Prop
  | [], vs, _ => vs = []
  | t :: ts, vs, S => ∃ v vr S1 S2, vs = v :: vr ∧ Rp K G H t v S1 ∧ RpL K G H ts vr S2 ∧ (∀ a, S1 a → S a) ∧ (∀ a, S2 a → S a) ∧ (∀ a, S1 a → S2 a → False)

abbrev RpL := @Rp.RpL
/-- frozen all through -/
def frz : T → Bool
  | .tup ts => frzL ts
  | .lst o ts => !o && frzL ts
  | .obj o _ ts => !o && frzL ts
  | .dic o _ ts => !o && frzL ts
  | .dit o _ ts => !o && frzL ts
  | _ => true
where frzL : List T → Bool
  | [] => true
  | t :: ts => frz t && frzL ts
abbrev frzL := frz.frzL
/-- frozen from now on -/
def fz : T → T
  | .tup ts => .tup (fzL ts)
  | .lst _ ts => .lst false (fzL ts)
  | .obj _ c ts => .obj false c (fzL ts)
  | .dic _ ks ts => .dic false ks (fzL ts)
  | .dit _ ks ts => .dit false ks (fzL ts)
  | t => t
where fzL : List T → List T
  | [] => []
  | t :: ts => fz t :: fzL ts
abbrev fzL := fz.fzL
def NoA : AS := fun _ => False

theorem fzL_length : ∀ ts : List T, (fzL ts).length = ts.length
  | [] => rfl
  | _ :: ts => congrArg Nat.succ (fzL_length ts)
mutual
theorem frz_fz : ∀ t : T, frz (fz t) = true
  | .non | .bl _ | .int _ | .str _ | .ty _ | .cls _ | .scr _ => rfl
  | .tup ts => frzL_fz ts
  | .lst _ ts => frzL_fz ts
  | .obj _ _ ts => frzL_fz ts
  | .dic _ _ ts => frzL_fz ts
  | .dit _ _ ts => frzL_fz ts
theorem frzL_fz : ∀ ts : List T, frzL (fzL ts) = true
  | [] => rfl
  | t :: ts => Bool.and_eq_true_iff.mpr ⟨frz_fz t, frzL_fz ts⟩
end
mutual
theorem fz_frz : ∀ {t : T}, frz t = true → fz t = t
  | .non, _ | .bl _, _ | .int _, _ | .str _, _ | .ty _, _ | .cls _, _ | .scr _, _ => rfl
  | .tup ts, h => congrArg T.tup (fzL_frz (ts := ts) h)
  | .lst false ts, h => congrArg (T.lst false) (fzL_frz (ts := ts) h)
  | .lst true ts, h => nomatch (show false = true from h)
  | .obj false c ts, h => congrArg (T.obj false c) (fzL_frz (ts := ts) h)
  | .obj true c ts, h => nomatch (show false = true from h)
  | .dic false c ts, h => congrArg (T.dic false c) (fzL_frz (ts := ts) h)
  | .dic true c ts, h => nomatch (show false = true from h)
  | .dit false c ts, h => congrArg (T.dit false c) (fzL_frz (ts := ts) h)
  | .dit true c ts, h => nomatch (show false = true from h)
theorem fzL_frz : ∀ {ts : List T}, frzL ts = true → fzL ts = ts
  | [], _ => rfl
  | t :: ts, h => by
    obtain ⟨f1, f2⟩ := Bool.and_eq_true_iff.mp (show (frz t && frzL ts) = true from h)
    show fz t :: fzL ts = t :: ts
    rw [fz_frz f1, fzL_frz f2]
end

section
variable {K : PySem.W.Frag} {G G' : AS} {H H' : Hp}
mutual
theorem Rp.mono : ∀ (t : T) {v : V} {S S' : AS}, Rp K G H t v S → (∀ a, S a → S' a) → Rp K G H t v S'
  | .non, _, _, _, h, _ => h
  | .bl _, _, _, _, h, _ => h
  | .int _, _, _, _, h, _ => h
  | .str _, _, _, _, h, _ => h
  | .ty _, _, _, _, h, _ => h
  | .cls _, _, _, _, h, _ => h
  | .scr _, _, _, _, h, _ => h
  | .tup ts, v, S, S', h, e => by
    obtain ⟨a, vs, h1, h2, h3⟩ := h
    exact ⟨a, vs, h1, h2, RpL.mono ts h3 e⟩
  | .lst false ts, v, S, S', h, e => by
    obtain ⟨a, vs, h1, h2, h3⟩ := h
    exact ⟨a, vs, h1, h2, RpL.mono ts h3 e⟩
  | .lst true ts, v, S, S', h, e => by
    obtain ⟨a, vs, h1, h2, h3, h4⟩ := h
    exact ⟨a, vs, h1, e _ h2, h3, RpL.mono ts h4 fun b hb => ⟨e _ hb.1, hb.2⟩⟩
  | .obj false c ts, v, S, S', h, e => by
    obtain ⟨a, dx, vs, h1, h2, h3, h4, h5⟩ := h
    exact ⟨a, dx, vs, h1, h2, h3, h4, RpL.mono ts h5 e⟩
  | .obj true c ts, v, S, S', h, e => by
    obtain ⟨a, dx, vs, h1, h2, h3, h4, h5⟩ := h
    exact ⟨a, dx, vs, h1, h2, h3, e _ h4, RpL.mono ts h5 fun b hb => ⟨e _ hb.1, hb.2⟩⟩
  | .dic false ks ts, v, S, S', h, e => by
    obtain ⟨a, vs, h1, h2, h3, h4, h5⟩ := h
    exact ⟨a, vs, h1, h2, h3, h4, RpL.mono ts h5 e⟩
  | .dic true ks ts, v, S, S', h, e => by
    obtain ⟨a, vs, h1, h2, h3, h4, h5⟩ := h
    exact ⟨a, vs, h1, h2, h3, e _ h4, RpL.mono ts h5 fun b hb => ⟨e _ hb.1, hb.2⟩⟩
  | .dit false ks ts, v, S, S', h, e => by
    obtain ⟨a, vs, h1, h2, h3, h4, h5⟩ := h
    exact ⟨a, vs, h1, h2, h3, h4, RpL.mono ts h5 e⟩
  | .dit true ks ts, v, S, S', h, e => by
    obtain ⟨a, vs, h1, h2, h3, h4, h5⟩ := h
    exact ⟨a, vs, h1, h2, h3, e _ h4, RpL.mono ts h5 fun b hb => ⟨e _ hb.1, hb.2⟩⟩
theorem RpL.mono : ∀ (ts : List T) {vs : List V} {S S' : AS}, RpL K G H ts vs S → (∀ a, S a → S' a) → RpL K G H ts vs S'
  | [], _, _, _, h, _ => h
  | t :: ts, vs, S, S', h, e => by
    obtain ⟨v, vr, S1, S2, h1, h2, h3, h4, h5, h6⟩ := h
    exact ⟨v, vr, S1, S2, h1, h2, h3, fun a q => e a (h4 a q), fun a q => e a (h5 a q), h6⟩
end
mutual
theorem Rp.keep : ∀ (t : T) {v : V} {S : AS}, Rp K G H t v S → (∀ a, G a → G' a) → (∀ a, G a ∨ S a → H' a = H a) → Rp K G' H' t v S
  | .non, _, _, h, _, _ => h
  | .bl _, _, _, h, _, _ => h
  | .int _, _, _, h, _, _ => h
  | .str _, _, _, h, _, _ => h
  | .ty _, _, _, h, _, _ => h
  | .cls _, _, _, h, _, _ => h
  | .scr _, _, _, ⟨a, h1, h2⟩, g, e => ⟨a, h1, h2.keep (g a) fun z => e a (.inl z)⟩
  | .tup ts, v, S, h, g, e => by
    obtain ⟨a, vs, h1, h2, h3⟩ := h
    exact ⟨a, vs, h1, h2.keep (g a) fun q => e a (.inl q), RpL.keep ts h3 g e⟩
  | .lst false ts, v, S, h, g, e => by
    obtain ⟨a, vs, h1, h2, h3⟩ := h
    exact ⟨a, vs, h1, h2.keep (g a) fun q => e a (.inl q), RpL.keep ts h3 g e⟩
  | .lst true ts, v, S, h, g, e => by
    obtain ⟨a, vs, h1, h2, h3, h4⟩ := h
    exact ⟨a, vs, h1, h2, (e a (.inr h2)).trans h3, RpL.keep ts h4 g fun b hb => e b (hb.imp id And.left)⟩
  | .obj false c ts, v, S, h, g, e => by
    obtain ⟨a, dx, vs, h1, h2, h3, h4, h5⟩ := h
    exact ⟨a, dx, vs, h1, (e a (.inl h4)).trans h2, h3, g a h4, RpL.keep ts h5 g e⟩
  | .obj true c ts, v, S, h, g, e => by
    obtain ⟨a, dx, vs, h1, h2, h3, h4, h5⟩ := h
    exact ⟨a, dx, vs, h1, (e a (.inr h4)).trans h2, h3, h4, RpL.keep ts h5 g fun b hb => e b (hb.imp id And.left)⟩
  | .dic false ks ts, v, S, h, g, e => by
    obtain ⟨a, vs, h1, h2, h3, h4, h5⟩ := h
    exact ⟨a, vs, h1, (e a (.inl h4)).trans h2, h3, g a h4, RpL.keep ts h5 g e⟩
  | .dic true ks ts, v, S, h, g, e => by
    obtain ⟨a, vs, h1, h2, h3, h4, h5⟩ := h
    exact ⟨a, vs, h1, (e a (.inr h4)).trans h2, h3, h4, RpL.keep ts h5 g fun b hb => e b (hb.imp id And.left)⟩
  | .dit false ks ts, v, S, h, g, e => by
    obtain ⟨a, vs, h1, h2, h3, h4, h5⟩ := h
    exact ⟨a, vs, h1, (e a (.inl h4)).trans h2, h3, g a h4, RpL.keep ts h5 g e⟩
  | .dit true ks ts, v, S, h, g, e => by
    obtain ⟨a, vs, h1, h2, h3, h4, h5⟩ := h
    exact ⟨a, vs, h1, (e a (.inr h4)).trans h2, h3, h4, RpL.keep ts h5 g fun b hb => e b (hb.imp id And.left)⟩
theorem RpL.keep : ∀ (ts : List T) {vs : List V} {S : AS}, RpL K G H ts vs S → (∀ a, G a → G' a) → (∀ a, G a ∨ S a → H' a = H a) → RpL K G' H' ts vs S
  | [], _, _, h, _, _ => h
  | t :: ts, vs, S, h, g, e => by
    obtain ⟨v, vr, S1, S2, h1, h2, h3, h4, h5, h6⟩ := h
    exact ⟨v, vr, S1, S2, h1, Rp.keep t h2 g fun a q => e a (q.imp id (h4 a)), RpL.keep ts h3 g fun a q => e a (q.imp id (h5 a)), h4, h5, h6⟩
end
mutual
/-- a frozen tree wants no owned room -/
theorem Rp.cold : ∀ (t : T) {v : V} {S : AS} (S' : AS), frz t = true → Rp K G H t v S → Rp K G H t v S'
  | .non, _, _, _, _, h => h
  | .bl _, _, _, _, _, h => h
  | .int _, _, _, _, _, h => h
  | .str _, _, _, _, _, h => h
  | .ty _, _, _, _, _, h => h
  | .cls _, _, _, _, _, h => h
  | .scr _, _, _, _, _, h => h
  | .tup ts, v, S, S', f, h => by
    obtain ⟨a, vs, h1, h2, h3⟩ := h
    exact ⟨a, vs, h1, h2, RpL.cold ts S' f h3⟩
  | .lst false ts, v, S, S', f, h => by
    obtain ⟨a, vs, h1, h2, h3⟩ := h
    exact ⟨a, vs, h1, h2, RpL.cold ts S' f h3⟩
  | .lst true ts, v, S, S', f, h => nomatch (show false = true from f)
  | .obj false c ts, v, S, S', f, h => by
    obtain ⟨a, dx, vs, h1, h2, h3, h4, h5⟩ := h
    exact ⟨a, dx, vs, h1, h2, h3, h4, RpL.cold ts S' f h5⟩
  | .obj true c ts, v, S, S', f, h => nomatch (show false = true from f)
  | .dic false ks ts, v, S, S', f, h => by
    obtain ⟨a, vs, h1, h2, h3, h4, h5⟩ := h
    exact ⟨a, vs, h1, h2, h3, h4, RpL.cold ts S' f h5⟩
  | .dic true ks ts, v, S, S', f, h => nomatch (show false = true from f)
  | .dit false ks ts, v, S, S', f, h => by
    obtain ⟨a, vs, h1, h2, h3, h4, h5⟩ := h
    exact ⟨a, vs, h1, h2, h3, h4, RpL.cold ts S' f h5⟩
  | .dit true ks ts, v, S, S', f, h => nomatch (show false = true from f)
theorem RpL.cold : ∀ (ts : List T) {vs : List V} {S : AS} (S' : AS), frzL ts = true → RpL K G H ts vs S → RpL K G H ts vs S'
  | [], _, _, _, _, h => h
  | t :: ts, vs, S, S', f, h => by
    obtain ⟨v, vr, S1, S2, h1, h2, h3, h4, h5, h6⟩ := h
    obtain ⟨f1, f2⟩ := Bool.and_eq_true_iff.mp (show (frz t && frzL ts) = true from f)
    exact ⟨v, vr, NoA, NoA, h1, Rp.cold t NoA f1 h2, RpL.cold ts NoA f2 h3, fun _ q => q.elim, fun _ q => q.elim, fun _ q => q.elim⟩
end
mutual
/-- frozen at its place: what it owned lies in G from now on -/
theorem Rp.fz : ∀ (t : T) {v : V} {S : AS}, Rp K G H t v S → (∀ a, S a → G' a) → (∀ a, G a → G' a) → Rp K G' H (fz t) v NoA
  | .non, _, _, h, _, _ => h
  | .bl _, _, _, h, _, _ => h
  | .int _, _, _, h, _, _ => h
  | .str _, _, _, h, _, _ => h
  | .ty _, _, _, h, _, _ => h
  | .cls _, _, _, h, _, _ => h
  | .scr _, _, _, ⟨a, h1, h2⟩, _, g => ⟨a, h1, h2.keep (g a) fun _ => rfl⟩
  | .tup ts, v, S, h, e, g => by
    obtain ⟨a, vs, h1, h2, h3⟩ := h
    exact ⟨a, vs, h1, h2.keep (g a) fun _ => rfl, RpL.fz ts h3 e g⟩
  | .lst false ts, v, S, h, e, g => by
    obtain ⟨a, vs, h1, h2, h3⟩ := h
    exact ⟨a, vs, h1, h2.keep (g a) fun _ => rfl, RpL.fz ts h3 e g⟩
  | .lst true ts, v, S, h, e, g => by
    obtain ⟨a, vs, h1, h2, h3, h4⟩ := h
    exact ⟨a, vs, h1, ⟨e _ h2, h3⟩, RpL.fz ts h4 (fun b hb => e b hb.1) g⟩
  | .obj false c ts, v, S, h, e, g => by
    obtain ⟨a, dx, vs, h1, h2, h3, h4, h5⟩ := h
    exact ⟨a, dx, vs, h1, h2, by rw [fzL_length]; exact h3, g a h4, RpL.fz ts h5 e g⟩
  | .obj true c ts, v, S, h, e, g => by
    obtain ⟨a, dx, vs, h1, h2, h3, h4, h5⟩ := h
    exact ⟨a, dx, vs, h1, h2, by rw [fzL_length]; exact h3, e a h4, RpL.fz ts h5 (fun b hb => e b hb.1) g⟩
  | .dic false ks ts, v, S, h, e, g => by
    obtain ⟨a, vs, h1, h2, h3, h4, h5⟩ := h
    exact ⟨a, vs, h1, h2, by rw [fzL_length]; exact h3, g a h4, RpL.fz ts h5 e g⟩
  | .dic true ks ts, v, S, h, e, g => by
    obtain ⟨a, vs, h1, h2, h3, h4, h5⟩ := h
    exact ⟨a, vs, h1, h2, by rw [fzL_length]; exact h3, e a h4, RpL.fz ts h5 (fun b hb => e b hb.1) g⟩
  | .dit false ks ts, v, S, h, e, g => by
    obtain ⟨a, vs, h1, h2, h3, h4, h5⟩ := h
    exact ⟨a, vs, h1, h2, by rw [fzL_length]; exact h3, g a h4, RpL.fz ts h5 e g⟩
  | .dit true ks ts, v, S, h, e, g => by
    obtain ⟨a, vs, h1, h2, h3, h4, h5⟩ := h
    exact ⟨a, vs, h1, h2, by rw [fzL_length]; exact h3, e a h4, RpL.fz ts h5 (fun b hb => e b hb.1) g⟩
theorem RpL.fz : ∀ (ts : List T) {vs : List V} {S : AS}, RpL K G H ts vs S → (∀ a, S a → G' a) → (∀ a, G a → G' a) → RpL K G' H (fzL ts) vs NoA
  | [], _, _, h, _, _ => h
  | t :: ts, vs, S, h, e, g => by
    obtain ⟨v, vr, S1, S2, h1, h2, h3, h4, h5, h6⟩ := h
    exact ⟨v, vr, NoA, NoA, h1, Rp.fz t h2 (fun a q => e a (h4 a q)) g, RpL.fz ts h3 (fun a q => e a (h5 a q)) g, fun _ q => q.elim, fun _ q => q.elim, fun _ q => q.elim⟩
end
end
end
end Ev

/-! EvCore: worlds of addresses (Wd, Ext), slots of trees (StR), results (R), the judgements. -/
namespace Ev
noncomputable section
open PySem L2

/-- frozen G, the others' F, ours S: apart, and all of the heap -/
structure Wd (G F S : AS) (H : Hp) : Prop where
  gf : ∀ a, G a → F a → False
  gs : ∀ a, G a → S a → False
  fs : ∀ a, F a → S a → False
  dG : ∀ a, G a → H a ≠ none
  dF : ∀ a, F a → H a ≠ none
  dS : ∀ a, S a → H a ≠ none
/-- what was frozen stays so, what is the others' stays -/
structure Ext (G F : AS) (H : Hp) (G' : AS) (H' : Hp) : Prop where
  sub : ∀ a, G a → G' a
  keep : ∀ a, G a ∨ F a → H' a = H a
theorem Ext.refl {G F : AS} {H : Hp} : Ext G F H G H := ⟨fun _ h => h, fun _ _ => rfl⟩
theorem Ext.trans {G F : AS} {H H1 H2 : Hp} {G1 G2 : AS} (a : Ext G F H G1 H1) (b : Ext G1 F H1 G2 H2) : Ext G F H G2 H2 :=
  ⟨fun x h => b.sub x (a.sub x h), fun x h => (b.keep x (h.imp (a.sub x) id)).trans (a.keep x h)⟩
theorem Ext.less {G F F' : AS} {H H' : Hp} {G' : AS} (e : Ext G F H G' H') (h : ∀ a, F' a → F a) : Ext G F' H G' H' := ⟨e.sub, fun a q => e.keep a (q.imp id (h a))⟩
theorem Wd.less {G F S F' S' : AS} {H : Hp} (w : Wd G F S H) (hf : ∀ a, F' a → F a) (hs : ∀ a, S' a → S a) : Wd G F' S' H :=
  ⟨fun a g f => w.gf a g (hf a f), fun a g s => w.gs a g (hs a s), fun a f s => w.fs a (hf a f) (hs a s), w.dG, fun a f => w.dF a (hf a f), fun a s => w.dS a (hs a s)⟩
/-- ours S2 is lent away -/
theorem Wd.lend {G F S1 S2 : AS} {H : Hp} (w : Wd G F (fun a => S1 a ∨ S2 a) H) (d : ∀ a, S1 a → S2 a → False) : Wd G (fun a => F a ∨ S2 a) S1 H :=
  ⟨fun a g f => f.elim (w.gf a g) fun s => w.gs a g (.inr s), fun a g s => w.gs a g (.inl s), fun a f s => f.elim (fun q => w.fs a q (.inl s)) fun q => d a s q, w.dG, fun a f => f.elim (w.dF a) fun s => w.dS a (.inr s), fun a s => w.dS a (.inl s)⟩
/-- and comes back -/
theorem Wd.back {G F S1 S2 : AS} {H : Hp} (w : Wd G (fun a => F a ∨ S2 a) S1 H) (d : ∀ a, F a → S2 a → False) : Wd G F (fun a => S1 a ∨ S2 a) H :=
  ⟨fun a g f => w.gf a g (.inl f), fun a g s => s.elim (w.gs a g) fun q => w.gf a g (.inr q), fun a f s => s.elim (w.fs a (.inl f)) fun q => d a f q, w.dG, fun a f => w.dF a (.inl f), fun a s => s.elim (w.dS a) fun q => w.dF a (.inr q)⟩

abbrev SL := List (Option T)
def SlR (K : PySem.W.Frag) (G : AS) (H : Hp) : Option T → Option V → AS → Prop
  | none, _, _ => True
  | some t, y, S => ∃ v, y = some v ∧ Rp K G H t v S
def StR (K : PySem.W.Frag) (G : AS) (H : Hp) : SL → St → AS → Prop
  | [], σ, _ => σ = []
  | x :: st, σ, S => ∃ y σr S1 S2, σ = y :: σr ∧ SlR K G H x y S1 ∧ StR K G H st σr S2 ∧ (∀ a, S1 a → S a) ∧ (∀ a, S2 a → S a) ∧ (∀ a, S1 a → S2 a → False)
section
variable {K : PySem.W.Frag} {G G' : AS} {H H' : Hp}
theorem SlR.keep : ∀ {x : Option T} {y : Option V} {S : AS}, SlR K G H x y S → (∀ a, G a → G' a) → (∀ a, G a ∨ S a → H' a = H a) → SlR K G' H' x y S
  | none, _, _, _, _, _ => trivial
  | some t, _, _, ⟨v, h1, h2⟩, g, e => ⟨v, h1, Rp.keep t h2 g e⟩
theorem StR.keep : ∀ {st : SL} {σ : St} {S : AS}, StR K G H st σ S → (∀ a, G a → G' a) → (∀ a, G a ∨ S a → H' a = H a) → StR K G' H' st σ S
  | [], _, _, h, _, _ => h
  | x :: st, _, S, ⟨y, σr, S1, S2, h1, h2, h3, h4, h5, h6⟩, g, e =>
    ⟨y, σr, S1, S2, h1, h2.keep g fun a q => e a (q.imp id (h4 a)), StR.keep h3 g fun a q => e a (q.imp id (h5 a)), h4, h5, h6⟩
theorem StR.mono : ∀ {st : SL} {σ : St} {S S' : AS}, StR K G H st σ S → (∀ a, S a → S' a) → StR K G H st σ S'
  | [], _, _, _, h, _ => h
  | x :: st, _, S, S', ⟨y, σr, S1, S2, h1, h2, h3, h4, h5, h6⟩, e => ⟨y, σr, S1, S2, h1, h2, h3, fun a q => e a (h4 a q), fun a q => e a (h5 a q), h6⟩
theorem StR.len : ∀ {st : SL} {σ : St} {S : AS}, StR K G H st σ S → st.length = σ.length
  | [], σ, _, h => by
    have e : σ = [] := h
    rw [e]
    rfl
  | x :: st, _, S, ⟨y, σr, S1, S2, h1, h2, h3, _⟩ => by
    rw [h1, List.length_cons, List.length_cons, StR.len h3]
/-- a slot's tree, and the others -/
theorem StR.get : ∀ {st : SL} {σ : St} {S : AS} {i : Nat} {t : T}, StR K G H st σ S → st[i]? = some (some t) →
    ∃ v S1 S2, σ[i]? = some (some v) ∧ Rp K G H t v S1 ∧ (∀ a, S1 a → S a) ∧ (∀ a, S2 a → S a) ∧ (∀ a, S1 a → S2 a → False) ∧ StR K G H (st.set i none) σ S2
  | [], _, _, _, _, _, e => by simp at e
  | x :: st, _, S, 0, t, ⟨y, σr, S1, S2, h1, h2, h3, h4, h5, h6⟩, e => by
    have e' : x = some t := by simpa using e
    subst e' h1
    obtain ⟨v, q1, q2⟩ := h2
    subst q1
    exact ⟨v, S1, S2, rfl, q2, h4, h5, h6, _, σr, NoA, S2, rfl, trivial, h3, fun _ z => z.elim, fun _ z => z, fun _ z => z.elim⟩
  | x :: st, _, S, i + 1, t, ⟨y, σr, S1, S2, h1, h2, h3, h4, h5, h6⟩, e => by
    obtain ⟨v, A, B, q1, q2, q3, q4, q5, q6⟩ := StR.get (i := i) (t := t) h3 (by simpa using e)
    subst h1
    exact ⟨v, A, fun a => S1 a ∨ B a, by simpa using q1, q2, fun a z => h5 a (q3 a z), fun a z => z.elim (h4 a) fun z => h5 a (q4 a z), fun a z1 z2 => z2.elim (fun z => h6 a z (q3 a z1)) (q5 a z1),
      y, σr, S1, B, rfl, h2, q6, fun _ z => .inl z, fun _ z => .inr z, fun a z1 z2 => h6 a z1 (q4 a z2)⟩
/-- a slot forgotten, whatever it holds -/
theorem StR.drop : ∀ {st : SL} {σ : St} {S : AS} (i : Nat), StR K G H st σ S → StR K G H (st.set i none) σ S
  | [], _, _, _, h => h
  | x :: st, _, S, 0, ⟨y, σr, S1, S2, h1, h2, h3, h4, h5, h6⟩ => ⟨y, σr, S1, S2, h1, trivial, h3, h4, h5, h6⟩
  | x :: st, _, S, i + 1, ⟨y, σr, S1, S2, h1, h2, h3, h4, h5, h6⟩ => ⟨y, σr, S1, S2, h1, h2, StR.drop i h3, h4, h5, h6⟩
/-- a slot's value changed that no tree speaks of -/
theorem StR.loose : ∀ {st : SL} {σ : St} {S : AS} (i : Nat) (z : Option V), StR K G H st σ S → StR K G H (st.set i none) (σ.set i z) S
  | [], _, _, _, _, h => by rw [show _ = ([] : St) from h]; rfl
  | x :: st, _, S, 0, z, ⟨y, σr, S1, S2, h1, h2, h3, h4, h5, h6⟩ => by
    subst h1
    exact ⟨z, σr, S1, S2, rfl, trivial, h3, h4, h5, h6⟩
  | x :: st, _, S, i + 1, z, ⟨y, σr, S1, S2, h1, h2, h3, h4, h5, h6⟩ => by
    subst h1
    exact ⟨y, σr.set i z, S1, S2, rfl, h2, StR.loose i z h3, h4, h5, h6⟩
/-- a slot filled -/
theorem StR.fill : ∀ {st : SL} {σ : St} {S S' : AS} {i : Nat} {t : T} {v : V}, StR K G H st σ S → Rp K G H t v S' → (∀ a, S a → S' a → False) → StR K G H (st.set i (some t)) (σ.set i (some v)) (fun a => S a ∨ S' a)
  | [], _, _, _, _, _, _, h, _, _ => by
    rw [show _ = ([] : St) from h]
    exact rfl
  | x :: st, _, S, S', 0, t, v, ⟨y, σr, S1, S2, h1, h2, h3, h4, h5, h6⟩, r, d => by
    subst h1
    exact ⟨some v, σr, S', S2, rfl, ⟨v, rfl, r⟩, h3, fun _ z => .inr z, fun a z => .inl (h5 a z), fun a z1 z2 => d a (h5 a z2) z1⟩
  | x :: st, _, S, S', i + 1, t, v, ⟨y, σr, S1, S2, h1, h2, h3, h4, h5, h6⟩, r, d => by
    subst h1
    refine ⟨y, σr.set i (some v), S1, fun a => S2 a ∨ S' a, rfl, h2, StR.fill h3 r fun a z1 z2 => d a (h5 a z1) z2, fun a z => .inl (h4 a z), fun a z => z.imp (h5 a) id, fun a z1 z2 => z2.elim (h6 a z1) fun z => d a (h4 a z1) z⟩
/-- .. by the value that stands there -/
theorem StR.fit {st : SL} {σ : St} {S S' : AS} {i : Nat} {t : T} {v : V} (h : StR K G H st σ S) (e : σ[i]? = some (some v)) (r : Rp K G H t v S') (d : ∀ a, S a → S' a → False) : StR K G H (st.set i (some t)) σ (fun a => S a ∨ S' a) := by
  have q := StR.fill (i := i) h r d
  have e2 : σ.set i (some v) = σ := by
    apply List.ext_getElem?
    intro j
    by_cases hj : i = j
    · subst hj
      obtain ⟨hlt, _⟩ := List.getElem?_eq_some_iff.mp e
      rw [List.getElem?_set_self hlt, e]
    · rw [List.getElem?_set_ne hj]
  rw [e2] at q
  exact q
end

/-! ### results -/
/-- an exception: its class, its fields -/
structure Xv where
  c : Cd
  xs : List T
inductive R (α : Type) where
  | ok (a : α) (s : SL) | ex (x : Xv) (s : SL) | no
def R.bind {α β : Type} : R α → (α → SL → R β) → R β
  | .ok a s, f => f a s
  | .ex x s, _ => .ex x s
  | .no, _ => .no
@[simp] theorem bind_ok {α β : Type} (a : α) (s : SL) (f : α → SL → R β) : (R.ok a s).bind f = f a s := rfl
@[simp] theorem bind_ex {α β : Type} (x : Xv) (s : SL) (f : α → SL → R β) : (R.ex x s).bind f = .ex x s := rfl
@[simp] theorem bind_no {α β : Type} (f : α → SL → R β) : (R.no : R α).bind f = .no := rfl
/-- an exception's own dict holds its fields -/
def XcR (K : PySem.W.Frag) (G : AS) (H : Hp) (x : Xv) (cls : Value) (d : Option Addr) : Prop :=
  cls = .ref (He.ga K x.c.nm) ∧ ∃ a vs, d = some a ∧ G a ∧ H a = some (.xd (x.c.fl.zip vs)) ∧ x.xs.length ≤ x.c.fl.length ∧ RpL K G H x.xs vs NoA

/-- an operand: a tree of its own, or what stands in a slot when the operation is done -/
inductive AV where
  | v (t : T) | s (i : Nat)
abbrev SE := SL → R T
abbrev SU := SL → R AV
def AvR (K : PySem.W.Frag) (G : AS) (H : Hp) (σ : St) : AV → V → AS → Prop
  | .v t, v, S => Rp K G H t v S
  | .s i, v, _ => σ[i]? = some (some v)
/-- behind an expression -/
def PostU (K : PySem.W.Frag) (Wx : WX) (G F : AS) (H : Hp) (σ : St) (Q : VK) : R AV → Prop
  | .ok u st => ∀ v H' G' S1 S2, Ext G F H G' H' → Wd G' F (fun a => S1 a ∨ S2 a) H' → (∀ a, S1 a → S2 a → False) → StR K G' H' st σ S1 → AvR K G' H' σ u v S2 → Q v H'
  | .ex x st => ∀ cls d H' G' S1, Ext G F H G' H' → Wd G' F S1 H' → StR K G' H' st σ S1 → XcR K G' H' x cls d → Wx cls d σ H'
  | .no => False
def RdU (K : PySem.W.Frag) (Wx : WX) (f : SU) : TE := fun σ H Q => ∃ G F S st, Wd G F S H ∧ StR K G H st σ S ∧ PostU K Wx G F H σ Q (f st)
/-- e is computed by f -/
def SimU (X : Cx) (e : Expr) (f : SU) : Prop := ∀ Wx, Takes X Wx → PE X e (RdU X.K Wx f)
def uV (f : SE) : SU := fun st => (f st).bind fun t st => .ok (.v t) st
def SimE (X : Cx) (e : Expr) (f : SE) : Prop := SimU X e (uV f)

theorem PE.imp {X : Cx} {e : Expr} {t t' : TE} (h : PE X e t) (i : ∀ σ H Q, t' σ H Q → t σ H Q) : PE X e t' := ⟨fun pins s σ H Q I q => h.run pins s σ H Q I (i σ H Q q)⟩
theorem PT.imp {X : Cx} {e : Expr} {t t' : TT} (h : PT X e t) (i : ∀ σ H Q, t' σ H Q → t σ H Q) : PT X e t' := ⟨fun pins s σ H Q I q => h.run pins s σ H Q I (i σ H Q q)⟩
theorem PW.imp {X : Cx} {e : Expr} {t t' : TT} (h : PW X e t) (i : ∀ σ H Q, t' σ H Q → t σ H Q) : PW X e t' := ⟨fun wh pins s σ H Q I q => h.run wh pins s σ H Q I (i σ H Q q)⟩
theorem PA.imp {X : Cx} {e : List Expr} {t t' : TA} (h : PA X e t) (i : ∀ σ H Q, t' σ H Q → t σ H Q) : PA X e t' := ⟨fun pos pins s σ H Q I q => h.run pos pins s σ H Q I (i σ H Q q)⟩
theorem PS.imp {X : Cx} {e : Stmt} {t t' : TS} (h : PS X e t) (i : ∀ D σ H, t' D σ H → t D σ H) : PS X e t' := ⟨fun pins s σ H D I q => h.run pins s σ H D I (i D σ H q)⟩
theorem PSs.imp {X : Cx} {e : List Stmt} {t t' : TS} (h : PSs X e t) (i : ∀ D σ H, t' D σ H → t D σ H) : PSs X e t' := ⟨fun pins s σ H D I q => h.run pins s σ H D I (i D σ H q)⟩

/-! ### argument lists -/
def AvsR (K : PySem.W.Frag) (G : AS) (H : Hp) (σ : St) : List AV → List V → AS → Prop
  | [], vs, _ => vs = []
  | u :: us, vs, S => ∃ v vr S1 S2, vs = v :: vr ∧ AvR K G H σ u v S1 ∧ AvsR K G H σ us vr S2 ∧ (∀ a, S1 a → S a) ∧ (∀ a, S2 a → S a) ∧ (∀ a, S1 a → S2 a → False)
abbrev SA := SL → R (List AV)
def PostA (K : PySem.W.Frag) (Wx : WX) (G F : AS) (H : Hp) (σ : St) (Q : List V → Hp → Prop) : R (List AV) → Prop
  | .ok us st => ∀ vs H' G' S1 S2, Ext G F H G' H' → Wd G' F (fun a => S1 a ∨ S2 a) H' → (∀ a, S1 a → S2 a → False) → StR K G' H' st σ S1 → AvsR K G' H' σ us vs S2 → Q vs H'
  | .ex x st => ∀ cls d H' G' S1, Ext G F H G' H' → Wd G' F S1 H' → StR K G' H' st σ S1 → XcR K G' H' x cls d → Wx cls d σ H'
  | .no => False
def RdA (K : PySem.W.Frag) (Wx : WX) (f : SA) : TA := fun σ H Q => ∃ G F S st, Wd G F S H ∧ StR K G H st σ S ∧ PostA K Wx G F H σ Q (f st)
def SimA (X : Cx) (es : List Expr) (f : SA) : Prop := ∀ Wx, Takes X Wx → PA X es (RdA X.K Wx f)
section
variable {K : PySem.W.Frag} {G G' : AS} {H H' : Hp} {σ : St}
theorem AvR.keep : ∀ {u : AV} {v : V} {S : AS}, AvR K G H σ u v S → (∀ a, G a → G' a) → (∀ a, G a ∨ S a → H' a = H a) → AvR K G' H' σ u v S
  | .v t, _, _, h, g, e => Rp.keep t h g e
  | .s _, _, _, h, _, _ => h
theorem AvsR.keep : ∀ {us : List AV} {vs : List V} {S : AS}, AvsR K G H σ us vs S → (∀ a, G a → G' a) → (∀ a, G a ∨ S a → H' a = H a) → AvsR K G' H' σ us vs S
  | [], _, _, h, _, _ => h
  | u :: us, _, S, ⟨v, vr, S1, S2, h1, h2, h3, h4, h5, h6⟩, g, e => ⟨v, vr, S1, S2, h1, h2.keep g fun a q => e a (q.imp id (h4 a)), AvsR.keep h3 g fun a q => e a (q.imp id (h5 a)), h4, h5, h6⟩
end
def aNil : SA := fun st => .ok [] st
def aCons (f : SU) (g : SA) : SA := fun st => (f st).bind fun u st => (g st).bind fun us st => .ok (u :: us) st
theorem sim_nil {X : Cx} : SimA X [] aNil := fun Wx _ => PA.imp pa_nil fun σ H Q ⟨G, F, S, st, w, r, p⟩ =>
  p [] H G S NoA Ext.refl (w.less (fun _ z => z) fun _ z => z.elim id fun z => z.elim) (fun _ _ z => z.elim) r rfl

/-- behind one part the next one, its tree laid by -/
theorem step_u {K : PySem.W.Frag} {Wx : WX} {G F S : AS} {H : Hp} {σ : St} {st : SL} {f : SU} {Q : VK} (w : Wd G F S H) (r : StR K G H st σ S)
    (ok : ∀ u st1, f st = .ok u st1 → ∀ v H1 G1 S1 S2, Ext G F H G1 H1 → Wd G1 F (fun a => S1 a ∨ S2 a) H1 → (∀ a, S1 a → S2 a → False) → StR K G1 H1 st1 σ S1 → AvR K G1 H1 σ u v S2 → Q v H1)
    (ex : ∀ x st1, f st = .ex x st1 → ∀ cls d H1 G1 S1, Ext G F H G1 H1 → Wd G1 F S1 H1 → StR K G1 H1 st1 σ S1 → XcR K G1 H1 x cls d → Wx cls d σ H1)
    (no : f st ≠ .no) : RdU K Wx f σ H Q := by
  refine ⟨G, F, S, st, w, r, ?_⟩
  cases e : f st with
  | ok u st1 => exact ok u st1 e
  | ex x st1 => exact ex x st1 e
  | no => exact no e
theorem cons_core {K : PySem.W.Frag} {Wx : WX} {f : SU} {g : SA} {σ : St} {H : Hp} {Q : List V → Hp → Prop} (h : RdA K Wx (aCons f g) σ H Q) : RdU K Wx f σ H fun v H1 => RdA K Wx g σ H1 fun vs H2 => Q (v :: vs) H2 := by
  obtain ⟨G, F, S, st, w, r, p⟩ := h
  unfold aCons at p
  refine step_u w r (fun u st1 e1 v H1 G1 S1 S2 x1 w1 d1 r1 a1 => ?_) (fun x st1 e1 => ?_) (fun e1 => ?_)
  · rw [e1] at p
    refine ⟨G1, _, S1, st1, w1.lend d1, r1, ?_⟩
    have p1 : PostA K Wx G F H σ Q ((g st1).bind fun us st => .ok (u :: us) st) := p
    cases e2 : g st1 with
    | ok us st2 =>
      rw [e2] at p1
      intro vs H2 G2 S3 S4 x2 w2 d2 r2 a2
      refine p1 (v :: vs) H2 G2 S3 (fun a => S2 a ∨ S4 a) (x1.trans (x2.less fun _ z => .inl z)) ?_ ?_ r2 ⟨v, vs, S2, S4, rfl, a1.keep x2.sub fun a q => x2.keep a (q.imp id .inr), a2, fun _ z => .inl z, fun _ z => .inr z, fun a z1 z2 => w2.fs a (.inr z1) (.inr z2)⟩
      · have w3 := w2.back fun a z1 z2 => w1.fs a z1 (.inr z2)
        exact w3.less (fun _ z => z) fun a z => z.elim (fun q => .inl (.inl q)) fun q => q.elim .inr fun q => .inl (.inr q)
      · exact fun a z1 z2 => z2.elim (fun q => w2.fs a (.inr q) (.inl z1)) (d2 a z1)
    | ex x st2 =>
      rw [e2] at p1
      intro cls d H2 G2 S3 x2 w2 r2 q2
      exact p1 cls d H2 G2 S3 (x1.trans (x2.less fun _ z => .inl z)) (w2.less (fun _ z => .inl z) fun _ z => z) r2 q2
    | no =>
      rw [e2] at p1
      exact p1
  · rw [e1] at p
    exact p
  · rw [e1] at p
    exact p
theorem nil_core {K : PySem.W.Frag} {Wx : WX} {σ : St} {H : Hp} {Q : List V → Hp → Prop} (h : RdA K Wx aNil σ H Q) : Q [] H := by
  obtain ⟨G, F, S, st, w, r, p⟩ := h
  exact p [] H G S NoA Ext.refl (w.less (fun _ z => z) fun _ z => z.elim id fun z => z.elim) (fun _ _ z => z.elim) r rfl
theorem RdU.imp {K : PySem.W.Frag} {Wx : WX} {f : SU} {σ : St} {H : Hp} {Q Q' : VK} (h : RdU K Wx f σ H Q) (i : ∀ v H', Q v H' → Q' v H') : RdU K Wx f σ H Q' := by
  obtain ⟨G, F, S, st, w, r, p⟩ := h
  refine ⟨G, F, S, st, w, r, ?_⟩
  cases e : f st with
  | ok u st1 =>
    rw [e] at p
    intro v H1 G1 S1 S2 x1 w1 d1 r1 a1
    exact i _ _ (p v H1 G1 S1 S2 x1 w1 d1 r1 a1)
  | ex x st1 => rw [e] at p; exact p
  | no => rw [e] at p; exact p
theorem one_core {K : PySem.W.Frag} {Wx : WX} {f : SU} {σ : St} {H : Hp} {Q : List V → Hp → Prop} (h : RdA K Wx (aCons f aNil) σ H Q) : RdU K Wx f σ H fun v H1 => Q [v] H1 := (cons_core h).imp fun _ _ q => nil_core q
theorem two_core {K : PySem.W.Frag} {Wx : WX} {f g : SU} {σ : St} {H : Hp} {Q : List V → Hp → Prop} (h : RdA K Wx (aCons f (aCons g aNil)) σ H Q) : RdU K Wx f σ H fun v H1 => RdU K Wx g σ H1 fun u H2 => Q [v, u] H2 := (cons_core h).imp fun _ _ q => one_core q
theorem three_core {K : PySem.W.Frag} {Wx : WX} {f g k : SU} {σ : St} {H : Hp} {Q : List V → Hp → Prop} (h : RdA K Wx (aCons f (aCons g (aCons k aNil))) σ H Q) : RdU K Wx f σ H fun v H1 => RdU K Wx g σ H1 fun u H2 => RdU K Wx k σ H2 fun z H3 => Q [v, u, z] H3 := (cons_core h).imp fun _ _ q => two_core q
theorem sim_cons {X : Cx} {e : Expr} {es : List Expr} {f : SU} {g : SA} (h1 : SimU X e f) (h2 : SimA X es g) (hs : starEach (e :: es) X.env = (false, eval e X.env) :: starEach es X.env := by rfl) : SimA X (e :: es) (aCons f g) := fun Wx tk =>
  PA.imp (pa_cons (h1 Wx tk) (h2 Wx tk) hs) fun σ H Q h => cons_core h

/-! ### operations on trees -/
def AV.get (st : SL) : AV → Option T
  | .v t => some t
  | .s i => (st[i]?).join
def getL (st : SL) : List AV → Option (List T)
  | [] => some []
  | u :: us => match u.get st, getL st us with
    | some t, some ts => some (t :: ts)
    | _, _ => none
/-- operands, wherever they lie -/
def OpsR (K : PySem.W.Frag) (G : AS) (H : Hp) (S : AS) : List T → List V → Prop
  | [], vs => vs = []
  | t :: ts, vs => ∃ v vr S1, vs = v :: vr ∧ (∀ a, S1 a → S a) ∧ Rp K G H t v S1 ∧ OpsR K G H S ts vr
theorem OpsR.mono {K : PySem.W.Frag} {G : AS} {H : Hp} {S S' : AS} (e : ∀ a, S a → S' a) : ∀ {ts : List T} {vs : List V}, OpsR K G H S ts vs → OpsR K G H S' ts vs
  | [], _, h => h
  | _ :: _, _, ⟨v, vr, S1, h1, h2, h3, h4⟩ => ⟨v, vr, S1, h1, fun a q => e a (h2 a q), h3, OpsR.mono e h4⟩
theorem join_some {st : SL} {i : Nat} {t : T} (h : (st[i]?).join = some t) : st[i]? = some (some t) := by
  cases e : st[i]? with
  | none => rw [e] at h; cases h
  | some o => rw [e] at h; rw [show o = some t from h]
theorem ops_of {K : PySem.W.Frag} {G : AS} {H : Hp} {σ : St} {st : SL} {S1 : AS} (r : StR K G H st σ S1) : ∀ {us : List AV} {vs : List V} {ts : List T} {S2 : AS}, AvsR K G H σ us vs S2 → getL st us = some ts → OpsR K G H (fun a => S1 a ∨ S2 a) ts vs
  | [], _, _, _, h, e => by cases e; exact h
  | u :: us, _, ts, S2, ⟨v, vr, A, B, h1, h2, h3, h4, h5, h6⟩, e => by
    unfold getL at e
    cases e1 : u.get st with
    | none => rw [e1] at e; cases e
    | some t =>
      cases e2 : getL st us with
      | none => rw [e1, e2] at e; cases e
      | some tr =>
        rw [e1, e2] at e
        cases e
        have q := OpsR.mono (S' := fun a => S1 a ∨ S2 a) (fun a z => z.imp id (h5 a)) (ops_of r h3 e2)
        cases u with
        | v t' =>
          cases e1
          exact ⟨v, vr, A, h1, fun a z => .inr (h4 a z), h2, q⟩
        | s i =>
          obtain ⟨v', C, D, k1, k2, k3, _⟩ := r.get (join_some e1)
          have k4 : σ[i]? = some (some v) := h2
          rw [k4] at k1
          cases k1
          exact ⟨v, vr, C, h1, fun a z => .inl (k3 a z), k2, q⟩
/-- what an operation makes anew -/
structure New (G : AS) (H : Hp) (G' Sn : AS) (H' : Hp) : Prop where
  sub : ∀ a, G a → G' a
  gn : ∀ a, G' a → G a ∨ H a = none
  sn : ∀ a, Sn a → H a = none
  gs : ∀ a, G' a → Sn a → False
  keep : ∀ a, H a ≠ none → H' a = H a
  dG : ∀ a, G' a → H' a ≠ none
  dS : ∀ a, Sn a → H' a ≠ none
theorem New.same {G F S : AS} {H : Hp} (w : Wd G F S H) : New G H G NoA H := ⟨fun _ h => h, fun _ h => .inl h, fun _ h => h.elim, fun _ _ h => h.elim, fun _ _ => rfl, w.dG, fun _ h => h.elim⟩
theorem New.own {G F S : AS} {H : Hp} (w : Wd G F S H) {p : Addr} {o : HO} (np : H p = none) : New G H G (fun a => a = p) (upd H p o) :=
  ⟨fun _ h => h, fun _ h => .inl h, fun a h => by rw [h]; exact np, fun a h1 h2 => by subst h2; exact w.dG a h1 np, fun a h => upd_ne fun e => h (by rw [e]; exact np), fun a h => by
    by_cases e : a = p
    · rw [e, upd_same]; exact Option.some_ne_none _
    · rw [upd_ne e]; exact w.dG a h, fun a h => by rw [h, upd_same]; exact Option.some_ne_none _⟩
theorem New.cold {G F S : AS} {H : Hp} (w : Wd G F S H) {p : Addr} {o : HO} (np : H p = none) : New G H (fun a => G a ∨ a = p) NoA (upd H p o) :=
  ⟨fun _ h => .inl h, fun a h => h.imp id fun e => by rw [e]; exact np, fun _ h => h.elim, fun _ _ h => h.elim, fun a h => upd_ne fun e => h (by rw [e]; exact np), fun a h => by
    by_cases e : a = p
    · rw [e, upd_same]; exact Option.some_ne_none _
    · rw [upd_ne e]; exact w.dG a (h.resolve_right e), fun _ h => h.elim⟩
theorem New.ext {G F S : AS} {H : Hp} {G' Sn : AS} {H' : Hp} (n : New G H G' Sn H') (w : Wd G F S H) : Ext G F H G' H' := ⟨n.sub, fun a h => n.keep a (h.elim (w.dG a) (w.dF a))⟩
theorem New.wd {G F S : AS} {H : Hp} {G' Sn : AS} {H' : Hp} (n : New G H G' Sn H') (w : Wd G F S H) : Wd G' F (fun a => S a ∨ Sn a) H' :=
  ⟨fun a g f => (n.gn a g).elim (fun q => w.gf a q f) fun q => w.dF a f q, fun a g s => s.elim (fun q => (n.gn a g).elim (fun z => w.gs a z q) fun z => w.dS a q z) (n.gs a g),
   fun a f s => s.elim (w.fs a f) fun q => w.dF a f (n.sn a q), n.dG, fun a f => by rw [n.keep a (w.dF a f)]; exact w.dF a f, fun a s => s.elim (fun q => by rw [n.keep a (w.dS a q)]; exact w.dS a q) (n.dS a)⟩
theorem New.apart {G F S : AS} {H : Hp} {G' Sn : AS} {H' : Hp} (n : New G H G' Sn H') (w : Wd G F S H) : ∀ a, S a → Sn a → False := fun a s q => w.dS a s (n.sn a q)
theorem New.str {K : PySem.W.Frag} {G F S : AS} {H : Hp} {G' Sn : AS} {H' : Hp} {st : SL} {σ : St} {S1 : AS} (n : New G H G' Sn H') (w : Wd G F S H) (r : StR K G H st σ S1) (s : ∀ a, S1 a → S a) : StR K G' H' st σ S1 :=
  r.keep n.sub fun a h => n.keep a (h.elim (w.dG a) fun q => w.dS a (s a q))
/-- an operation on values computes p on trees -/
def Pr (K : PySem.W.Frag) (r : List V → Hp → VK → Prop) (p : List T → Option T) : Prop :=
  ∀ (G F S : AS) (H : Hp) (ts : List T) (vs : List V) (t : T) (Q : VK), Wd G F S H → OpsR K G H S ts vs → p ts = some t → (∀ v G' Sn H', New G H G' Sn H' → Rp K G' H' t v Sn → Q v H') → r vs H Q
def eP (p : List T → Option T) (f : SA) : SE := fun st => (f st).bind fun us st => match getL st us with
  | some ts => match p ts with
    | some t => .ok t st
    | none => .no
  | none => .no
theorem prim_core {K : PySem.W.Frag} {Wx : WX} {r : List V → Hp → VK → Prop} {p : List T → Option T} {f : SA} {σ : St} {H : Hp} {Q : VK} (hp : Pr K r p) (h : RdU K Wx (uV (eP p f)) σ H Q) : RdA K Wx f σ H fun vs H1 => r vs H1 Q := by
  obtain ⟨G, F, S, st, w, rs, ps⟩ := h
  refine ⟨G, F, S, st, w, rs, ?_⟩
  unfold uV eP at ps
  cases e : f st with
  | ok us st1 =>
    rw [e] at ps
    intro vs H1 G1 S1 S2 x1 w1 d1 r1 a1
    have ps1 : PostU K Wx G F H σ Q (R.bind (match getL st1 us with
      | some ts => match p ts with
        | some t => .ok t st1
        | none => .no
      | none => .no) fun t st => .ok (.v t) st) := ps
    cases e2 : getL st1 us with
    | none => rw [e2] at ps1; exact ps1.elim
    | some ts =>
      rw [e2] at ps1
      cases e3 : p ts with
      | none =>
        have ps2 : PostU K Wx G F H σ Q (R.bind (match p ts with
          | some t => .ok t st1
          | none => .no) fun t st => .ok (.v t) st) := ps1
        rw [e3] at ps2
        exact ps2.elim
      | some t =>
        have ps2 : PostU K Wx G F H σ Q (R.bind (match p ts with
          | some t => .ok t st1
          | none => .no) fun t st => .ok (.v t) st) := ps1
        rw [e3] at ps2
        refine hp G1 F _ H1 ts vs t Q w1 (ops_of r1 a1 e2) e3 fun v G2 Sn H2 n rv => ?_
        refine ps2 v H2 G2 S1 Sn (x1.trans (n.ext w1)) ?_ ?_ ?_ rv
        · exact (n.wd w1).less (fun _ z => z) fun a z => z.imp .inl id
        · exact fun a z1 z2 => n.apart w1 a (.inl z1) z2
        · exact n.str w1 r1 fun _ z => .inl z
  | ex x st1 => rw [e] at ps; exact ps
  | no => rw [e] at ps; exact ps
def on1 (r : V → Hp → VK → Prop) : List V → Hp → VK → Prop := fun vs H Q => match vs with
  | [x] => r x H Q
  | _ => False
def on2 (r : R2) : List V → Hp → VK → Prop := fun vs H Q => match vs with
  | [x, y] => r x y H Q
  | _ => False
theorem sim_p1 {X : Cx} {e a : Expr} {r : V → Hp → VK → Prop} {f : SU} {p : List T → Option T} (hp : Pr X.K (on1 r) p) (h : SimU X a f) (he : ∀ ta, PE X a ta → PE X e (tUn r ta)) : SimE X e (eP p (aCons f aNil)) := fun Wx tk =>
  PE.imp (he _ (h Wx tk)) fun _ _ _ q => one_core (prim_core hp q)
theorem sim_p2 {X : Cx} {e a b : Expr} {r : R2} {f g : SU} {p : List T → Option T} (hp : Pr X.K (on2 r) p) (h1 : SimU X a f) (h2 : SimU X b g) (he : ∀ ta tb, PE X a ta → PE X b tb → PE X e (tOp r ta tb)) : SimE X e (eP p (aCons f (aCons g aNil))) := fun Wx tk =>
  PE.imp (he _ _ (h1 Wx tk) (h2 Wx tk)) fun _ _ _ q => two_core (prim_core hp q)
theorem sim_pn {X : Cx} {e : Expr} {es : List Expr} {r : List V → Hp → VK → Prop} {f : SA} {p : List T → Option T} (hp : Pr X.K r p) (h : SimA X es f) (he : ∀ t, PA X es t → PE X e (tCB r t)) : SimE X e (eP p f) := fun Wx tk =>
  PE.imp (he _ (h Wx tk)) fun _ _ _ q => prim_core hp q

/-! ### names and constants -/
/-- what stands in a slot; an owned tree is left there and named, a frozen one is handed on -/
def uVar (i : Nat) : SU := fun st => match (st[i]?).join with
  | some t => if frz t then .ok (.v t) st else .ok (.s i) st
  | none => .no
theorem sim_var (i : Nat) {X : Cx} {x : Str} {pos : Pos} (hN : X.N[i]? = some x := by rfl) (hv : Vis X.env.scope x := by first | exact Or.inl rfl | exact Or.inr (Or.inl rfl) | exact Or.inr (Or.inr rfl)) (hd : (x == ("__debug__" : Str)) = false := by decide)
    (hcd : (x == ("__classdict__" : Str)) = false := by decide) : SimU X (.Name x pos) (uVar i) := fun Wx _ => PE.imp (pe_var hN hv hd hcd) fun σ H Q ⟨G, F, S, st, w, r, p⟩ => by
  unfold uVar at p
  cases e : (st[i]?).join with
  | none => rw [e] at p; exact p.elim
  | some t =>
    rw [e] at p
    obtain ⟨v, S1, S2, h1, h2, h3, h4, h5, h6⟩ := r.get (join_some e)
    refine ⟨v, h1, ?_⟩
    by_cases f : frz t = true
    · have p1 : PostU X.K Wx G F H σ Q (if frz t = true then .ok (.v t) st else .ok (.s i) st) := p
      rw [if_pos f] at p1
      exact p1 v H G S NoA Ext.refl (w.less (fun _ z => z) fun _ z => z.elim id fun z => z.elim) (fun _ _ z => z.elim) r (Rp.cold t NoA f h2)
    · have p1 : PostU X.K Wx G F H σ Q (if frz t = true then .ok (.v t) st else .ok (.s i) st) := p
      rw [if_neg f] at p1
      exact p1 v H G S NoA Ext.refl (w.less (fun _ z => z) fun _ z => z.elim id fun z => z.elim) (fun _ _ z => z.elim) r h1
def eC (t : T) : SE := fun st => .ok t st
/-- a scalar's value -/
def scV : T → Option V
  | .non => some .non
  | .bl b => some (.bl b)
  | .int i => some (.int i)
  | .str s => some (.str s)
  | .ty n => some (.ty n)
  | _ => none
theorem rp_sc {K : PySem.W.Frag} {G : AS} {H : Hp} {t : T} {v : V} (S : AS) (h : scV t = some v) : Rp K G H t v S := by
  cases t <;> first | (cases h; exact rfl) | cases h
theorem sim_const {X : Cx} {e : Expr} {t : T} {v : V} (h : PE X e (tC v)) (hv : scV t = some v := by rfl) : SimE X e (eC t) := fun Wx _ => PE.imp h fun σ H Q ⟨G, F, S, st, w, r, p⟩ =>
  p v H G S NoA Ext.refl (w.less (fun _ z => z) fun _ z => z.elim id fun z => z.elim) (fun _ _ z => z.elim) r (rp_sc NoA hv)
theorem sim_int {X : Cx} {i j pos} : SimE X (.Constant (.int i) j pos) (eC (.int i)) := sim_const pe_int
theorem sim_bl {X : Cx} {b j pos} : SimE X (.Constant (.bool b) j pos) (eC (.bl b)) := sim_const pe_bl
theorem sim_non {X : Cx} {j pos} : SimE X (.Constant .none j pos) (eC .non) := sim_const pe_non
theorem sim_str {X : Cx} {x j pos} : SimE X (.Constant (.str x) j pos) (eC (.str x)) := sim_const pe_str
end
end Ev

/-! EvPrim: operations on values, as operations on trees. -/
namespace Ev
noncomputable section
open PySem L2

section
variable {K : PySem.W.Frag} {G G' F S : AS} {H H' : Hp}
theorem ops1 {t : T} {vs : List V} (h : OpsR K G H S [t] vs) : ∃ v S1, vs = [v] ∧ (∀ a, S1 a → S a) ∧ Rp K G H t v S1 := by
  obtain ⟨v, vr, S1, h1, h2, h3, h4⟩ := h
  subst h1
  rw [show vr = [] from h4]
  exact ⟨v, S1, rfl, h2, h3⟩
theorem ops2 {t u : T} {vs : List V} (h : OpsR K G H S [t, u] vs) : ∃ v w S1 S2, vs = [v, w] ∧ (∀ a, S1 a → S a) ∧ (∀ a, S2 a → S a) ∧ Rp K G H t v S1 ∧ Rp K G H u w S2 := by
  obtain ⟨v, vr, S1, h1, h2, h3, h4⟩ := h
  obtain ⟨w, S2, e, h5, h6⟩ := ops1 h4
  subst h1 e
  exact ⟨v, w, S1, S2, rfl, h2, h5, h3, h6⟩
/-- frozen trees, one by one -/
abbrev Cl (K : PySem.W.Frag) (G : AS) (H : Hp) (ts : List T) (vs : List V) : Prop := Paired (fun t v => Rp K G H t v NoA) ts vs
theorem cl_of : ∀ {ts : List T} {vs : List V} {S : AS}, frzL ts = true → RpL K G H ts vs S → Cl K G H ts vs
  | [], vs, _, _, h => by
    have e : vs = [] := h
    rw [e]
    exact .nil
  | t :: ts, vs, S, f, h => by
    obtain ⟨v, vr, S1, S2, h1, h2, h3, h4, h5, h6⟩ := h
    obtain ⟨f1, f2⟩ := Bool.and_eq_true_iff.mp (show (frz t && frzL ts) = true from f)
    subst h1
    exact .cons (Rp.cold t NoA f1 h2) (cl_of f2 h3)
theorem of_cl : ∀ {ts : List T} {vs : List V} {S : AS}, Cl K G H ts vs → RpL K G H ts vs S
  | _, _, _, .nil => rfl
  | _, _, _, .cons h t => ⟨_, _, NoA, NoA, rfl, h, of_cl t, fun _ z => z.elim, fun _ z => z.elim, fun _ z => z.elim⟩
theorem Cl.keep {ts : List T} {vs : List V} (h : Cl K G H ts vs) (g : ∀ a, G a → G' a) (e : ∀ a, G a → H' a = H a) : Cl K G' H' ts vs :=
  L2.Paired.mapP h fun t _ q => Rp.keep t q g fun a z => z.elim (e a) fun z => z.elim
theorem Cl.new {ts : List T} {vs : List V} {Sn : AS} (h : Cl K G H ts vs) (n : New G H G' Sn H') (w : Wd G F S H) : Cl K G' H' ts vs := h.keep n.sub fun a q => n.keep a (w.dG a q)
theorem pr_append {α β : Type} {R : α → β → Prop} : ∀ {a b : List α} {x y : List β}, Paired R a x → Paired R b y → Paired R (a ++ b) (x ++ y)
  | _, _, _, _, .nil, h => h
  | _, _, _, _, .cons q t, h => .cons q (pr_append t h)
theorem pr_drop {α β : Type} {R : α → β → Prop} : ∀ (n : Nat) {a : List α} {x : List β}, Paired R a x → Paired R (a.drop n) (x.drop n)
  | 0, _, _, h => h
  | n + 1, _, _, .nil => .nil
  | n + 1, _, _, .cons _ t => pr_drop n t
theorem pr_take {α β : Type} {R : α → β → Prop} : ∀ (n : Nat) {a : List α} {x : List β}, Paired R a x → Paired R (a.take n) (x.take n)
  | 0, _, _, _ => .nil
  | n + 1, _, _, .nil => .nil
  | n + 1, _, _, .cons q t => .cons q (pr_take n t)
theorem pr_get {α β : Type} {R : α → β → Prop} : ∀ {a : List α} {x : List β}, Paired R a x → ∀ {i : Nat} {q : α}, a[i]? = some q → ∃ z, x[i]? = some z ∧ R q z
  | _, _, .nil, _, _, h => by simp at h
  | _, _, .cons q _, 0, _, h => by simp at h; subst h; exact ⟨_, rfl, q⟩
  | _, _, .cons _ t, i + 1, _, h => by
    obtain ⟨z, h1, h2⟩ := pr_get t (i := i) (by simpa using h)
    exact ⟨z, by simpa using h1, h2⟩
theorem pr_set {α β : Type} {R : α → β → Prop} : ∀ {a : List α} {x : List β} (i : Nat) {q : α} {z : β}, Paired R a x → R q z → Paired R (a.set i q) (x.set i z)
  | _, _, _, _, _, .nil, _ => .nil
  | _, _, 0, _, _, .cons _ t, r => .cons r t
  | _, _, i + 1, _, _, .cons q t, r => .cons q (pr_set i t r)
theorem pr_rep {α β : Type} {R : α → β → Prop} {a : List α} {x : List β} (h : Paired R a x) : ∀ k : Nat, Paired R (List.replicate k a).flatten (List.replicate k x).flatten
  | 0 => .nil
  | k + 1 => by
    rw [List.replicate_succ, List.replicate_succ, List.flatten_cons, List.flatten_cons]
    exact pr_append h (pr_rep h k)
theorem pr_rev {α β : Type} {R : α → β → Prop} : ∀ {a : List α} {x : List β}, Paired R a x → Paired R a.reverse x.reverse
  | _, _, .nil => .nil
  | _, _, .cons q t => by
    rw [List.reverse_cons, List.reverse_cons]
    exact pr_append (pr_rev t) (.cons q .nil)
theorem frzL_append : ∀ a b : List T, frzL (a ++ b) = (frzL a && frzL b)
  | [], b => rfl
  | t :: a, b => by
    show (frz t && frzL (a ++ b)) = ((frz t && frzL a) && frzL b)
    rw [frzL_append a b, Bool.and_assoc]
theorem frzL_get : ∀ {a : List T} {i : Nat} {t : T}, frzL a = true → a[i]? = some t → frz t = true
  | [], _, _, _, h => by simp at h
  | x :: a, 0, _, f, h => by simp at h; subst h; exact (Bool.and_eq_true_iff.mp (show (frz x && frzL a) = true from f)).1
  | x :: a, i + 1, t, f, h => frzL_get (a := a) (i := i) (Bool.and_eq_true_iff.mp (show (frz x && frzL a) = true from f)).2 (by simpa using h)
end

/-! ### a new list, a new tuple -/
section
variable {K : PySem.W.Frag} {G F S : AS} {H : Hp}
/-- a new list of frozen items -/
theorem new_lst {ts : List T} {vs : List V} {Q : VK} (w : Wd G F S H) (c : Cl K G H ts vs) (k : ∀ v G' Sn H', New G H G' Sn H' → Rp K G' H' (.lst true ts) v Sn → Q v H') : ∀ p, H p = none → Q (.ref p) (upd H p (.lst vs)) := fun p np =>
  k _ _ _ _ (New.own w np) ⟨p, vs, rfl, rfl, upd_same, of_cl (c.new (New.own (o := .lst vs) w np) w)⟩
theorem new_tup {ts : List T} {vs : List V} {Q : VK} (w : Wd G F S H) (c : Cl K G H ts vs) (k : ∀ v G' Sn H', New G H G' Sn H' → Rp K G' H' (.tup ts) v Sn → Q v H') : ∀ p, H p = none → Q (.ref p) (upd H p (.tup vs)) := fun p np =>
  k _ _ _ _ (New.cold w np) ⟨p, vs, rfl, .inl ⟨.inr rfl, upd_same⟩, of_cl (c.new (New.cold (o := .tup vs) w np) w)⟩
/-- no more than there was -/
theorem old {t : T} {v : V} {Q : VK} (w : Wd G F S H) (r : Rp K G H t v NoA) (k : ∀ v G' Sn H', New G H G' Sn H' → Rp K G' H' t v Sn → Q v H') : Q v H := k v G NoA H (New.same w) r
end

/-! ### ints -/
def pI (c : Int → Int → Bool) (g : Int → Int → Int) : List T → Option T
  | [.int a, .int b] => if c a b then some (.int (g a b)) else none
  | _ => none
def pB (g : Int → Int → Bool) : List T → Option T
  | [.int a, .int b] => some (.bl (g a b))
  | _ => none
section
variable {K : PySem.W.Frag}
theorem pr_I {C : Int → Int → Prop} {c : Int → Int → Bool} {g : Int → Int → Int} (h : ∀ i j, c i j = true → C i j) : Pr K (on2 (rI C fun i j => .int (g i j))) (pI c g) := fun G F S H ts vs t Q w o e k => by
  unfold pI at e
  split at e
  · rename_i a b
    split at e
    · rename_i hc
      cases e
      obtain ⟨v, u, S1, S2, rfl, _, _, r1, r2⟩ := ops2 o
      cases (show v = .int a from r1)
      cases (show u = .int b from r2)
      exact ⟨a, b, rfl, rfl, h a b hc, old w (t := .int (g a b)) rfl k⟩
    · cases e
  · cases e
theorem pr_B {g : Int → Int → Bool} : Pr K (on2 (rI0 fun i j => .bl (g i j))) (pB g) := fun G F S H ts vs t Q w o e k => by
  unfold pB at e
  split at e
  · rename_i a b
    cases e
    obtain ⟨v, u, S1, S2, rfl, _, _, r1, r2⟩ := ops2 o
    cases (show v = .int a from r1)
    cases (show u = .int b from r2)
    exact ⟨a, b, rfl, rfl, old w (t := .bl (g a b)) rfl k⟩
  · cases e
end
/-- the sum of the bits of two factors is no bar -/
def mulOk (i j : Int) : Bool := decide (Builtin.Int.intBits i + Builtin.Int.intBits j ≤ 134217728)
theorem mulOk_of {i j : Int} {a b : Nat} (ha : i.natAbs < 2 ^ a) (hb : j.natAbs < 2 ^ b) (h : a + b ≤ 134217728) : mulOk i j = true := by
  have x := PyProof.Rows.intBits_le ha
  have y := PyProof.Rows.intBits_le hb
  exact decide_eq_true (by omega)
def divOk (_ j : Int) : Bool := decide (0 < j) && decide (j.natAbs.log2 < 9000)
theorem divOk_of {i j : Int} {b : Nat} (h : 0 < j) (hb : j.natAbs < 2 ^ b) (h0 : 0 < b) (h9 : b ≤ 9000) : divOk i j = true := by
  obtain ⟨h1, h2⟩ := wide_div (i := i) h hb h0 h9
  exact Bool.and_eq_true_iff.mpr ⟨decide_eq_true h1, decide_eq_true h2⟩
def powOk (i j : Int) : Bool := decide (0 ≤ j) && decide (j ≤ 1000000) && decide (i.natAbs < 2 ^ 64)
def pMulI : List T → Option T := pI mulOk fun i j => i * j
def pDiv : List T → Option T := pI divOk fun i j => i / j
def pMod : List T → Option T := pI (fun _ j => decide (0 < j)) fun i j => i % j
def pPow : List T → Option T := pI powOk fun i j => i ^ j.toNat
def pSub : List T → Option T := pI (fun _ _ => true) fun i j => i - j
def pLe : List T → Option T := pB fun i j => decide (i ≤ j)
def pGt : List T → Option T := pB fun i j => decide (j < i)
def pGe : List T → Option T := pB fun i j => decide (j ≤ i)
def pLtI : List T → Option T := pB fun i j => decide (i < j)
def pNeg : List T → Option T
  | [.int a] => some (.int (-a))
  | _ => none

section
variable {X : Cx} {a b : Expr} {f g : SU} {pos : Pos}
theorem sim_sub (h1 : SimU X a f) (h2 : SimU X b g) : SimE X (.BinOp a .Sub b pos) (eP pSub (aCons f (aCons g aNil))) :=
  sim_p2 (r := rI (fun _ _ => True) fun i j => .int (i - j)) (pr_I fun _ _ _ => trivial) h1 h2 fun _ _ p q => pe_op (opI fun _ _ _ _ _ _ _ _ q => PyProof.Rows.sub_int q) p q
theorem sim_div (h1 : SimU X a f) (h2 : SimU X b g) : SimE X (.BinOp a .FloorDiv b pos) (eP pDiv (aCons f (aCons g aNil))) :=
  sim_p2 (pr_I fun i j h => by
    obtain ⟨x, y⟩ := Bool.and_eq_true_iff.mp h
    exact ⟨of_decide_eq_true x, of_decide_eq_true y⟩) h1 h2 fun _ _ p q => pe_op op_fdivW p q
theorem sim_mod (h1 : SimU X a f) (h2 : SimU X b g) : SimE X (.BinOp a .Mod b pos) (eP pMod (aCons f (aCons g aNil))) :=
  sim_p2 (pr_I fun i j h => of_decide_eq_true h) h1 h2 fun _ _ p q => pe_op op_mod p q
theorem sim_pow (h1 : SimU X a f) (h2 : SimU X b g) : SimE X (.BinOp a .Pow b pos) (eP pPow (aCons f (aCons g aNil))) :=
  sim_p2 (pr_I fun i j h => by
    obtain ⟨x, z⟩ := Bool.and_eq_true_iff.mp h
    obtain ⟨x, y⟩ := Bool.and_eq_true_iff.mp x
    exact ⟨of_decide_eq_true x, of_decide_eq_true y, of_decide_eq_true z⟩) h1 h2 fun _ _ p q => pe_op op_pow p q
theorem pr_neg {K : PySem.W.Frag} : Pr K (on1 (rU fun i => .int (-i))) pNeg := fun G F S H ts vs t Q w o e k => by
  unfold pNeg at e
  split at e
  · rename_i a
    cases e
    obtain ⟨v, S1, rfl, _, r1⟩ := ops1 o
    cases (show v = .int a from r1)
    exact ⟨a, rfl, old w (t := .int (-a)) rfl k⟩
  · cases e
theorem sim_neg (h1 : SimU X a f) : SimE X (.UnaryOp .USub a pos) (eP pNeg (aCons f aNil)) := sim_p1 pr_neg h1 fun _ p => pe_un un_neg p

/-! ### + and * -/
def pAdd : List T → Option T
  | [.int a, .int b] => some (.int (a + b))
  | [.str a, .str b] => if decide (a.length + b.length ≤ sizeLine) then some (.str (a ++ b)) else none
  | [.lst _ a, .lst _ b] => if frzL a && (frzL b && decide (a.length + b.length ≤ sizeLine)) then some (.lst true (a ++ b)) else none
  | [.tup a, .tup b] => if frzL a && (frzL b && decide (a.length + b.length ≤ sizeLine)) then some (.tup (a ++ b)) else none
  | _ => none
def rAddA (K : PySem.W.Frag) : R2 := fun x y H Q => (rI0 (fun i j => .int (i + j)) x y H Q ∨ ∃ i j, x = .str i ∧ y = .str j ∧ i.length + j.length ≤ sizeLine ∧ Q (.str (i ++ j)) H) ∨ (rCat x y H Q ∨ rCatA K x y H Q)
theorem op_addA : OpR X (binaryOp .Add) (rAddA X.K) := OpR.or (OpR.or op_add op_add_str) (OpR.or op_cat op_catA)
theorem lst_at {K : PySem.W.Frag} {G : AS} {H : Hp} {o : Bool} {ts : List T} {v : V} {S : AS} (r : Rp K G H (.lst o ts) v S) : ∃ p vs, v = .ref p ∧ H p = some (.lst vs) ∧ RpL K G H ts vs S := by
  cases o with
  | false =>
    obtain ⟨p, vs, h1, h2, h3⟩ := r
    exact ⟨p, vs, h1, h2.2, h3⟩
  | true =>
    obtain ⟨p, vs, h1, h2, h3, h4⟩ := r
    exact ⟨p, vs, h1, h3, RpL.mono ts h4 fun _ z => z.1⟩
theorem rpl_len {K : PySem.W.Frag} {G : AS} {H : Hp} : ∀ {ts : List T} {vs : List V} {S : AS}, RpL K G H ts vs S → ts.length = vs.length
  | [], vs, _, h => by rw [show vs = [] from h]; rfl
  | t :: ts, vs, S, ⟨v, vr, S1, S2, h1, h2, h3, _⟩ => by rw [h1, List.length_cons, List.length_cons, rpl_len h3]
theorem pr_add {K : PySem.W.Frag} : Pr K (on2 (rAddA K)) pAdd := fun G F S H ts vs t Q w o e k => by
  unfold pAdd at e
  split at e
  · rename_i a b
    cases e
    obtain ⟨v, u, S1, S2, rfl, _, _, r1, r2⟩ := ops2 o
    cases (show v = .int a from r1)
    cases (show u = .int b from r2)
    exact .inl (.inl ⟨a, b, rfl, rfl, old w (t := .int (a + b)) rfl k⟩)
  · rename_i a b
    split at e
    · rename_i hc
      cases e
      obtain ⟨v, u, S1, S2, rfl, _, _, r1, r2⟩ := ops2 o
      cases (show v = .str a from r1)
      cases (show u = .str b from r2)
      exact .inl (.inr ⟨a, b, rfl, rfl, of_decide_eq_true hc, old w (t := .str (a ++ b)) rfl k⟩)
    · cases e
  · rename_i oa a ob b
    split at e
    · rename_i hc
      cases e
      obtain ⟨f1, hc⟩ := Bool.and_eq_true_iff.mp hc
      obtain ⟨f2, hc⟩ := Bool.and_eq_true_iff.mp hc
      obtain ⟨v, u, S1, S2, rfl, _, _, r1, r2⟩ := ops2 o
      obtain ⟨p, xs, rfl, hp, q1⟩ := lst_at r1
      obtain ⟨q, ys, rfl, hq, q2⟩ := lst_at r2
      have hl : xs.length + ys.length ≤ sizeLine := by rw [← rpl_len q1, ← rpl_len q2]; exact of_decide_eq_true hc
      exact .inr (.inl ⟨p, q, xs, ys, rfl, rfl, hp, hq, hl, new_lst w (pr_append (cl_of f1 q1) (cl_of f2 q2)) k⟩)
    · cases e
  · rename_i a b
    split at e
    · rename_i hc
      cases e
      obtain ⟨f1, hc⟩ := Bool.and_eq_true_iff.mp hc
      obtain ⟨f2, hc⟩ := Bool.and_eq_true_iff.mp hc
      obtain ⟨v, u, S1, S2, rfl, _, _, r1, r2⟩ := ops2 o
      obtain ⟨p, xs, rfl, hp, q1⟩ := r1
      obtain ⟨q, ys, rfl, hq, q2⟩ := r2
      have hl : xs.length + ys.length ≤ sizeLine := by rw [← rpl_len q1, ← rpl_len q2]; exact of_decide_eq_true hc
      refine .inr (.inr ⟨p, q, xs, ys, rfl, rfl, hp.seq, hq.seq, hl, fun z => ?_, fun _ z => ?_, fun _ _ => new_tup w (pr_append (cl_of f1 q1) (cl_of f2 q2)) k⟩)
      · subst z
        cases a with
        | nil => exact old w (t := .tup b) ⟨q, ys, rfl, hq, RpL.cold b NoA f2 q2⟩ k
        | cons a0 ar => exact absurd (rpl_len q1) (by simp)
      · subst z
        cases b with
        | nil =>
          rw [List.append_nil] at k
          exact old w (t := .tup a) ⟨p, xs, rfl, hp, RpL.cold a NoA f1 q1⟩ k
        | cons a0 ar => exact absurd (rpl_len q2) (by simp)
    · cases e
  · cases e
theorem sim_add (h1 : SimU X a f) (h2 : SimU X b g) : SimE X (.BinOp a .Add b pos) (eP pAdd (aCons f (aCons g aNil))) := sim_p2 pr_add h1 h2 fun _ _ p q => pe_op op_addA p q
def pMul : List T → Option T
  | [.int a, .int b] => if mulOk a b then some (.int (a * b)) else none
  | [.lst _ a, .int k] => if frzL a && (leC (-(2 ^ 63)) k && (ltC k (2 ^ 63) && decide (a.length * k.toNat ≤ sizeLine))) then some (.lst true (List.replicate k.toNat a).flatten) else none
  | _ => none
def rMulA : R2 := fun x y H Q => rI CMulX (fun i j => .int (i * j)) x y H Q ∨ rRep x y H Q
theorem op_mulA : OpR X (binaryOp .Mult) rMulA := OpR.or op_mulX op_rep
theorem pr_mul {K : PySem.W.Frag} : Pr K (on2 rMulA) pMul := fun G F S H ts vs t Q w o e k => by
  unfold pMul at e
  split at e
  · rename_i a b
    split at e
    · rename_i hc
      cases e
      obtain ⟨v, u, S1, S2, rfl, _, _, r1, r2⟩ := ops2 o
      cases (show v = .int a from r1)
      cases (show u = .int b from r2)
      have hm := of_decide_eq_true hc
      exact .inl ⟨a, b, rfl, rfl, by unfold CMulX; omega, old w (t := .int (a * b)) rfl k⟩
    · cases e
  · rename_i oa a j
    split at e
    · rename_i hc
      cases e
      obtain ⟨f1, hc⟩ := Bool.and_eq_true_iff.mp hc
      obtain ⟨b1, hc⟩ := Bool.and_eq_true_iff.mp hc
      obtain ⟨b2, hc⟩ := Bool.and_eq_true_iff.mp hc
      obtain ⟨v, u, S1, S2, rfl, _, _, r1, r2⟩ := ops2 o
      obtain ⟨p, xs, rfl, hp, q1⟩ := lst_at r1
      cases (show u = .int j from r2)
      have hl : xs.length * j.toNat ≤ sizeLine := by rw [← rpl_len q1]; exact of_decide_eq_true hc
      exact .inr ⟨p, j, xs, rfl, rfl, hp, of_leC b1, of_ltC b2, hl, new_lst w (pr_rep (cl_of f1 q1) _) k⟩
    · cases e
  · cases e
theorem sim_mul (h1 : SimU X a f) (h2 : SimU X b g) : SimE X (.BinOp a .Mult b pos) (eP pMul (aCons f (aCons g aNil))) := sim_p2 pr_mul h1 h2 fun _ _ p q => pe_op op_mulA p q

/-! ### comparisons -/
theorem sim_cmp {op : CmpOp} {r : R2} {p : List T → Option T} (ho : OpR X (compareOp op) r) (hp : Pr X.K (on2 r) p) (h1 : SimU X a f) (h2 : SimU X b g) (hm : behindInMarks op b = false) : SimE X (.Compare a [op] [b] pos) (eP p (aCons f (aCons g aNil))) :=
  sim_p2 hp h1 h2 fun _ _ p q => pe_cmpR ho p q hm
theorem sim_le (h1 : SimU X a f) (h2 : SimU X b g) : SimE X (.Compare a [.LtE] [b] pos) (eP pLe (aCons f (aCons g aNil))) := sim_cmp op_le pr_B h1 h2 (nomark _)
theorem sim_gt (h1 : SimU X a f) (h2 : SimU X b g) : SimE X (.Compare a [.Gt] [b] pos) (eP pGt (aCons f (aCons g aNil))) := sim_cmp op_gt pr_B h1 h2 (nomark _)
theorem sim_ge (h1 : SimU X a f) (h2 : SimU X b g) : SimE X (.Compare a [.GtE] [b] pos) (eP pGe (aCons f (aCons g aNil))) := sim_cmp op_ge pr_B h1 h2 (nomark _)
/-- the data that a tree is -/
def pd : T → Option PyData
  | .non => some .none
  | .bl b => some (.bool b)
  | .int i => some (.int i)
  | .str s => some (.str s)
  | .tup ts => match pdL ts with
    | some ds => some (.tuple ds)
    | none => none
  | .lst _ ts => match pdL ts with
    | some ds => some (.list ds)
    | none => none
  | .scr ns => some (.list (ns.map .int))
  | _ => none
where pdL : List T → Option (List PyData)
  | [] => some []
  | t :: ts => match pd t, pdL ts with
    | some d, some ds => some (d :: ds)
    | _, _ => none
abbrev pdL := pd.pdL
section
variable {K : PySem.W.Frag} {G : AS} {H : Hp}
theorem dp_ints : ∀ ns : List Int, DpAll K H (ns.map V.int) (ns.map PyData.int)
  | [] => .nil
  | n :: ns => .cons (.int n) (dp_ints ns)
mutual
theorem dp_of : ∀ (t : T) {v : V} {S : AS} {d : PyData}, Rp K G H t v S → pd t = some d → Dp K H v d
  | .non, _, _, _, r, e => by cases e; rw [show _ = V.non from r]; exact .non
  | .bl b, _, _, _, r, e => by cases e; rw [show _ = V.bl b from r]; exact .bl b
  | .int b, _, _, _, r, e => by cases e; rw [show _ = V.int b from r]; exact .int b
  | .str b, _, _, _, r, e => by cases e; rw [show _ = V.str b from r]; exact .str b
  | .ty _, _, _, _, _, e => by cases e
  | .cls _, _, _, _, _, e => by cases e
  | .scr ns, _, _, _, ⟨a, h1, h2⟩, e => by
    cases e
    rw [h1]
    exact .lst h2.seq (dp_ints ns)
  | .tup ts, _, _, d, ⟨a, vs, h1, h2, h3⟩, e => by
    have e' : (match pdL ts with
      | some ds => some (.tuple ds)
      | none => none) = some d := e
    cases q : pdL ts with
    | none => rw [q] at e'; cases e'
    | some ds =>
      rw [q] at e'
      cases e'
      rw [h1]
      exact .tup h2.seq (dp_ofL ts h3 q)
  | .lst o ts, _, _, d, h, e => by
    obtain ⟨a, vs, h1, h2, h3⟩ := lst_at h
    have e' : (match pdL ts with
      | some ds => some (.list ds)
      | none => none) = some d := e
    cases q : pdL ts with
    | none => rw [q] at e'; cases e'
    | some ds =>
      rw [q] at e'
      cases e'
      rw [h1]
      exact .lst (.of h2) (dp_ofL ts h3 q)
  | .obj _ _ _, _, _, _, _, e => by cases e
  | .dic _ _ _, _, _, _, _, e => by cases e
  | .dit _ _ _, _, _, _, _, e => by cases e
theorem dp_ofL : ∀ (ts : List T) {vs : List V} {S : AS} {ds : List PyData}, RpL K G H ts vs S → pdL ts = some ds → DpAll K H vs ds
  | [], vs, _, ds, h, e => by
    rw [show vs = [] from h]
    cases e
    exact .nil
  | t :: ts, vs, _, ds, ⟨v, vr, S1, S2, h1, h2, h3, _⟩, e => by
    have e' : (match pd t, pdL ts with
      | some d, some ds => some (d :: ds)
      | _, _ => none) = some ds := e
    cases q1 : pd t with
    | none => rw [q1] at e'; cases e'
    | some d =>
      cases q2 : pdL ts with
      | none => rw [q1, q2] at e'; cases e'
      | some dr =>
        rw [q1, q2] at e'
        cases e'
        rw [h1]
        exact .cons (dp_of t h2 q1) (dp_ofL ts h3 q2)
end
end
/-- == of data -/
def eqT (a b : T) : Option Bool := match pd a, pd b with
  | some d, some e => if SeqAt.shaped d && SeqAt.shaped e then some (PyData.eqv d e) else none
  | _, _ => none
def pEq : List T → Option T
  | [a, b] => match eqT a b with
    | some k => some (.bl k)
    | none => none
  | _ => none
def pNe : List T → Option T
  | [a, b] => match eqT a b with
    | some k => some (.bl (!k))
    | none => none
  | _ => none
theorem eqT_some {a b : T} {k : Bool} (h : eqT a b = some k) : ∃ d e, pd a = some d ∧ pd b = some e ∧ SeqAt.shaped d = true ∧ SeqAt.shaped e = true ∧ k = PyData.eqv d e := by
  unfold eqT at h
  split at h
  · rename_i d e h1 h2
    split at h
    · rename_i hc
      obtain ⟨c1, c2⟩ := Bool.and_eq_true_iff.mp hc
      cases h
      exact ⟨d, e, h1, h2, c1, c2, rfl⟩
    · cases h
  · cases h
theorem pr_eq {K : PySem.W.Frag} : Pr K (on2 (rEqD K)) pEq := fun G F S H ts vs t Q w o e k => by
  unfold pEq at e
  split at e
  · rename_i a b
    split at e
    · rename_i j hj
      cases e
      obtain ⟨d, e, h1, h2, h3, h4, rfl⟩ := eqT_some hj
      obtain ⟨v, u, S1, S2, rfl, _, _, r1, r2⟩ := ops2 o
      exact ⟨d, e, dp_of a r1 h1, dp_of b r2 h2, h3, h4, old w (t := .bl (PyData.eqv d e)) rfl k⟩
    · cases e
  · cases e
theorem pr_ne {K : PySem.W.Frag} : Pr K (on2 (rNeD K)) pNe := fun G F S H ts vs t Q w o e k => by
  unfold pNe at e
  split at e
  · rename_i a b
    split at e
    · rename_i j hj
      cases e
      obtain ⟨d, e, h1, h2, h3, h4, rfl⟩ := eqT_some hj
      obtain ⟨v, u, S1, S2, rfl, _, _, r1, r2⟩ := ops2 o
      exact ⟨d, e, dp_of a r1 h1, dp_of b r2 h2, h3, h4, old w (t := .bl (!PyData.eqv d e)) rfl k⟩
    · cases e
  · cases e
theorem sim_eq (hu : X.A.units + 64 < cLine) (h1 : SimU X a f) (h2 : SimU X b g) : SimE X (.Compare a [.Eq] [b] pos) (eP pEq (aCons f (aCons g aNil))) := sim_cmp (op_eqD hu) pr_eq h1 h2 (nomark _)
theorem sim_ne (hu : X.A.units + 64 < cLine) (h1 : SimU X a f) (h2 : SimU X b g) : SimE X (.Compare a [.NotEq] [b] pos) (eP pNe (aCons f (aCons g aNil))) := sim_cmp (op_neD hu) pr_ne h1 h2 (nomark _)
/-- is None -/
def isNon : T → Bool
  | .non => true
  | _ => false
def pIsN : List T → Option T
  | [t, .non] => some (.bl (isNon t))
  | _ => none
def pNotN : List T → Option T
  | [t, .non] => some (.bl (!isNon t))
  | _ => none
theorem non_iff {K : PySem.W.Frag} {G : AS} {H : Hp} {t : T} {v : V} {S : AS} (r : Rp K G H t v S) : decide (v = .non) = isNon t := by
  cases t with
  | non => rw [show v = V.non from r]; rfl
  | bl b => rw [show v = V.bl b from r]; rfl
  | int b => rw [show v = V.int b from r]; rfl
  | str b => rw [show v = V.str b from r]; rfl
  | ty b => rw [show v = V.ty b from r]; rfl
  | cls b => rw [show v = V.ref _ from r]; rfl
  | scr ns => obtain ⟨a, h, _⟩ := r; rw [h]; rfl
  | tup ts => obtain ⟨a, o, h, _⟩ := r; rw [h]; rfl
  | lst o ts => obtain ⟨a, o, h, _⟩ := r; rw [h]; rfl
  | obj o c ts => obtain ⟨a, o, _, h, _⟩ := r; rw [h]; rfl
  | dic o c ts => obtain ⟨a, o, h, _⟩ := r; rw [h]; rfl
  | dit o c ts => obtain ⟨a, o, h, _⟩ := r; rw [h]; rfl
theorem pr_isN {K : PySem.W.Frag} : Pr K (on2 fun x y H Q => y = .non ∧ Q (.bl (decide (x = .non))) H) pIsN := fun G F S H ts vs t Q w o e k => by
  unfold pIsN at e
  split at e
  · rename_i a
    cases e
    obtain ⟨v, u, S1, S2, rfl, _, _, r1, r2⟩ := ops2 o
    refine ⟨r2, ?_⟩
    rw [non_iff r1]
    exact old w (t := .bl (isNon a)) rfl k
  · cases e
theorem pr_notN {K : PySem.W.Frag} : Pr K (on2 fun x y H Q => y = .non ∧ Q (.bl (!decide (x = .non))) H) pNotN := fun G F S H ts vs t Q w o e k => by
  unfold pNotN at e
  split at e
  · rename_i a
    cases e
    obtain ⟨v, u, S1, S2, rfl, _, _, r1, r2⟩ := ops2 o
    refine ⟨r2, ?_⟩
    rw [non_iff r1]
    exact old w (t := .bl (!isNon a)) rfl k
  · cases e
theorem sim_isN (h1 : SimU X a f) (h2 : SimU X b g) : SimE X (.Compare a [.Is] [b] pos) (eP pIsN (aCons f (aCons g aNil))) := sim_cmp op_isN pr_isN h1 h2 (nomark _)
theorem sim_notN (h1 : SimU X a f) (h2 : SimU X b g) : SimE X (.Compare a [.IsNot] [b] pos) (eP pNotN (aCons f (aCons g aNil))) := sim_cmp op_notN pr_notN h1 h2 (nomark _)
end
end
end Ev

/-! EvCtl: tests, and/or, if-expressions, displays, statements. -/
namespace Ev
noncomputable section
open PySem L2

/-! ### tests -/
def PostT (K : PySem.W.Frag) (Wx : WX) (G F : AS) (H : Hp) (σ : St) (Q : Bool → Hp → Prop) : R Bool → Prop
  | .ok b st => ∀ H' G' S1, Ext G F H G' H' → Wd G' F S1 H' → StR K G' H' st σ S1 → Q b H'
  | .ex x st => ∀ cls d H' G' S1, Ext G F H G' H' → Wd G' F S1 H' → StR K G' H' st σ S1 → XcR K G' H' x cls d → Wx cls d σ H'
  | .no => False
abbrev ST := SL → R Bool
def RdT (K : PySem.W.Frag) (Wx : WX) (f : ST) : TT := fun σ H Q => ∃ G F S st, Wd G F S H ∧ StR K G H st σ S ∧ PostT K Wx G F H σ Q (f st)
def SimT (X : Cx) (e : Expr) (f : ST) : Prop := ∀ Wx, Takes X Wx → PT X e (RdT X.K Wx f)
def SimW (X : Cx) (e : Expr) (f : ST) : Prop := ∀ Wx, Takes X Wx → PW X e (RdT X.K Wx f)
theorem SimW.t {X : Cx} {e : Expr} {f : ST} (h : SimW X e f) : SimT X e f := fun Wx tk => (h Wx tk).pt

section
variable {K : PySem.W.Frag} {Wx : WX} {σ : St} {H : Hp}
/-- a test's reading from one part and what follows -/
theorem RdT.split {f : ST} {Q : Bool → Hp → Prop} {G F S : AS} {st : SL} (w : Wd G F S H) (r : StR K G H st σ S)
    (ok : ∀ b st1, f st = .ok b st1 → ∀ H1 G1 S1, Ext G F H G1 H1 → Wd G1 F S1 H1 → StR K G1 H1 st1 σ S1 → Q b H1)
    (ex : ∀ x st1, f st = .ex x st1 → ∀ cls d H1 G1 S1, Ext G F H G1 H1 → Wd G1 F S1 H1 → StR K G1 H1 st1 σ S1 → XcR K G1 H1 x cls d → Wx cls d σ H1)
    (no : f st ≠ .no) : RdT K Wx f σ H Q := by
  refine ⟨G, F, S, st, w, r, ?_⟩
  cases e : f st with
  | ok u st1 => exact ok u st1 e
  | ex x st1 => exact ex x st1 e
  | no => exact no e
/-- a bool's value as a test -/
def bOf (f : SE) : ST := fun st => (f st).bind fun t st => match t with
  | .bl b => .ok b st
  | _ => .no
theorem bOf_core {f : SE} {Q : Bool → Hp → Prop} (h : RdT K Wx (bOf f) σ H Q) : RdU K Wx (uV f) σ H fun x H1 => ∃ k, x = .bl k ∧ Q k H1 := by
  obtain ⟨G, F, S, st, w, r, p⟩ := h
  unfold bOf at p
  refine ⟨G, F, S, st, w, r, ?_⟩
  unfold uV
  cases e : f st with
  | ok t st1 =>
    rw [e] at p
    intro v H1 G1 S1 S2 x1 w1 d1 r1 a1
    cases t with
    | bl b => exact ⟨b, a1, p H1 G1 S1 x1 (w1.less (fun _ z => z) fun _ z => .inl z) r1⟩
    | _ => exact p.elim
  | ex x st1 => rw [e] at p; exact p
  | no => rw [e] at p; exact p
/-- a value's truth -/
def truT : T → Option Bool
  | .non => some false
  | .bl b => some b
  | .int i => some (i != 0)
  | .str s => if decide (s.length ≤ sizeLine) then some ((s.length : Int) != 0) else none
  | .tup ts => some (!ts.isEmpty)
  | .lst _ ts => some (!ts.isEmpty)
  | .scr ns => some (!ns.isEmpty)
  | .dic _ ks _ => some (!ks.isEmpty)
  | _ => none
def tTru (f : SU) : ST := fun st => (f st).bind fun u st => match u.get st with
  | some t => match truT t with
    | some b => .ok b st
    | none => .no
  | none => .no
theorem emp_len {α β : Type} : ∀ {a : List α} {b : List β}, a.length = b.length → b.isEmpty = a.isEmpty
  | [], [], _ => rfl
  | [], _ :: _, h => by cases h
  | _ :: _, [], h => by cases h
  | _ :: _, _ :: _, _ => rfl
theorem tru_of {G : AS} {t : T} {v : V} {S : AS} {b : Bool} (r : Rp K G H t v S) (e : truT t = some b) : TruV K v H b := by
  cases t with
  | non => rw [show v = V.non from r]; cases e; exact rfl
  | bl b => rw [show v = V.bl b from r]; cases e; exact rfl
  | int i => rw [show v = V.int i from r]; cases e; exact rfl
  | str s =>
    rw [show v = V.str s from r]
    have e' : (if decide (s.length ≤ sizeLine) = true then some ((s.length : Int) != 0) else none) = some b := e
    split at e'
    · rename_i hc
      cases e'
      exact ⟨of_decide_eq_true hc, rfl⟩
    · cases e'
  | tup ts =>
    obtain ⟨a, vs, h1, h2, h3⟩ := r
    cases e
    rw [h1]
    exact .inr (.inl ⟨vs, h2.seq, by rw [emp_len (rpl_len h3)]⟩)
  | lst o ts =>
    obtain ⟨a, vs, h1, h2, h3⟩ := lst_at r
    cases e
    rw [h1]
    exact .inl ⟨vs, .of h2, by rw [emp_len (rpl_len h3)]⟩
  | scr ns =>
    obtain ⟨a, h1, h2⟩ := r
    cases e
    rw [h1]
    exact .inl ⟨_, h2.seq, by cases ns <;> rfl⟩
  | dic o ks ts =>
    obtain ⟨a, vs, h1, h2, h3, h4⟩ := r
    cases e
    rw [h1]
    have hl : ts.length = vs.length := by cases o with
      | false => exact rpl_len h4.2
      | true => exact rpl_len h4.2
    refine .inr (.inr ⟨_, h2, ?_⟩)
    have hz : ks.length = (ks.zip vs).length := by rw [List.length_zip]; omega
    rw [emp_len hz]
  | ty _ => cases e
  | cls _ => cases e
  | obj _ _ _ => cases e
  | dit _ _ _ => cases e
theorem tru_core {f : SU} {Q : Bool → Hp → Prop} (h : RdT K Wx (tTru f) σ H Q) : RdU K Wx f σ H fun x H1 => ∃ k, TruV K x H1 k ∧ Q k H1 := by
  obtain ⟨G, F, S, st, w, r, p⟩ := h
  unfold tTru at p
  refine step_u w r (fun u st1 e1 v H1 G1 S1 S2 x1 w1 d1 r1 a1 => ?_) (fun x st1 e1 => ?_) (fun e1 => ?_)
  · rw [e1] at p
    have p1 : PostT K Wx G F H σ Q (match u.get st1 with
      | some t => match truT t with
        | some b => .ok b st1
        | none => .no
      | none => .no) := p
    cases e2 : u.get st1 with
    | none => rw [e2] at p1; exact p1.elim
    | some t =>
      rw [e2] at p1
      have p2 : PostT K Wx G F H σ Q (match truT t with
        | some b => .ok b st1
        | none => .no) := p1
      cases e3 : truT t with
      | none => rw [e3] at p2; exact p2.elim
      | some b =>
        rw [e3] at p2
        have rt : ∃ S3, Rp K G1 H1 t v S3 := by
          cases u with
          | v t' => cases e2; exact ⟨S2, a1⟩
          | s i =>
            obtain ⟨v', C, D, k1, k2, _⟩ := r1.get (join_some e2)
            have k4 : σ[i]? = some (some v) := a1
            rw [k4] at k1
            cases k1
            exact ⟨C, k2⟩
        obtain ⟨S3, rt⟩ := rt
        exact ⟨b, tru_of rt e3, p2 H1 G1 S1 x1 (w1.less (fun _ z => z) fun _ z => .inl z) r1⟩
  · rw [e1] at p; exact p
  · rw [e1] at p; exact p
def tNotB (f : ST) : ST := fun st => (f st).bind fun b st => .ok (!b) st
def tAndB (f g : ST) : ST := fun st => (f st).bind fun b st => if b then g st else .ok false st
def tOrB (f g : ST) : ST := fun st => (f st).bind fun b st => if b then .ok true st else g st
theorem RdT.next {f : ST} {k : Bool → ST} {Q : Bool → Hp → Prop} (h : RdT K Wx (fun st => (f st).bind k) σ H Q) : RdT K Wx f σ H fun b H1 => RdT K Wx (k b) σ H1 Q := by
  obtain ⟨G, F, S, st, w, r, p⟩ := h
  refine RdT.split w r (fun b st1 e1 H1 G1 S1 x1 w1 r1 => ?_) (fun x st1 e1 => ?_) (fun e1 => ?_)
  · have p1 : PostT K Wx G F H σ Q ((f st).bind k) := p
    rw [e1] at p1
    refine ⟨G1, F, S1, st1, w1, r1, ?_⟩
    have p2 : PostT K Wx G F H σ Q (k b st1) := p1
    cases e2 : k b st1 with
    | ok c st2 =>
      rw [e2] at p2
      exact fun H2 G2 S2 x2 w2 r2 => p2 H2 G2 S2 (x1.trans x2) w2 r2
    | ex x st2 =>
      rw [e2] at p2
      exact fun cls d H2 G2 S2 x2 w2 r2 => p2 cls d H2 G2 S2 (x1.trans x2) w2 r2
    | no => rw [e2] at p2; exact p2
  · have p1 : PostT K Wx G F H σ Q ((f st).bind k) := p
    rw [e1] at p1
    exact p1
  · have p1 : PostT K Wx G F H σ Q ((f st).bind k) := p
    rw [e1] at p1
    exact p1
theorem RdT.done {b : Bool} {Q : Bool → Hp → Prop} (h : RdT K Wx (fun st => .ok b st) σ H Q) : Q b H := by
  obtain ⟨G, F, S, st, w, r, p⟩ := h
  exact p H G S Ext.refl w r
end

section
variable {X : Cx} {e a b : Expr} {pos : Pos}
theorem sim_tcmp {op : CmpOp} {r : R2} {p : List T → Option T} {f g : SU} (ho : OpR X (compareOp op) r) (hp : Pr X.K (on2 r) p) (h1 : SimU X a f) (h2 : SimU X b g) (hm : behindInMarks op b = false) : SimT X (.Compare a [op] [b] pos) (bOf (eP p (aCons f (aCons g aNil)))) := fun Wx tk =>
  PT.imp (pt_cmpR ho (h1 Wx tk) (h2 Wx tk) hm) fun σ H Q h => two_core (prim_core hp (bOf_core h))
theorem sim_tle {f g : SU} (h1 : SimU X a f) (h2 : SimU X b g) : SimT X (.Compare a [.LtE] [b] pos) (bOf (eP pLe (aCons f (aCons g aNil)))) := sim_tcmp op_le pr_B h1 h2 (nomark _)
theorem sim_tgt {f g : SU} (h1 : SimU X a f) (h2 : SimU X b g) : SimT X (.Compare a [.Gt] [b] pos) (bOf (eP pGt (aCons f (aCons g aNil)))) := sim_tcmp op_gt pr_B h1 h2 (nomark _)
theorem sim_tge {f g : SU} (h1 : SimU X a f) (h2 : SimU X b g) : SimT X (.Compare a [.GtE] [b] pos) (bOf (eP pGe (aCons f (aCons g aNil)))) := sim_tcmp op_ge pr_B h1 h2 (nomark _)
theorem sim_tlt {f g : SU} (h1 : SimU X a f) (h2 : SimU X b g) : SimT X (.Compare a [.Lt] [b] pos) (bOf (eP pLtI (aCons f (aCons g aNil)))) := sim_tcmp op_lt pr_B h1 h2 (nomark _)
theorem sim_lt {f g : SU} (h1 : SimU X a f) (h2 : SimU X b g) : SimE X (.Compare a [.Lt] [b] pos) (eP pLtI (aCons f (aCons g aNil))) := sim_cmp op_lt pr_B h1 h2 (nomark _)
theorem sim_teq {f g : SU} (hu : X.A.units + 64 < cLine) (h1 : SimU X a f) (h2 : SimU X b g) : SimT X (.Compare a [.Eq] [b] pos) (bOf (eP pEq (aCons f (aCons g aNil)))) := sim_tcmp (op_eqD hu) pr_eq h1 h2 (nomark _)
theorem sim_tne {f g : SU} (hu : X.A.units + 64 < cLine) (h1 : SimU X a f) (h2 : SimU X b g) : SimT X (.Compare a [.NotEq] [b] pos) (bOf (eP pNe (aCons f (aCons g aNil)))) := sim_tcmp (op_neD hu) pr_ne h1 h2 (nomark _)
theorem sim_tisN {f g : SU} (h1 : SimU X a f) (h2 : SimU X b g) : SimT X (.Compare a [.Is] [b] pos) (bOf (eP pIsN (aCons f (aCons g aNil)))) := sim_tcmp op_isN pr_isN h1 h2 (nomark _)
theorem sim_tnotN {f g : SU} (h1 : SimU X a f) (h2 : SimU X b g) : SimT X (.Compare a [.IsNot] [b] pos) (bOf (eP pNotN (aCons f (aCons g aNil)))) := sim_tcmp op_notN pr_notN h1 h2 (nomark _)
/-- any other expression's truth -/
theorem sim_tru {f : SU} (h : SimU X a f) (he : ∀ whole, isTrue a X.env whole = (do let v ← whole; standAt a.pos; holding [v] (truthy v)) := by intro _; rfl) : SimT X a (tTru f) := fun Wx tk =>
  PT.imp (pt_truth (h Wx tk) he) fun σ H Q h => tru_core h
theorem sim_tnot {f : ST} (h : SimT X a f) : SimT X (.UnaryOp .Not a pos) (tNotB f) := fun Wx tk =>
  PT.imp (pt_not (h Wx tk)) fun σ H Q h => by
    obtain ⟨G, F, S, st, w, r, p⟩ := RdT.next h
    refine ⟨G, F, S, st, w, r, ?_⟩
    cases e : f st with
    | ok b st1 =>
      rw [e] at p
      exact fun H1 G1 S1 x1 w1 r1 => RdT.done (p H1 G1 S1 x1 w1 r1)
    | ex x st1 => rw [e] at p; exact p
    | no => rw [e] at p; exact p
theorem RdT.imp {K : PySem.W.Frag} {Wx : WX} {f : ST} {σ : St} {H : Hp} {Q Q' : Bool → Hp → Prop} (h : RdT K Wx f σ H Q) (i : ∀ v H', Q v H' → Q' v H') : RdT K Wx f σ H Q' := by
  obtain ⟨G, F, S, st, w, r, p⟩ := h
  refine ⟨G, F, S, st, w, r, ?_⟩
  cases e : f st with
  | ok u st1 =>
    rw [e] at p
    exact fun H1 G1 S1 x1 w1 r1 => i _ _ (p H1 G1 S1 x1 w1 r1)
  | ex x st1 => rw [e] at p; exact p
  | no => rw [e] at p; exact p
theorem sim_wand1 {f : ST} (h : SimT X a f) : SimW X (.BoolOp .And [a] pos) f := fun Wx tk => pw_and1 (h Wx tk)
theorem sim_wor1 {f : ST} (h : SimT X a f) : SimW X (.BoolOp .Or [a] pos) f := fun Wx tk => pw_or1 (h Wx tk)
theorem sim_wand {f g : ST} {rest : List Expr} (h1 : SimT X a f) (h2 : SimW X (.BoolOp .And (b :: rest) pos) g) : SimW X (.BoolOp .And (a :: b :: rest) pos) (tAndB f g) := fun Wx tk =>
  PW.imp (pw_and (h1 Wx tk) (h2 Wx tk)) fun σ H Q h => (RdT.next h).imp fun v H' q => by
    cases v with
    | true => rw [if_pos rfl]; exact q
    | false => rw [if_neg Bool.false_ne_true]; exact RdT.done q
theorem sim_wor {f g : ST} {rest : List Expr} (h1 : SimT X a f) (h2 : SimW X (.BoolOp .Or (b :: rest) pos) g) : SimW X (.BoolOp .Or (a :: b :: rest) pos) (tOrB f g) := fun Wx tk =>
  PW.imp (pw_or (h1 Wx tk) (h2 Wx tk)) fun σ H Q h => (RdT.next h).imp fun v H' q => by
    cases v with
    | true => rw [if_pos rfl]; exact RdT.done q
    | false => rw [if_neg Bool.false_ne_true]; exact q
end

/-! ### tests and values mixed -/
section
variable {K : PySem.W.Frag} {Wx : WX} {σ : St} {H : Hp}
/-- a test, then an expression -/
theorem RdT.then {f : ST} {k : Bool → SU} {Q : VK} (h : RdU K Wx (fun st => (f st).bind k) σ H Q) : RdT K Wx f σ H fun b H1 => RdU K Wx (k b) σ H1 Q := by
  obtain ⟨G, F, S, st, w, r, p⟩ := h
  have p1 : PostU K Wx G F H σ Q ((f st).bind k) := p
  refine RdT.split w r (fun b st1 e1 H1 G1 S1 x1 w1 r1 => ?_) (fun x st1 e1 => ?_) (fun e1 => ?_)
  · rw [e1] at p1
    refine ⟨G1, F, S1, st1, w1, r1, ?_⟩
    have p2 : PostU K Wx G F H σ Q (k b st1) := p1
    cases e2 : k b st1 with
    | ok c st2 =>
      rw [e2] at p2
      exact fun v H2 G2 S2 S3 x2 w2 d2 r2 => p2 v H2 G2 S2 S3 (x1.trans x2) w2 d2 r2
    | ex x st2 =>
      rw [e2] at p2
      exact fun cls d H2 G2 S2 x2 w2 r2 => p2 cls d H2 G2 S2 (x1.trans x2) w2 r2
    | no => rw [e2] at p2; exact p2
  · rw [e1] at p1; exact p1
  · rw [e1] at p1; exact p1
def uIf (c : ST) (f g : SU) : SU := fun st => (c st).bind fun b st => if b then f st else g st
/-- and, or of values that are bools -/
def eAnd (f g : SE) : SE := fun st => (f st).bind fun t st => match t with
  | .bl true => g st
  | .bl false => .ok (.bl false) st
  | _ => .no
def eOr (f g : SE) : SE := fun st => (f st).bind fun t st => match t with
  | .bl true => .ok (.bl true) st
  | .bl false => g st
  | _ => .no
def eNot (f : SE) : SE := fun st => (f st).bind fun t st => match t with
  | .bl b => .ok (.bl (!b)) st
  | _ => .no
/-- behind a bool's value -/
theorem bool_next {f : SE} {k : Bool → SE} {Q : VK} (h : RdU K Wx (uV fun st => (f st).bind fun t st => match t with
    | .bl b => k b st
    | _ => .no) σ H Q) : RdU K Wx (uV f) σ H fun x H1 => ∃ c, x = .bl c ∧ RdU K Wx (uV (k c)) σ H1 Q := by
  obtain ⟨G, F, S, st, w, r, p'⟩ := h
  have p : PostU K Wx G F H σ Q (R.bind ((f st).bind fun t st => match t with
    | .bl b => k b st
    | _ => .no) fun t st => .ok (.v t) st) := p'
  refine ⟨G, F, S, st, w, r, ?_⟩
  unfold uV
  cases e : f st with
  | ok t st1 =>
    rw [e] at p
    intro v H1 G1 S1 S2 x1 w1 d1 r1 a1
    cases t with
    | bl b =>
      refine ⟨b, a1, G1, F, S1, st1, w1.less (fun _ z => z) fun _ z => .inl z, r1, ?_⟩
      have p2 : PostU K Wx G F H σ Q ((k b st1).bind fun t st => .ok (.v t) st) := p
      show PostU K Wx G1 F H1 σ Q ((k b st1).bind fun t st => .ok (.v t) st)
      cases e2 : k b st1 with
      | ok c st2 =>
        rw [e2] at p2
        exact fun v H2 G2 S2 S3 x2 w2 d2 r2 => p2 v H2 G2 S2 S3 (x1.trans x2) w2 d2 r2
      | ex x st2 =>
        rw [e2] at p2
        exact fun cls d H2 G2 S2 x2 w2 r2 => p2 cls d H2 G2 S2 (x1.trans x2) w2 r2
      | no => rw [e2] at p2; exact p2
    | _ => exact p.elim
  | ex x st1 => rw [e] at p; exact p
  | no => rw [e] at p; exact p
theorem const_done {t : T} {v : V} (hv : scV t = some v) {Q : VK} (h : RdU K Wx (uV (eC t)) σ H Q) : Q v H := by
  obtain ⟨G, F, S, st, w, r, p⟩ := h
  exact p v H G S NoA Ext.refl (w.less (fun _ z => z) fun _ z => z.elim id fun z => z.elim) (fun _ _ z => z.elim) r (rp_sc NoA hv)
end
section
variable {X : Cx} {e a b c : Expr} {pos : Pos}
theorem sim_uif {t : ST} {f g : SU} (hc : SimT X c t) (ha : SimU X a f) (hb : SimU X b g) : SimU X (.IfExp c a b pos) (uIf t f g) := fun Wx tk =>
  PE.imp (pe_ifExp (hc Wx tk) (ha Wx tk) (hb Wx tk)) fun σ H Q h => (RdT.then h).imp fun v H' q => by
    cases v with
    | true => rw [if_pos rfl]; exact q
    | false => rw [if_neg Bool.false_ne_true]; exact q
theorem sim_one {op} {f : SU} (h : SimU X a f) : SimU X (.BoolOp op [a] pos) f := fun Wx tk => pe_one (h Wx tk)
theorem eAnd_eq (f g : SE) : eAnd f g = fun st => (f st).bind fun t st => match t with
    | .bl b => (fun (b : Bool) => if b then g else eC (.bl false)) b st
    | _ => .no := by
  funext st
  unfold eAnd
  congr 1
  funext t st
  cases t with
  | bl b => cases b <;> rfl
  | _ => rfl
theorem eOr_eq (f g : SE) : eOr f g = fun st => (f st).bind fun t st => match t with
    | .bl b => (fun (b : Bool) => if b then eC (.bl true) else g) b st
    | _ => .no := by
  funext st
  unfold eOr
  congr 1
  funext t st
  cases t with
  | bl b => cases b <;> rfl
  | _ => rfl
theorem eNot_eq (f : SE) : eNot f = fun st => (f st).bind fun t st => match t with
    | .bl b => (fun (b : Bool) => eC (.bl (!b))) b st
    | _ => .no := by
  funext st
  unfold eNot
  congr 1
theorem sim_and {f g : SE} {rest : List Expr} (h1 : SimE X a f) (h2 : SimE X (.BoolOp .And (b :: rest) pos) g) : SimE X (.BoolOp .And (a :: b :: rest) pos) (eAnd f g) := fun Wx tk =>
  PE.imp (pe_and (h1 Wx tk) (h2 Wx tk)) fun σ H Q h => by
    rw [eAnd_eq] at h
    refine (bool_next (k := fun b => if b then g else eC (.bl false)) h).imp fun v H' ⟨k, e, q⟩ => ⟨k, e, ?_⟩
    cases k with
    | true => rw [if_pos rfl] at q ⊢; exact q
    | false => rw [if_neg Bool.false_ne_true] at q ⊢; exact const_done rfl q
theorem sim_or {f g : SE} {rest : List Expr} (h1 : SimE X a f) (h2 : SimE X (.BoolOp .Or (b :: rest) pos) g) : SimE X (.BoolOp .Or (a :: b :: rest) pos) (eOr f g) := fun Wx tk =>
  PE.imp (pe_or (h1 Wx tk) (h2 Wx tk)) fun σ H Q h => by
    rw [eOr_eq] at h
    refine (bool_next (k := fun b => if b then eC (.bl true) else g) h).imp fun v H' ⟨k, e, q⟩ => ⟨k, e, ?_⟩
    cases k with
    | true => rw [if_pos rfl] at q ⊢; exact const_done rfl q
    | false => rw [if_neg Bool.false_ne_true] at q ⊢; exact q
theorem sim_not {f : SE} (h1 : SimE X a f) : SimE X (.UnaryOp .Not a pos) (eNot f) := fun Wx tk =>
  PE.imp (pe_not (h1 Wx tk)) fun σ H Q h => by
    rw [eNot_eq] at h
    exact (bool_next (k := fun b => eC (.bl (!b))) h).imp fun v H' ⟨k, e, q⟩ => ⟨k, e, const_done rfl q⟩
/-- an operand that must be a tree of its own or frozen, as a value -/
def eOf (f : SU) : SE := fun st => (f st).bind fun u st => match u with
  | .v t => .ok t st
  | .s _ => .no
theorem sim_of {f : SU} (h : SimU X a f) : SimE X a (eOf f) := fun Wx tk => PE.imp (h Wx tk) fun σ H Q ⟨G, F, S, st, w, r, p⟩ => by
  refine ⟨G, F, S, st, w, r, ?_⟩
  unfold uV eOf at p
  cases e : f st with
  | ok u st1 =>
    rw [e] at p
    cases u with
    | v t => exact p
    | s i => exact p.elim
  | ex x st1 => rw [e] at p; exact p
  | no => rw [e] at p; exact p
/-! ### what is kept of a name: frozen at its place, or moved away -/
def eKeep (i : Nat) : SE := fun st => match (st[i]?).join with
  | some t => if frz t then .ok t st else .ok (fz t) (st.set i (some (fz t)))
  | none => .no
def eMove (i : Nat) : SE := fun st => match (st[i]?).join with
  | some t => .ok t (st.set i none)
  | none => .no
theorem set_some_none {st : SL} {i : Nat} {t : T} : (st.set i none).set i (some t) = st.set i (some t) := by simp
theorem sim_keep (i : Nat) {x : Str} (hN : X.N[i]? = some x := by rfl) (hv : Vis X.env.scope x := by first | exact Or.inl rfl | exact Or.inr (Or.inl rfl) | exact Or.inr (Or.inr rfl)) (hd : (x == ("__debug__" : Str)) = false := by decide)
    (hcd : (x == ("__classdict__" : Str)) = false := by decide) : SimE X (.Name x pos) (eKeep i) := fun Wx _ => PE.imp (pe_var hN hv hd hcd) fun σ H Q ⟨G, F, S, st, w, r, p⟩ => by
  unfold uV eKeep at p
  cases e : (st[i]?).join with
  | none => rw [e] at p; exact p.elim
  | some t =>
    rw [e] at p
    obtain ⟨v, S1, S2, h1, h2, h3, h4, h5, h6⟩ := r.get (join_some e)
    refine ⟨v, h1, ?_⟩
    have p1 : PostU X.K Wx G F H σ Q ((if frz t = true then R.ok t st else .ok (fz t) (st.set i (some (fz t)))).bind fun t st => .ok (.v t) st) := p
    by_cases f : frz t = true
    · rw [if_pos f] at p1
      exact p1 v H G S NoA Ext.refl (w.less (fun _ z => z) fun _ z => z.elim id fun z => z.elim) (fun _ _ z => z.elim) r (Rp.cold t NoA f h2)
    · rw [if_neg f] at p1
      have rz : Rp X.K (fun a => G a ∨ S1 a) H (fz t) v NoA := Rp.fz t h2 (fun _ z => .inr z) fun _ z => .inl z
      refine p1 v H (fun a => G a ∨ S1 a) S2 NoA ⟨fun _ z => .inl z, fun _ _ => rfl⟩ ?_ (fun _ _ z => z.elim) ?_ rz
      · refine ⟨fun a g f => g.elim (fun z => w.gf a z f) fun z => w.fs a f (h3 a z), fun a g s => ?_, fun a f s => ?_, fun a g => g.elim (w.dG a) fun z => w.dS a (h3 a z), w.dF, fun a s => ?_⟩
        · rcases s with s | s
          · exact g.elim (fun z => w.gs a z (h4 a s)) fun z => h5 a z s
          · exact s.elim
        · rcases s with s | s
          · exact w.fs a f (h4 a s)
          · exact s.elim
        · rcases s with s | s
          · exact w.dS a (h4 a s)
          · exact s.elim
      · have q := StR.fit (i := i) (h6.keep (G' := fun a => G a ∨ S1 a) (fun _ z => .inl z) fun _ _ => rfl) h1 rz (fun _ _ z => z.elim)
        rw [set_some_none] at q
        exact q.mono fun a z => z.elim id fun z => z.elim
theorem sim_move (i : Nat) {x : Str} (hN : X.N[i]? = some x := by rfl) (hv : Vis X.env.scope x := by first | exact Or.inl rfl | exact Or.inr (Or.inl rfl) | exact Or.inr (Or.inr rfl)) (hd : (x == ("__debug__" : Str)) = false := by decide)
    (hcd : (x == ("__classdict__" : Str)) = false := by decide) : SimE X (.Name x pos) (eMove i) := fun Wx _ => PE.imp (pe_var hN hv hd hcd) fun σ H Q ⟨G, F, S, st, w, r, p⟩ => by
  unfold uV eMove at p
  cases e : (st[i]?).join with
  | none => rw [e] at p; exact p.elim
  | some t =>
    rw [e] at p
    obtain ⟨v, S1, S2, h1, h2, h3, h4, h5, h6⟩ := r.get (join_some e)
    refine ⟨v, h1, ?_⟩
    have p1 : PostU X.K Wx G F H σ Q (.ok (.v t) (st.set i none)) := p
    exact p1 v H G S2 S1 Ext.refl (w.less (fun _ z => z) fun a z => z.elim (h4 a) (h3 a)) (fun a z1 z2 => h5 a z2 z1) h6 h2
end
/-! ### displays -/
def vsOf : List AV → Option (List T)
  | [] => some []
  | .v t :: us => match vsOf us with
    | some ts => some (t :: ts)
    | none => none
  | .s _ :: _ => none
theorem vs_rp {K : PySem.W.Frag} {G : AS} {H : Hp} {σ : St} : ∀ {us : List AV} {vs : List V} {ts : List T} {S : AS}, AvsR K G H σ us vs S → vsOf us = some ts → RpL K G H ts vs S
  | [], _, _, _, h, e => by cases e; exact h
  | .s _ :: _, _, _, _, _, e => by cases e
  | .v t :: us, _, ts, S, ⟨v, vr, S1, S2, h1, h2, h3, h4, h5, h6⟩, e => by
    have e' : (match vsOf us with
      | some ts => some (t :: ts)
      | none => none) = some ts := e
    cases q : vsOf us with
    | none => rw [q] at e'; cases e'
    | some tr =>
      rw [q] at e'
      cases e'
      exact ⟨v, vr, S1, S2, h1, h2, vs_rp h3 q, h4, h5, h6⟩
def eLst (f : SA) : SE := fun st => (f st).bind fun us st => match vsOf us with
  | some ts => if decide (ts.length ≤ sizeLine) then .ok (.lst true ts) st else .no
  | none => .no
def eTup (f : SA) : SE := fun st => (f st).bind fun us st => match vsOf us with
  | some ts => if decide (ts.length ≤ sizeLine) then .ok (.tup ts) st else .no
  | none => .no
theorem disp_core {K : PySem.W.Frag} {Wx : WX} {σ : St} {H : Hp} {Q : VK} {f : SA} {mk : List T → T} {o : List V → HO} (h : RdU K Wx (uV fun st => (f st).bind fun us st => match vsOf us with
      | some ts => if decide (ts.length ≤ sizeLine) then .ok (mk ts) st else .no
      | none => .no) σ H Q)
    (hm : ∀ (G F S1 S2 : AS) (H : Hp) (ts : List T) (vs : List V) (p : Addr), Wd G F (fun a => S1 a ∨ S2 a) H → RpL K G H ts vs S2 → H p = none →
      ∃ G' S', (∀ a, G a → G' a) ∧ (∀ a, G' a → G a ∨ a = p) ∧ (∀ a, S' a → S2 a ∨ a = p) ∧ (G' p → S' p → False) ∧ Rp K G' (upd H p (o vs)) (mk ts) (.ref p) S') :
    RdA K Wx f σ H fun xs H1 => xs.length ≤ sizeLine ∧ ∀ p, H1 p = none → Q (.ref p) (upd H1 p (o xs)) := by
  obtain ⟨G, F, S, st, w, rs, ps'⟩ := h
  have ps : PostU K Wx G F H σ Q (R.bind ((f st).bind fun us st => match vsOf us with
      | some ts => if decide (ts.length ≤ sizeLine) then .ok (mk ts) st else .no
      | none => .no) fun t st => .ok (.v t) st) := ps'
  refine ⟨G, F, S, st, w, rs, ?_⟩
  cases e : f st with
  | ok us st1 =>
    rw [e] at ps
    intro vs H1 G1 S1 S2 x1 w1 d1 r1 a1
    have ps1 : PostU K Wx G F H σ Q (R.bind (match vsOf us with
      | some ts => if decide (ts.length ≤ sizeLine) = true then .ok (mk ts) st1 else .no
      | none => .no) fun t st => .ok (.v t) st) := ps
    cases e2 : vsOf us with
    | none => rw [e2] at ps1; exact ps1.elim
    | some ts =>
      rw [e2] at ps1
      have ps2 : PostU K Wx G F H σ Q (R.bind (if decide (ts.length ≤ sizeLine) = true then .ok (mk ts) st1 else .no) fun t st => .ok (.v t) st) := ps1
      by_cases hc : decide (ts.length ≤ sizeLine) = true
      · rw [if_pos hc] at ps2
        have rl := vs_rp a1 e2
        refine ⟨by rw [← rpl_len rl]; exact of_decide_eq_true hc, fun p np => ?_⟩
        obtain ⟨G2, S', g1, g2, g3, g4, rv⟩ := hm G1 F S1 S2 H1 ts vs p w1 rl np
        have nG : ∀ a, G1 a → a ≠ p := fun a g e => by subst e; exact w1.dG _ g np
        have nF : ∀ a, F a → a ≠ p := fun a g e => by subst e; exact w1.dF _ g np
        have nS : ∀ a, S1 a ∨ S2 a → a ≠ p := fun a g e => by subst e; exact w1.dS _ g np
        refine ps2 (.ref p) _ G2 S1 S' (x1.trans ⟨g1, fun a q => upd_ne (q.elim (nG a) (nF a))⟩) ⟨fun a g f => ?_, fun a g s => ?_, fun a f s => ?_, fun a g => ?_, fun a f => ?_, fun a s => ?_⟩ (fun a z1 z2 => ?_) (r1.keep g1 fun a q => upd_ne (q.elim (nG a) fun z => nS a (.inl z))) rv
        · rcases g2 a g with g | g
          · exact w1.gf a g f
          · exact nF a f g
        · rcases s with s | s
          · rcases g2 a g with g | g
            · exact w1.gs a g (.inl s)
            · exact nS a (.inl s) g
          · rcases g3 a s with q | q
            · rcases g2 a g with g | g
              · exact w1.gs a g (.inr q)
              · exact nS a (.inr q) g
            · subst q; exact g4 g s
        · rcases s with s | s
          · exact w1.fs a f (.inl s)
          · rcases g3 a s with q | q
            · exact w1.fs a f (.inr q)
            · exact nF a f q
        · rcases g2 a g with g | g
          · rw [upd_ne (nG a g)]; exact w1.dG a g
          · rw [g, upd_same]; exact Option.some_ne_none _
        · rw [upd_ne (nF a f)]; exact w1.dF a f
        · rcases s with s | s
          · rw [upd_ne (nS a (.inl s))]; exact w1.dS a (.inl s)
          · rcases g3 a s with q | q
            · rw [upd_ne (nS a (.inr q))]; exact w1.dS a (.inr q)
            · rw [q, upd_same]; exact Option.some_ne_none _
        · rcases g3 a z2 with q | q
          · exact d1 a z1 q
          · exact nS a (.inl z1) q
      · rw [if_neg hc] at ps2; exact ps2.elim
  | ex x st1 => rw [e] at ps; exact ps
  | no => rw [e] at ps; exact ps
section
variable {X : Cx} {es : List Expr} {pos : Pos} {f : SA}
theorem sim_lst (h : SimA X es f) : SimE X (.List es pos) (eLst f) := fun Wx tk => PE.imp (pe_lst (h Wx tk)) fun σ H Q q =>
  disp_core (mk := T.lst true) (o := HO.lst) q fun G F S1 S2 H ts vs p w rl np => by
    refine ⟨G, fun a => S2 a ∨ a = p, fun _ z => z, fun _ z => .inl z, fun _ z => z, fun g _ => w.dG p g np, ⟨p, vs, rfl, .inr rfl, upd_same, ?_⟩⟩
    refine RpL.mono ts (RpL.keep ts rl (fun _ z => z) fun a q => upd_ne ?_) fun a z => ⟨.inl z, fun e => by subst e; exact w.dS _ (.inr z) np⟩
    intro e
    subst e
    exact q.elim (fun g => w.dG _ g np) fun g => w.dS _ (.inr g) np
theorem sim_tup {k : Nat} (h : SimA X es f) : SimE X (.Tuple es k pos) (eTup f) := fun Wx tk => PE.imp (pe_tup (h Wx tk)) fun σ H Q q =>
  disp_core (mk := T.tup) (o := HO.tup) q fun G F S1 S2 H ts vs p w rl np => by
    refine ⟨fun a => G a ∨ a = p, S2, fun _ z => .inl z, fun _ z => z, fun _ z => .inl z, fun _ s => w.dS p (.inr s) np, ⟨p, vs, rfl, .inl ⟨.inr rfl, upd_same⟩, ?_⟩⟩
    refine RpL.keep ts rl (fun _ z => .inl z) fun a q => upd_ne ?_
    intro e
    subst e
    exact q.elim (fun g => w.dG _ g np) fun g => w.dS _ (.inr g) np
end
end
end Ev

/-! EvStm: statements, targets, loops. -/
namespace Ev
noncomputable section
open PySem L2

inductive Fl where
  | nx | rt (t : T) | bk | ct
abbrev SS := SL → R Fl
/-- the slots at P hold what they held -/
def Pk (P : Nat → Bool) (σ σ' : St) : Prop := σ'.length = σ.length ∧ ∀ i, P i = true → σ'[i]? = σ[i]?
theorem Pk.refl {P : Nat → Bool} {σ : St} : Pk P σ σ := ⟨rfl, fun _ _ => rfl⟩
theorem Pk.trans {P : Nat → Bool} {σ σ1 σ2 : St} (a : Pk P σ σ1) (b : Pk P σ1 σ2) : Pk P σ σ2 := ⟨b.1.trans a.1, fun i h => (b.2 i h).trans (a.2 i h)⟩
theorem Pk.set {P : Nat → Bool} {σ : St} {i : Nat} {v : Option V} (h : P i = false) : Pk P σ (σ.set i v) := ⟨List.length_set, fun j hj => by
  rw [List.getElem?_set_ne]
  intro e
  subst e
  rw [h] at hj
  cases hj⟩
def PostS (K : PySem.W.Frag) (P : Nat → Bool) (Wx : WX) (G F : AS) (H : Hp) (σ : St) (D : Ends) : R Fl → Prop
  | .ok .nx st => ∀ σ' H' G' S1, Ext G F H G' H' → Wd G' F S1 H' → StR K G' H' st σ' S1 → Pk P σ σ' → D.nx σ' H'
  | .ok (.rt t) st => ∀ v σ' H' G' S1 S2, Ext G F H G' H' → Wd G' F (fun a => S1 a ∨ S2 a) H' → (∀ a, S1 a → S2 a → False) → StR K G' H' st σ' S1 → Rp K G' H' t v S2 → Pk P σ σ' → D.rt v H'
  | .ok .bk st => ∀ σ' H' G' S1, Ext G F H G' H' → Wd G' F S1 H' → StR K G' H' st σ' S1 → Pk P σ σ' → D.bk σ' H'
  | .ok .ct st => ∀ σ' H' G' S1, Ext G F H G' H' → Wd G' F S1 H' → StR K G' H' st σ' S1 → Pk P σ σ' → D.ct σ' H'
  | .ex x st => ∀ cls d σ' H' G' S1, Ext G F H G' H' → Wd G' F S1 H' → StR K G' H' st σ' S1 → XcR K G' H' x cls d → Pk P σ σ' → Wx cls d σ' H'
  | .no => False
def RdS (K : PySem.W.Frag) (P : Nat → Bool) (Wx : WX) (f : SS) : TS := fun D σ H => ∃ G F S st, Wd G F S H ∧ StR K G H st σ S ∧ PostS K P Wx G F H σ D (f st)
def SimS (X : Cx) (P : Nat → Bool) (s : Stmt) (f : SS) : Prop := ∀ Wx, Takes X Wx → PS X s (RdS X.K P Wx f)
def SimB (X : Cx) (P : Nat → Bool) (s : List Stmt) (f : SS) : Prop := ∀ Wx, Takes X Wx → PSs X s (RdS X.K P Wx f)

section
variable {K : PySem.W.Frag} {P : Nat → Bool} {Wx : WX} {σ : St} {H : Hp} {D : Ends}
theorem PostS.shift {G F G' : AS} {H' : Hp} {σ' : St} (x : Ext G F H G' H') (k : Pk P σ σ') : ∀ {r : R Fl}, PostS K P Wx G F H σ D r → PostS K P Wx G' F H' σ' D r
  | .ok .nx st, h => fun s2 H2 G2 S x2 w r q => h s2 H2 G2 S (x.trans x2) w r (k.trans q)
  | .ok (.rt t) st, h => fun v s2 H2 G2 S S' x2 w d r rv q => h v s2 H2 G2 S S' (x.trans x2) w d r rv (k.trans q)
  | .ok .bk st, h => fun s2 H2 G2 S x2 w r q => h s2 H2 G2 S (x.trans x2) w r (k.trans q)
  | .ok .ct st, h => fun s2 H2 G2 S x2 w r q => h s2 H2 G2 S (x.trans x2) w r (k.trans q)
  | .ex x1 st, h => fun cls d s2 H2 G2 S x2 w r xc q => h cls d s2 H2 G2 S (x.trans x2) w r xc (k.trans q)
  | .no, h => h
def sSeq (f g : SS) : SS := fun st => match f st with
  | .ok .nx st1 => g st1
  | r => r
theorem RdS.seq {f g : SS} (h : RdS K P Wx (sSeq f g) D σ H) : RdS K P Wx f { D with nx := RdS K P Wx g D } σ H := by
  obtain ⟨G, F, S, st, w, r, p⟩ := h
  refine ⟨G, F, S, st, w, r, ?_⟩
  have p1 : PostS K P Wx G F H σ D (match f st with
    | .ok .nx st1 => g st1
    | r => r) := p
  cases e : f st with
  | ok a st1 =>
    rw [e] at p1
    cases a with
    | nx => exact fun s2 H2 G2 S2 x2 w2 r2 k => ⟨G2, F, S2, st1, w2, r2, PostS.shift x2 k p1⟩
    | rt t => exact p1
    | bk => exact p1
    | ct => exact p1
  | ex x st1 => rw [e] at p1; exact p1
  | no => rw [e] at p1; exact p1
def sNext : SS := fun st => .ok .nx st
def sExpr (f : SU) : SS := fun st => (f st).bind fun _ st => .ok .nx st
def sRet (f : SE) : SS := fun st => (f st).bind fun t st => .ok (.rt t) st
def sIf (c : ST) (f g : SS) : SS := fun st => (c st).bind fun b st => if b then f st else g st
theorem RdS.expr {f : SU} (h : RdS K P Wx (sExpr f) D σ H) : RdU K Wx f σ H fun _ H1 => D.nx σ H1 := by
  obtain ⟨G, F, S, st, w, r, p⟩ := h
  refine ⟨G, F, S, st, w, r, ?_⟩
  have p1 : PostS K P Wx G F H σ D ((f st).bind fun _ st => .ok .nx st) := p
  cases e : f st with
  | ok u st1 =>
    rw [e] at p1
    exact fun v H1 G1 S1 S2 x1 w1 d1 r1 a1 => p1 σ H1 G1 S1 x1 (w1.less (fun _ z => z) fun _ z => .inl z) r1 Pk.refl
  | ex x st1 =>
    rw [e] at p1
    exact fun cls d H1 G1 S1 x1 w1 r1 q => p1 cls d σ H1 G1 S1 x1 w1 r1 q Pk.refl
  | no => rw [e] at p1; exact p1
theorem RdS.ret {f : SE} (h : RdS K P Wx (sRet f) D σ H) : RdU K Wx (uV f) σ H D.rt := by
  obtain ⟨G, F, S, st, w, r, p⟩ := h
  refine ⟨G, F, S, st, w, r, ?_⟩
  have p1 : PostS K P Wx G F H σ D ((f st).bind fun t st => .ok (.rt t) st) := p
  unfold uV
  cases e : f st with
  | ok u st1 =>
    rw [e] at p1
    exact fun v H1 G1 S1 S2 x1 w1 d1 r1 a1 => p1 v σ H1 G1 S1 S2 x1 w1 d1 r1 a1 Pk.refl
  | ex x st1 =>
    rw [e] at p1
    exact fun cls d H1 G1 S1 x1 w1 r1 q => p1 cls d σ H1 G1 S1 x1 w1 r1 q Pk.refl
  | no => rw [e] at p1; exact p1
/-- a test, then a statement -/
theorem RdS.test {c : ST} {k : Bool → SS} (h : RdS K P Wx (fun st => (c st).bind k) D σ H) : RdT K Wx c σ H fun b H1 => RdS K P Wx (k b) D σ H1 := by
  obtain ⟨G, F, S, st, w, r, p⟩ := h
  have p1 : PostS K P Wx G F H σ D ((c st).bind k) := p
  refine RdT.split w r (fun b st1 e1 H1 G1 S1 x1 w1 r1 => ?_) (fun x st1 e1 => ?_) (fun e1 => ?_)
  · rw [e1] at p1
    exact ⟨G1, F, S1, st1, w1, r1, PostS.shift x1 Pk.refl p1⟩
  · rw [e1] at p1
    exact fun cls d H1 G1 S1 x1 w1 r1 q => p1 cls d σ H1 G1 S1 x1 w1 r1 q Pk.refl
  · rw [e1] at p1; exact p1
theorem RdS.done (h : RdS K P Wx sNext D σ H) : D.nx σ H := by
  obtain ⟨G, F, S, st, w, r, p⟩ := h
  exact p σ H G S Ext.refl w r Pk.refl
end
section
variable {X : Cx} {P : Nat → Bool} {s : Stmt} {ss : List Stmt} {e : Expr} {pos : Pos}
theorem sim_bnil : SimB X P [] sNext := fun Wx _ => PSs.imp pss_nil fun D σ H h => RdS.done h
theorem sim_bcons {f g : SS} (h1 : SimS X P s f) (h2 : SimB X P ss g) : SimB X P (s :: ss) (sSeq f g) := fun Wx tk => PSs.imp (pss_cons (h1 Wx tk) (h2 Wx tk)) fun D σ H h => RdS.seq h
theorem sim_bone {f : SS} (h1 : SimS X P s f) : SimB X P [s] f := fun Wx tk => pss_one (h1 Wx tk)
theorem sim_pass : SimS X P (.Pass pos) sNext := fun Wx _ => PS.imp ps_pass fun D σ H h => RdS.done h
theorem sim_doc {x j pos'} : SimS X P (.Expr (.Constant (.str x) j pos) pos') sNext := fun Wx _ => PS.imp ps_doc fun D σ H h => RdS.done h
def sBrk : SS := fun st => .ok .bk st
def sCnt : SS := fun st => .ok .ct st
theorem sim_brk : SimS X P (.Break pos) sBrk := fun Wx _ => PS.imp ps_break fun D σ H ⟨G, F, S, st, w, r, p⟩ => p σ H G S Ext.refl w r Pk.refl
theorem sim_cnt : SimS X P (.Continue pos) sCnt := fun Wx _ => PS.imp ps_continue fun D σ H ⟨G, F, S, st, w, r, p⟩ => p σ H G S Ext.refl w r Pk.refl
theorem sim_expr {f : SU} (h : SimU X e f) (hs : swapsWith e none pos.line X.env = pure false := by rfl) : SimS X P (.Expr e pos) (sExpr f) := fun Wx tk => PS.imp (ps_expr (h Wx tk) hs) fun D σ H h => RdS.expr h
theorem sim_ret {f : SE} (h : SimE X e f) : SimS X P (.Return (some e) pos) (sRet f) := fun Wx tk => PS.imp (ps_ret (h Wx tk)) fun D σ H h => RdS.ret h
def sRetN : SS := fun st => .ok (.rt .non) st
theorem sim_retN : SimS X P (.Return none pos) sRetN := fun Wx tk => PS.imp ps_retN fun D σ H ⟨G, F, S, st, w, r, p⟩ => p .non σ H G S NoA Ext.refl (w.less (fun _ z => z) fun _ z => z.elim id fun z => z.elim) (fun _ _ z => z.elim) r rfl Pk.refl
theorem sim_if {c : Expr} {a b : List Stmt} {t : ST} {f g : SS} (hc : SimT X c t) (ha : SimB X P a f) (hb : SimB X P b g) : SimS X P (.If c a b pos) (sIf t f g) := fun Wx tk =>
  PS.imp (ps_if (hc Wx tk) (ha Wx tk) (hb Wx tk)) fun D σ H h => (RdS.test h).imp fun v H' q => by
    cases v with
    | true => rw [if_pos rfl]; exact q
    | false => rw [if_neg Bool.false_ne_true]; exact q
end

/-! ### targets -/
abbrev TS' := T → SL → Option SL
def RdG (K : PySem.W.Frag) (P : Nat → Bool) (g : TS') : TG := fun v σ H Qs => ∃ G F S S2 st t st', Wd G F (fun a => S a ∨ S2 a) H ∧ (∀ a, S a → S2 a → False) ∧ StR K G H st σ S ∧ Rp K G H t v S2 ∧ g t st = some st' ∧
  ∀ σ' S', Wd G F S' H → StR K G H st' σ' S' → Pk P σ σ' → Qs σ' H
def SimG (X : Cx) (P : Nat → Bool) (e : Expr) (g : TS') : Prop := PG X e (RdG X.K P g)
abbrev TSs := List T → SL → Option SL
def RdGs (K : PySem.W.Frag) (P : Nat → Bool) (g : TSs) : TGs := fun vs σ H Qs => ∃ G F S S2 st ts st', Wd G F (fun a => S a ∨ S2 a) H ∧ (∀ a, S a → S2 a → False) ∧ StR K G H st σ S ∧ RpL K G H ts vs S2 ∧ g ts st = some st' ∧
  ∀ σ' S', Wd G F S' H → StR K G H st' σ' S' → Pk P σ σ' → Qs σ' H
def SimGs (X : Cx) (P : Nat → Bool) (e : List Expr) (g : TSs) : Prop := PGs X e (RdGs X.K P g)
theorem PG.imp {X : Cx} {e : Expr} {t t' : TG} (h : PG X e t) (i : ∀ v σ H Q, t' v σ H Q → t v σ H Q) : PG X e t' := ⟨fun pins s σ H v u Q I r q => h.run pins s σ H v u Q I r (i v σ H Q q)⟩
theorem PGs.imp {X : Cx} {e : List Expr} {t t' : TGs} (h : PGs X e t) (i : ∀ v σ H Q, t' v σ H Q → t v σ H Q) : PGs X e t' := ⟨fun pins s σ H v u Q I r q => h.run pins s σ H v u Q I r (i v σ H Q q)⟩
def tgN (i : Nat) : TS' := fun t st => some (st.set i (some t))
def tgT (g : TSs) : TS' := fun t st => match t with
  | .tup ts => g ts st
  | _ => none
def tgNil : TSs := fun ts st => match ts with
  | [] => some st
  | _ => none
def tgCons (g : TS') (gs : TSs) : TSs := fun ts st => match ts with
  | t :: ts => match g t st with
    | some st1 => gs ts st1
    | none => none
  | [] => none
section
variable {X : Cx} {P : Nat → Bool} {pos : Pos}
theorem sim_gname {i : Nat} {x : Str} (hN : X.N.Nodup) (hi : X.N[i]? = some x) (hx : Loc X.env.scope x) (hP : P i = false) (hf : X.fn x = true ∨ X.env.scope.names.lookup x = some .local := by first | exact .inl rfl | exact .inr rfl | assumption) : SimG X P (.Name x pos) (tgN i) :=
  PG.imp (pg_name hN hi hx hf) fun v σ H Q ⟨G, F, S, S2, st, t, st', w, d, r, rv, e, k⟩ => by
    cases e
    exact k _ _ w (r.fill rv d) (Pk.set hP)
theorem sim_gnil : SimGs X P [] tgNil := PGs.imp pgs_nil fun vs σ H Q ⟨G, F, S, S2, st, ts, st', w, d, r, rv, e, k⟩ => by
  cases ts with
  | nil =>
    cases e
    exact ⟨rv, k σ S (w.less (fun _ z => z) fun _ z => .inl z) r Pk.refl⟩
  | cons t ts => cases e
theorem sim_gcons {e : Expr} {es : List Expr} {g : TS'} {gs : TSs} (h1 : SimG X P e g) (h2 : SimGs X P es gs)
    (hs : (assignEach (e :: es) X.env).map (·.2) = assign e X.env :: (assignEach es X.env).map (·.2) := by rfl) : SimGs X P (e :: es) (tgCons g gs) :=
  PGs.imp (pgs_cons h1 h2 hs) fun vs σ H Q ⟨G, F, S, S2, st, ts, st', w, d, r, rv, e, k⟩ => by
    cases ts with
    | nil => cases e
    | cons t ts =>
      obtain ⟨v, vr, A, B, h1, h2, h3, h4, h5, h6⟩ := rv
      have e' : (match g t st with
        | some st1 => gs ts st1
        | none => none) = some st' := e
      cases q : g t st with
      | none => rw [q] at e'; cases e'
      | some st1 =>
        rw [q] at e'
        refine ⟨v, vr, h1, G, fun a => F a ∨ B a, S, A, st, t, st1, ?_, fun a z1 z2 => d a z1 (h4 a z2), r, h2, q, fun σ1 S1 w1 r1 k1 => ?_⟩
        · refine ⟨fun a g f => f.elim (w.gf a g) fun z => w.gs a g (.inr (h5 a z)), fun a g s => w.gs a g (s.imp id (h4 a)), fun a f s => ?_, w.dG, fun a f => f.elim (w.dF a) fun z => w.dS a (.inr (h5 a z)), fun a s => w.dS a (s.imp id (h4 a))⟩
          rcases f with f | f
          · exact w.fs a f (s.imp id (h4 a))
          · exact s.elim (fun z => d a z (h5 a f)) fun z => h6 a z f
        · refine ⟨G, F, S1, B, st1, ts, st', w1.back fun a f z => w.fs a f (.inr (h5 a z)), fun a z1 z2 => w1.fs a (.inr z2) z1, r1, h3, e', fun σ2 S2 w2 r2 k2 => k σ2 S2 w2 r2 (k1.trans k2)⟩
theorem sim_gtup {es : List Expr} {k : Nat} {gs : TSs} {n : Nat} (hc : X.calm = true) (h : SimGs X P es gs)
    (hn : (assignEach es X.env).length = n := by rfl) (hst : (assignEach es X.env).findIdx? (·.1) = none := by rfl) (hl : ∀ ts st st', gs ts st = some st' → ts.length = n) : SimG X P (.Tuple es k pos) (tgT gs) :=
  PG.imp (pg_tup hc h hn hst) fun v σ H Q ⟨G, F, S, S2, st, t, st', w, d, r, rv, e, k⟩ => by
    cases t with
    | tup ts =>
      obtain ⟨a, vs, h1, h2, h3⟩ := rv
      have e' : gs ts st = some st' := e
      exact ⟨a, vs, h1, h2.seq, by rw [← rpl_len h3]; exact hl ts st st' e', G, F, S, S2, st, ts, st', w, d, r, h3, e', k⟩
    | _ => cases e
theorem len_nil : ∀ ts st st', tgNil ts st = some st' → ts.length = 0 := fun ts st st' e => by
  cases ts with
  | nil => rfl
  | cons t ts => cases e
theorem len_cons {g : TS'} {gs : TSs} {n : Nat} (h : ∀ ts st st', gs ts st = some st' → ts.length = n) : ∀ ts st st', tgCons g gs ts st = some st' → ts.length = n + 1 := fun ts st st' e => by
  cases ts with
  | nil => cases e
  | cons t ts =>
    have e' : (match g t st with
      | some st1 => gs ts st1
      | none => none) = some st' := e
    cases q : g t st with
    | none => rw [q] at e'; cases e'
    | some st1 =>
      rw [q] at e'
      rw [List.length_cons, h ts st1 st' e']
/-- target = e -/
def sAsg (f : SE) (g : TS') : SS := fun st => (f st).bind fun t st => match g t st with
  | some st1 => .ok .nx st1
  | none => .no
theorem RdS.asg {K : PySem.W.Frag} {Wx : WX} {D : Ends} {σ : St} {H : Hp} {f : SE} {g : TS'} (h : RdS K P Wx (sAsg f g) D σ H) : RdU K Wx (uV f) σ H fun x H1 => RdG K P g x σ H1 fun σ1 H2 => D.nx σ1 H2 := by
  obtain ⟨G, F, S, st, w, r, p⟩ := h
  refine ⟨G, F, S, st, w, r, ?_⟩
  have p1 : PostS K P Wx G F H σ D ((f st).bind fun t st => match g t st with
    | some st1 => .ok .nx st1
    | none => .no) := p
  unfold uV
  cases e : f st with
  | ok t st1 =>
    rw [e] at p1
    have p2 : PostS K P Wx G F H σ D (match g t st1 with
      | some st1 => .ok .nx st1
      | none => .no) := p1
    cases e2 : g t st1 with
    | none => rw [e2] at p2; exact p2.elim
    | some st2 =>
      rw [e2] at p2
      exact fun v H1 G1 S1 S2 x1 w1 d1 r1 a1 => ⟨G1, F, S1, S2, st1, t, st2, w1, d1, r1, a1, e2, fun σ' S' w' r' k' => p2 σ' H1 G1 S' x1 w' r' k'⟩
  | ex x st1 =>
    rw [e] at p1
    exact fun cls d H1 G1 S1 x1 w1 r1 q => p1 cls d σ H1 G1 S1 x1 w1 r1 q Pk.refl
  | no => rw [e] at p1; exact p1
theorem sim_asg {tg e : Expr} {f : SE} {g : TS'} (he : SimE X e f) (hg : SimG X P tg g) (hs : swapsWithSole [tg] e pos.line X.env = pure false := by rfl) (hw : swappedStores [tg] e X.env = pure none := by rfl)
    (h1 : (assignEach [tg] X.env).map (·.2) = [assign tg X.env] := by rfl) : SimS X P (.Assign [tg] e pos) (sAsg f g) := fun Wx tk => PS.imp (ps_asg (he Wx tk) hg hs hw h1) fun D σ H h => RdS.asg h
theorem sim_set {i : Nat} {x : Str} {e : Expr} {f : SE} {pos' : Pos} (hN : X.N.Nodup) (hi : X.N[i]? = some x) (hx : Loc X.env.scope x) (hP : P i = false) (he : SimE X e f) (hs : swapsWith e (some (.Name x pos')) pos.line X.env = pure false := by rfl)
    (hf : X.fn x = true ∨ X.env.scope.names.lookup x = some .local := by first | exact .inl rfl | exact .inr rfl | assumption) : SimS X P (.Assign [.Name x pos'] e pos) (sAsg f (tgN i)) := fun Wx tk =>
  PS.imp (ps_set hN hi hx (he Wx tk) hs hf) fun D σ H h => (RdS.asg h).imp fun v H' ⟨G, F, S, S2, st, t, st', w, d, r, rv, e, k⟩ => by
    cases e
    exact k _ _ w (r.fill rv d) (Pk.set hP)
/-- a, b = e1, e2 -/
def sPar (i j : Nat) (f : SA) : SS := fun st => (f st).bind fun us st => match vsOf us with
  | some [t, u] => .ok .nx ((st.set i (some t)).set j (some u))
  | _ => .no
theorem sim_par {i j : Nat} {x y : Str} {a b : Expr} {f : SA} {px py pt : Pos} {kt k2 pt2} (hc : X.calm = true) (hN : X.N.Nodup) (hi : X.N[i]? = some x) (hj : X.N[j]? = some y) (hij : i ≠ j)
    (hx : X.env.scope.names.lookup x = some .local) (hy : X.env.scope.names.lookup y = some .local) (hPi : P i = false) (hPj : P j = false) (ha : SimA X [a, b] f)
    (hps : ∀ t : TA, PA X [a, b] t → PS X (.Assign [.Tuple [.Name x px, .Name y py] kt pt] (.Tuple [a, b] k2 pt2) pos) (tPar i j t)) : SimS X P (.Assign [.Tuple [.Name x px, .Name y py] kt pt] (.Tuple [a, b] k2 pt2) pos) (sPar i j f) := fun Wx tk =>
  PS.imp (hps _ (ha Wx tk)) fun D σ H ⟨G, F, S, st, w, r, p⟩ => by
    refine ⟨G, F, S, st, w, r, ?_⟩
    have p1 : PostS X.K P Wx G F H σ D ((f st).bind fun us st => match vsOf us with
      | some [t, u] => .ok .nx ((st.set i (some t)).set j (some u))
      | _ => .no) := p
    cases e : f st with
    | ok us st1 =>
      rw [e] at p1
      have p2 : PostS X.K P Wx G F H σ D (match vsOf us with
        | some [t, u] => .ok .nx ((st1.set i (some t)).set j (some u))
        | _ => .no) := p1
      intro vs H1 G1 S1 S2 x1 w1 d1 r1 a1
      cases e2 : vsOf us with
      | none => rw [e2] at p2; exact p2.elim
      | some ts =>
        rw [e2] at p2
        match ts, e2, p2 with
        | [], _, p2 => exact p2.elim
        | [_], _, p2 => exact p2.elim
        | _ :: _ :: _ :: _, _, p2 => exact p2.elim
        | [t, u], e2, p2 =>
          obtain ⟨v, vr, A, B, h1, h2, h3, h4, h5, h6⟩ := vs_rp a1 e2
          obtain ⟨v2, vr2, A2, B2, k1, k2, k3, k4, k5, k6⟩ := h3
          subst h1 k1
          rw [show vr2 = [] from k3]
          refine ⟨v, v2, rfl, ?_⟩
          have q1 := r1.fill (i := i) h2 fun a z1 z2 => d1 a z1 (h4 a z2)
          have q2 := q1.fill (i := j) k2 fun a z1 z2 => z1.elim (fun z => d1 a z (h5 a (k4 a z2))) fun z => h6 a z (k4 a z2)
          refine p2 _ H1 G1 _ x1 (w1.less (fun _ z => z) ?_) q2 ((Pk.set hPi).trans (Pk.set hPj))
          intro a z
          rcases z with (z | z) | z
          · exact .inl z
          · exact .inr (h4 a z)
          · exact .inr (h5 a (k4 a z))
    | ex x st1 =>
      rw [e] at p1
      exact fun cls d H1 G1 S1 x1 w1 r1 q => p1 cls d σ H1 G1 S1 x1 w1 r1 q Pk.refl
    | no => rw [e] at p1; exact p1
/-- name += e, name -= e of ints -/
def sAugI (i : Nat) (g : Int → Int → Int) (f : SE) : SS := fun st => match (st[i]?).join with
  | some (.int a) => (f st).bind fun t st => match t with
    | .int b => .ok .nx (st.set i (some (.int (g a b))))
    | _ => .no
  | _ => .no
theorem sim_aug {i : Nat} {x : Str} {e : Expr} {f : SE} {op : Operator} {g : Int → Int → Int} {pos' : Pos} (hN : X.N.Nodup) (hi : X.N[i]? = some x) (hx : Loc X.env.scope x) (hP : P i = false) (he : SimE X e f) (ho : PIp X op (ipI g))
    (hf : X.fn x = true ∨ X.env.scope.names.lookup x = some .local := by first | exact .inl rfl | exact .inr rfl | assumption) : SimS X P (.AugAssign (.Name x pos') op e pos) (sAugI i g f) := fun Wx tk =>
  PS.imp (ps_aug hN hi hx (he Wx tk) ho hf) fun D σ H ⟨G, F, S, st, w, r, p⟩ => by
    unfold sAugI at p
    cases e0 : (st[i]?).join with
    | none => rw [e0] at p; exact p.elim
    | some t0 =>
      rw [e0] at p
      cases t0 with
      | int a =>
        obtain ⟨v, S1, S2, h1, h2, h3, h4, h5, h6⟩ := r.get (join_some e0)
        have p1 : PostS X.K P Wx G F H σ D ((f st).bind fun t st => match t with
          | .int b => .ok .nx (st.set i (some (.int (g a b))))
          | _ => .no) := p
        refine ⟨v, h1, G, F, S, st, w, r, ?_⟩
        unfold uV
        cases e : f st with
        | ok t st1 =>
          rw [e] at p1
          intro u H1 G1 A B x1 w1 d1 r1 a1
          cases t with
          | int b =>
            refine ⟨a, b, h2, a1, ?_⟩
            have q := r1.fill (i := i) (t := .int (g a b)) (v := .int (g a b)) (S' := NoA) rfl fun _ _ z => z.elim
            exact p1 _ H1 G1 _ x1 (w1.less (fun _ z => z) fun a z => z.elim .inl fun z => z.elim) q (Pk.set hP)
          | _ => exact p1.elim
        | ex x st1 =>
          rw [e] at p1
          exact fun cls d H1 G1 S1 x1 w1 r1 q => p1 cls d σ H1 G1 S1 x1 w1 r1 q Pk.refl
        | no => rw [e] at p1; exact p1
      | _ => exact p.elim
end

/-! ### while -/
def whN (c : ST) (b : SS) : Nat → SS
  | 0 => fun _ => .no
  | n + 1 => fun st => (c st).bind fun k st => if k then
      match b st with
      | .ok .nx st1 => whN c b n st1
      | .ok .ct st1 => whN c b n st1
      | .ok .bk st1 => .ok .nx st1
      | r => r
    else .ok .nx st
open Classical in
/-- the loop, however long it goes -/
def sWh (c : ST) (b : SS) : SS := fun st => if h : ∃ n, whN c b n st ≠ .no then whN c b (choose h) st else .no
theorem whN_succ {c : ST} {b : SS} : ∀ {n : Nat} {st : SL}, whN c b n st ≠ .no → whN c b (n + 1) st = whN c b n st
  | 0, _, h => absurd rfl h
  | n + 1, st, h => by
    have h' : ((c st).bind fun k st => if k = true then
      match b st with
      | .ok .nx st1 => whN c b n st1
      | .ok .ct st1 => whN c b n st1
      | .ok .bk st1 => .ok .nx st1
      | r => r
    else .ok .nx st) ≠ .no := h
    show ((c st).bind fun k st => if k = true then
      match b st with
      | .ok .nx st1 => whN c b (n + 1) st1
      | .ok .ct st1 => whN c b (n + 1) st1
      | .ok .bk st1 => .ok .nx st1
      | r => r
    else .ok .nx st) = ((c st).bind fun k st => if k = true then
      match b st with
      | .ok .nx st1 => whN c b n st1
      | .ok .ct st1 => whN c b n st1
      | .ok .bk st1 => .ok .nx st1
      | r => r
    else .ok .nx st)
    cases e : c st with
    | ex x s => rfl
    | no => rfl
    | ok k s =>
      rw [e] at h'
      cases k with
      | false => rfl
      | true =>
        rw [bind_ok, if_pos rfl] at h'
        rw [bind_ok, bind_ok, if_pos rfl, if_pos rfl]
        cases e2 : b s with
        | ex x s => rfl
        | no => rfl
        | ok f s1 =>
          rw [e2] at h'
          cases f with
          | nx => exact whN_succ h'
          | ct => exact whN_succ h'
          | bk => rfl
          | rt t => rfl
theorem whN_mono {c : ST} {b : SS} {n : Nat} {st : SL} (h : whN c b n st ≠ .no) : ∀ k, whN c b (n + k) st = whN c b n st
  | 0 => rfl
  | k + 1 => by
    have q := whN_mono h k
    have hz : whN c b (n + k) st ≠ .no := by rw [q]; exact h
    have z := whN_succ hz
    show whN c b (n + k + 1) st = whN c b n st
    rw [z, q]
theorem sWh_eq {c : ST} {b : SS} {n : Nat} {st : SL} (h : whN c b n st ≠ .no) : sWh c b st = whN c b n st := by
  have hx : ∃ n, whN c b n st ≠ .no := ⟨n, h⟩
  unfold sWh
  rw [dif_pos hx]
  have h2 := Classical.choose_spec hx
  rcases Nat.le_total n (Classical.choose hx) with l | l
  · obtain ⟨k, e⟩ := Nat.exists_eq_add_of_le l
    have q := whN_mono h k
    rw [← e] at q
    exact q
  · obtain ⟨k, e⟩ := Nat.exists_eq_add_of_le l
    have q := whN_mono h2 k
    rw [← e] at q
    exact q.symm
theorem sim_wh {X : Cx} {P : Nat → Bool} {c : Expr} {body : List Stmt} {t : ST} {f : SS} {pos : Pos} (hp : PassesOwn (model X.prog X.w) X.A X.env X.xe) (hc : SimT X c t) (hb : SimB X P body f) : SimS X P (.While c body [] pos) (sWh t f) := fun Wx tk =>
  PS.imp (ps_while hp (hc Wx tk) (hb Wx tk)) fun D σ H ⟨G, F, S, st, w, r, p⟩ => by
    have hx : ∃ n, whN t f n st ≠ .no := by
      apply Classical.byContradiction
      intro hn
      unfold sWh at p
      rw [dif_neg hn] at p
      exact p
    obtain ⟨n, hn⟩ := hx
    rw [sWh_eq hn] at p
    refine ⟨fun m σ H => RdS X.K P Wx (whN t f m) D σ H, ⟨n, G, F, S, st, w, r, p⟩, fun m σ1 H1 h => ?_⟩
    cases m with
    | zero =>
      obtain ⟨_, _, _, _, _, _, z⟩ := h
      exact z.elim
    | succ m =>
      have h' : RdS X.K P Wx (fun st => (t st).bind fun k => if k = true then fun st =>
          (match f st with
          | .ok .nx st1 => whN t f m st1
          | .ok .ct st1 => whN t f m st1
          | .ok .bk st1 => .ok .nx st1
          | r => r)
        else fun st => .ok .nx st) D σ1 H1 := by
        obtain ⟨G, F, S, st, w, r, p⟩ := h
        refine ⟨G, F, S, st, w, r, ?_⟩
        have p1 : PostS X.K P Wx G F H1 σ1 D ((t st).bind fun k st => if k = true then
          match f st with
          | .ok .nx st1 => whN t f m st1
          | .ok .ct st1 => whN t f m st1
          | .ok .bk st1 => .ok .nx st1
          | r => r
        else .ok .nx st) := p
        show PostS X.K P Wx G F H1 σ1 D ((t st).bind _)
        cases e : t st with
        | ok k s =>
          rw [e] at p1
          cases k with
          | true => exact p1
          | false => exact p1
        | ex x s => rw [e] at p1; exact p1
        | no => rw [e] at p1; exact p1
      refine (RdS.test h').imp fun k H2 q => ?_
      cases k with
      | false =>
        rw [if_neg Bool.false_ne_true] at q ⊢
        exact RdS.done q
      | true =>
        rw [if_pos rfl] at q ⊢
        refine ⟨fun σ H => RdS X.K P Wx (whN t f m) D σ H, fun σ' H' z => ⟨m, Nat.lt_succ_self m, z⟩, ?_⟩
        obtain ⟨G, F, S, st, w, r, p⟩ := q
        refine ⟨G, F, S, st, w, r, ?_⟩
        have p1 : PostS X.K P Wx G F H2 σ1 D (match f st with
          | .ok .nx st1 => whN t f m st1
          | .ok .ct st1 => whN t f m st1
          | .ok .bk st1 => .ok .nx st1
          | r => r) := p
        cases e : f st with
        | ok a st1 =>
          rw [e] at p1
          cases a with
          | nx => exact fun s2 H2 G2 S2 x2 w2 r2 k => ⟨G2, F, S2, st1, w2, r2, PostS.shift x2 k p1⟩
          | ct => exact fun s2 H2 G2 S2 x2 w2 r2 k => ⟨G2, F, S2, st1, w2, r2, PostS.shift x2 k p1⟩
          | bk => exact p1
          | rt t => exact p1
        | ex x st1 => rw [e] at p1; exact p1
        | no => rw [e] at p1; exact p1
end
end Ev

/-! EvFor: what a for walks, for, list comprehensions. -/
namespace Ev
noncomputable section
open PySem L2

/-- J goes through the trees ts, as long as what is frozen stays -/
def ItOk (K : PySem.W.Frag) (G : AS) (H : Hp) (J : It) (ts : List T) : Prop := ∀ H2 : Hp, (∀ a, G a → H2 a = H a) →
  J.stop ts.length H2 ∧ ∀ (i : Nat) (t : T), ts[i]? = some t → J.go i H2 ∧ ∀ x H3, J.yld i H2 x H3 → (∀ a, H2 a ≠ none → H3 a = H2 a) ∧ ∃ N : AS, (∀ a, N a → H2 a = none ∧ H3 a ≠ none) ∧ Rp K (fun a => G a ∨ N a) H3 t x NoA
abbrev SI := SL → R (List T)
def PostI (K : PySem.W.Frag) (Wx : WX) (G F : AS) (H : Hp) (σ : St) (Q : It → Hp → Prop) : R (List T) → Prop
  | .ok ts st => ∀ J H' G' S1, Ext G F H G' H' → Wd G' F S1 H' → StR K G' H' st σ S1 → ItOk K G' H' J ts → frzL ts = true → Q J H'
  | .ex x st => ∀ cls d H' G' S1, Ext G F H G' H' → Wd G' F S1 H' → StR K G' H' st σ S1 → XcR K G' H' x cls d → Wx cls d σ H'
  | .no => False
def RdI (K : PySem.W.Frag) (Wx : WX) (f : SI) : TI := fun σ H Q => ∃ G F S st, Wd G F S H ∧ StR K G H st σ S ∧ PostI K Wx G F H σ Q (f st)
def SimI (X : Cx) (tg e : Expr) (f : SI) : Prop := ∀ Wx, Takes X Wx → PI X tg e (RdI X.K Wx f)
theorem PI.imp {X : Cx} {tg e : Expr} {t t' : TI} (h : PI X tg e t) (i : ∀ σ H Q, t' σ H Q → t σ H Q) : PI X tg e t' := ⟨fun pins s σ H Q I q => h.run pins s σ H Q I (i σ H Q q)⟩

/-- the items of a list, of a tuple, frozen as they stand -/
def itemsOf : T → Option (List T)
  | .lst _ ts => some (fzL ts)
  | .scr ns => some (ns.map .int)
  | _ => none
def itemsTup : T → Option (List T)
  | .tup ts => some (fzL ts)
  | _ => none
/-- an operand frozen for good: its tree, the slots behind it -/
def AV.cool (st : SL) : AV → Option (T × SL)
  | .v t => some (fz t, st)
  | .s i => match (st[i]?).join with
    | some t => some (fz t, st.set i (some (fz t)))
    | none => none
/-- frozen where it stands -/
theorem cool_ok {K : PySem.W.Frag} {G F S1 S2 : AS} {H : Hp} {σ : St} {st st1 : SL} {u : AV} {v : V} {t : T} (w : Wd G F (fun a => S1 a ∨ S2 a) H) (d : ∀ a, S1 a → S2 a → False) (r : StR K G H st σ S1) (a : AvR K G H σ u v S2) (e : u.cool st = some (t, st1)) :
    ∃ G' S', (∀ b, G b → G' b) ∧ Wd G' F S' H ∧ StR K G' H st1 σ S' ∧ Rp K G' H t v NoA ∧ frz t = true := by
  cases u with
  | v t0 =>
    cases e
    refine ⟨fun a => G a ∨ S2 a, S1, fun _ z => .inl z, ⟨fun a g f => g.elim (fun z => w.gf a z f) fun z => w.fs a f (.inr z), fun a g s => g.elim (fun z => w.gs a z (.inl s)) fun z => d a s z, fun a f s => w.fs a f (.inl s), fun a g => g.elim (w.dG a) fun z => w.dS a (.inr z), w.dF, fun a s => w.dS a (.inl s)⟩,
      r.keep (fun _ z => .inl z) fun _ _ => rfl, Rp.fz t0 a (fun _ z => .inr z) fun _ z => .inl z, frz_fz t0⟩
  | s i =>
    have e' : (match (st[i]?).join with
      | some t => some (fz t, st.set i (some (fz t)))
      | none => none) = some (t, st1) := e
    cases q : (st[i]?).join with
    | none => rw [q] at e'; cases e'
    | some t0 =>
      rw [q] at e'
      cases e'
      obtain ⟨v', A, B, h1, h2, h3, h4, h5, h6⟩ := r.get (join_some q)
      have k : σ[i]? = some (some v) := a
      rw [k] at h1
      cases h1
      have rz : Rp K (fun a => G a ∨ A a) H (fz t0) v NoA := Rp.fz t0 h2 (fun _ z => .inr z) fun _ z => .inl z
      refine ⟨fun a => G a ∨ A a, B, fun _ z => .inl z, ⟨fun a g f => g.elim (fun z => w.gf a z f) fun z => w.fs a f (.inl (h3 a z)), fun a g s => g.elim (fun z => w.gs a z (.inl (h4 a s))) fun z => h5 a z s, fun a f s => w.fs a f (.inl (h4 a s)), fun a g => g.elim (w.dG a) fun z => w.dS a (.inl (h3 a z)), w.dF, fun a s => w.dS a (.inl (h4 a s))⟩, ?_, rz, frz_fz t0⟩
      have z := StR.fit (i := i) (h6.keep (G' := fun a => G a ∨ A a) (fun _ z => .inl z) fun _ _ => rfl) k rz (fun _ _ z => z.elim)
      rw [set_some_none] at z
      exact z.mono fun a z => z.elim id fun z => z.elim
def iOf (p : T → Option (List T)) (f : SU) : SI := fun st => (f st).bind fun u st => match u.cool st with
  | some (t, st1) => match p t with
    | some ts => .ok ts st1
    | none => .no
  | none => .no
theorem items_core {K : PySem.W.Frag} {Wx : WX} {σ : St} {H : Hp} {f : SU} {p : T → Option (List T)} {R : It → Hp → Prop} (h : RdI K Wx (iOf p f) σ H R) : RdU K Wx f σ H fun v H1 =>
    ∃ G F S t ts, Wd G F S H1 ∧ Rp K G H1 t v NoA ∧ frz t = true ∧ p t = some ts ∧ ∀ J, ItOk K G H1 J ts → frzL ts = true → R J H1 := by
  obtain ⟨G, F, S, st, w, r, ps⟩ := h
  unfold iOf at ps
  refine step_u w r (fun u st1 e1 v H1 G1 S1 S2 x1 w1 d1 r1 a1 => ?_) (fun x st1 e1 => ?_) (fun e1 => ?_)
  · rw [e1] at ps
    have p1 : PostI K Wx G F H σ R (match u.cool st1 with
      | some (t, st1) => match p t with
        | some ts => .ok ts st1
        | none => .no
      | none => .no) := ps
    cases e2 : u.cool st1 with
    | none => rw [e2] at p1; exact p1.elim
    | some q =>
      obtain ⟨t, st2⟩ := q
      rw [e2] at p1
      have p2 : PostI K Wx G F H σ R (match p t with
        | some ts => .ok ts st2
        | none => .no) := p1
      obtain ⟨G2, S', g1, w2, r2, rv, fv⟩ := cool_ok w1 d1 r1 a1 e2
      cases e3 : p t with
      | none => rw [e3] at p2; exact p2.elim
      | some ts =>
        rw [e3] at p2
        exact ⟨G2, F, S', t, ts, w2, rv, fv, e3, fun J j fj => p2 J H1 G2 S' ⟨fun a z => g1 a (x1.sub a z), x1.keep⟩ w2 r2 j fj⟩
  · rw [e1] at ps; exact ps
  · rw [e1] at ps; exact ps
theorem frzL_ints : ∀ ns : List Int, frzL (ns.map .int) = true
  | [] => rfl
  | n :: ns => frzL_ints ns
theorem cl_ints {K : PySem.W.Frag} {G : AS} {H : Hp} : ∀ ns : List Int, Cl K G H (ns.map .int) (ns.map V.int)
  | [] => .nil
  | n :: ns => .cons rfl (cl_ints ns)
/-- a list's items -/
theorem list_items {K : PySem.W.Frag} {G F S : AS} {H : Hp} {t : T} {v : V} {ts : List T} (w : Wd G F S H) (r : Rp K G H t v NoA) (f : frz t = true) (e : itemsOf t = some ts) :
    ∃ a vs, v = .ref a ∧ Cl K G H ts vs ∧ frzL ts = true ∧ ∀ H2 : Hp, (∀ b, G b → H2 b = H b) → SqL K H2 a vs := by
  cases t with
  | lst o us =>
    cases e
    cases o with
    | true => cases f
    | false =>
      obtain ⟨a, vs, h1, h2, h3⟩ := r
      have f' : frzL us = true := f
      rw [fzL_frz f']
      exact ⟨a, vs, h1, cl_of f' h3, f', fun H2 k => .of ((k a h2.1).trans h2.2)⟩
  | scr ns =>
    cases e
    obtain ⟨a, h1, h2⟩ := r
    exact ⟨a, _, h1, cl_ints ns, frzL_ints ns, fun H2 k => (h2.keep id (k a) : ScrA K G H2 a ns).seq⟩
  | _ => cases e
theorem tup_items {K : PySem.W.Frag} {G F S : AS} {H : Hp} {t : T} {v : V} {ts : List T} (w : Wd G F S H) (r : Rp K G H t v NoA) (f : frz t = true) (e : itemsTup t = some ts) :
    ∃ a vs, v = .ref a ∧ Cl K G H ts vs ∧ frzL ts = true ∧ ∀ H2 : Hp, (∀ b, G b → H2 b = H b) → SqT K H2 a vs := by
  cases t with
  | tup us =>
    cases e
    obtain ⟨a, vs, h1, h2, h3⟩ := r
    have f' : frzL us = true := f
    rw [fzL_frz f']
    exact ⟨a, vs, h1, cl_of f' h3, f', fun H2 k => (h2.keep id fun g => k a g : TupA K G H2 a vs).seq⟩
  | _ => cases e
theorem Cl.some {K : PySem.W.Frag} {G : AS} {H H2 : Hp} {ts : List T} {vs : List V} (c : Cl K G H ts vs) (k : ∀ b, G b → H2 b = H b) {i : Nat} {t : T} (e : ts[i]? = some t) : ∃ x, vs[i]? = some x ∧ Rp K (fun a => G a ∨ NoA a) H2 t x NoA := by
  obtain ⟨x, h1, h2⟩ := pr_get c e
  exact ⟨x, h1, Rp.keep t h2 (fun _ z => .inl z) fun a z => z.elim (k a) fun z => z.elim⟩
theorem it_list {K : PySem.W.Frag} {G : AS} {H : Hp} {ts : List T} {vs : List V} {a : Addr} (c : Cl K G H ts vs) (s : ∀ H2 : Hp, (∀ b, G b → H2 b = H b) → SqL K H2 a vs) : ItOk K G H (Itl K a) ts := fun H2 k => by
  have s2 := s H2 k
  refine ⟨⟨vs, s2, by rw [c.length]; exact Nat.le_refl _⟩, fun i t e => ?_⟩
  obtain ⟨x, h1, h2⟩ := c.some k e
  refine ⟨⟨vs, x, s2, h1⟩, fun y H3 q => ?_⟩
  obtain ⟨rfl, q2⟩ := q
  have e2 := q2 vs s2
  rw [h1] at e2
  cases e2
  exact ⟨fun _ _ => rfl, NoA, fun _ z => z.elim, h2⟩
theorem it_tup {K : PySem.W.Frag} {G : AS} {H : Hp} {ts : List T} {vs : List V} {a : Addr} (c : Cl K G H ts vs) (s : ∀ H2 : Hp, (∀ b, G b → H2 b = H b) → SqT K H2 a vs) : ItOk K G H (Itt K a) ts := fun H2 k => by
  have s2 := s H2 k
  refine ⟨⟨vs, s2, by rw [c.length]; exact Nat.le_refl _⟩, fun i t e => ?_⟩
  obtain ⟨x, h1, h2⟩ := c.some k e
  refine ⟨⟨vs, x, s2, h1⟩, fun y H3 q => ?_⟩
  obtain ⟨rfl, q2⟩ := q
  have e2 := q2 vs s2
  rw [h1] at e2
  cases e2
  exact ⟨fun _ _ => rfl, NoA, fun _ z => z.elim, h2⟩
theorem sim_ilist {X : Cx} {tg l : Expr} {f : SU} (h : SimU X l f) : SimI X tg l (iOf itemsOf f) := fun Wx tk => PI.imp (pi_list (h Wx tk)) fun σ H R q =>
  (items_core q).imp fun v H1 ⟨G, F, S, t, ts, w, r, fr, e, k⟩ => by
    obtain ⟨a, vs, h1, c, fl, s⟩ := list_items w r fr e
    exact ⟨a, h1, ⟨vs, s H1 fun _ _ => rfl⟩, k _ (it_list c s) fl⟩
theorem sim_ituple {X : Cx} {tg l : Expr} {f : SU} (h : SimU X l f) : SimI X tg l (iOf itemsTup f) := fun Wx tk => PI.imp (pi_tup (h Wx tk)) fun σ H R q =>
  (items_core q).imp fun v H1 ⟨G, F, S, t, ts, w, r, fr, e, k⟩ => by
    obtain ⟨a, vs, h1, c, fl, s⟩ := tup_items w r fr e
    exact ⟨a, h1, ⟨vs, s H1 fun _ _ => rfl⟩, k _ (it_tup c s) fl⟩

/-! ### range -/
/-- lo, lo + 1, .. below hi -/
def rgI (lo hi : Int) : List Int := (List.range (hi - lo).toNat).map fun i => lo + (i : Nat)
def iInts (p : List T → Option (List Int)) (f : SA) : SI := fun st => (f st).bind fun us st => match vsOf us with
  | some ts => match p ts with
    | some ns => .ok (ns.map .int) st
    | none => .no
  | none => .no
def rg1 : List T → Option (List Int)
  | [.int j] => if leC (-(2 ^ 62)) j && ltC j (2 ^ 62) then some (rgI 0 j) else none
  | _ => none
def rg2 : List T → Option (List Int)
  | [.int i, .int j] => if (leC (-(2 ^ 62)) i && ltC i (2 ^ 62)) && (leC (-(2 ^ 62)) j && ltC j (2 ^ 62)) then some (rgI i j) else none
  | _ => none
theorem ints_core {K : PySem.W.Frag} {Wx : WX} {σ : St} {H : Hp} {f : SA} {p : List T → Option (List Int)} {R : It → Hp → Prop} (h : RdI K Wx (iInts p f) σ H R) : RdA K Wx f σ H fun vs H1 =>
    ∃ ts ns S G, RpL K G H1 ts vs S ∧ p ts = some ns ∧ ∀ J, (∀ G : AS, ItOk K G H1 J (ns.map .int)) → R J H1 := by
  obtain ⟨G, F, S, st, w, rs, ps⟩ := h
  refine ⟨G, F, S, st, w, rs, ?_⟩
  have ps : PostI K Wx G F H σ R ((f st).bind fun us st => match vsOf us with
    | some ts => match p ts with
      | some ns => .ok (ns.map .int) st
      | none => .no
    | none => .no) := ps
  cases e : f st with
  | ok us st1 =>
    rw [e] at ps
    intro vs H1 G1 S1 S2 x1 w1 d1 r1 a1
    have ps1 : PostI K Wx G F H σ R (match vsOf us with
      | some ts => match p ts with
        | some ns => .ok (ns.map .int) st1
        | none => .no
      | none => .no) := ps
    cases e2 : vsOf us with
    | none => rw [e2] at ps1; exact ps1.elim
    | some ts =>
      rw [e2] at ps1
      have ps2 : PostI K Wx G F H σ R (match p ts with
        | some ns => .ok (ns.map .int) st1
        | none => .no) := ps1
      cases e3 : p ts with
      | none => rw [e3] at ps2; exact ps2.elim
      | some ns =>
        rw [e3] at ps2
        exact ⟨ts, ns, S2, G1, vs_rp a1 e2, e3, fun J j => ps2 J H1 G1 S1 x1 (w1.less (fun _ z => z) fun _ z => .inl z) r1 (j G1) (frzL_ints ns)⟩
  | ex x st1 => rw [e] at ps; exact ps
  | no => rw [e] at ps; exact ps
theorem RdA.imp {K : PySem.W.Frag} {Wx : WX} {f : SA} {σ : St} {H : Hp} {Q Q' : List V → Hp → Prop} (h : RdA K Wx f σ H Q) (i : ∀ v H', Q v H' → Q' v H') : RdA K Wx f σ H Q' := by
    obtain ⟨G, F, S, st, w, r, p⟩ := h
    refine ⟨G, F, S, st, w, r, ?_⟩
    cases e : f st with
    | ok u st1 =>
      rw [e] at p
      exact fun v H1 G1 S1 S2 x1 w1 d1 r1 a1 => i _ _ (p v H1 G1 S1 S2 x1 w1 d1 r1 a1)
    | ex x st1 => rw [e] at p; exact p
    | no => rw [e] at p; exact p
theorem rgI_get {lo hi : Int} {i : Nat} {t : T} (e : ((rgI lo hi).map T.int)[i]? = some t) : i < (hi - lo).toNat ∧ t = .int (lo + (i : Nat)) := by
  unfold rgI at e
  rw [List.map_map, List.getElem?_map] at e
  cases q : (List.range (hi - lo).toNat)[i]? with
  | none => rw [q] at e; cases e
  | some k =>
    rw [q] at e
    obtain ⟨hl, hk⟩ := List.getElem?_eq_some_iff.mp q
    rw [List.getElem_range] at hk
    rw [List.length_range] at hl
    subst hk
    exact ⟨hl, (Option.some.inj e).symm⟩
theorem it_range {K : PySem.W.Frag} {G : AS} {H : Hp} {lo hi : Int} : ItOk K G H (Itr lo (hi - lo).toNat) ((rgI lo hi).map .int) := fun H2 k => by
  refine ⟨by show (hi - lo).toNat ≤ _; unfold rgI; rw [List.length_map, List.length_map, List.length_range]; exact Nat.le_refl _, fun i t e => ?_⟩
  obtain ⟨h1, rfl⟩ := rgI_get e
  exact ⟨h1, fun x H3 q => by
    obtain ⟨rfl, rfl⟩ := q
    exact ⟨fun _ _ => rfl, NoA, fun _ z => z.elim, rfl⟩⟩
theorem sim_irg1 {X : Cx} {tg a : Expr} {p pos : Pos} {f : SA} (hg : Gl X "range") (hm : X.mg "range" = none) (ha : SimA X [a] f) (hs : starEach [a] X.env = [(false, eval a X.env)] := by rfl) : SimI X tg (.Call (.Name "range" p) [a] [] pos) (iInts rg1 f) := fun Wx tk =>
  PI.imp (pi_range1 hg hm (ha Wx tk) hs) fun σ H R q => by
    refine RdA.imp (ints_core q) fun vs H1 ⟨ts, ns, S, G, r, e, k⟩ => ?_
    unfold rg1 at e
    split at e
    · rename_i j
      split at e
      · rename_i hc
        cases e
        obtain ⟨c1, c2⟩ := Bool.and_eq_true_iff.mp hc
        obtain ⟨v, vr, A, B, h1, h2, h3, _⟩ := r
        rw [h1, show vr = [] from h3, show v = .int j from h2]
        refine ⟨j, rfl, of_leC c1, of_ltC c2, ?_⟩
        have z := k (Itr 0 (j - 0).toNat) fun G => it_range
        rw [Int.sub_zero] at z
        exact z
      · cases e
    · cases e
theorem sim_irg2 {X : Cx} {tg a b : Expr} {p pos : Pos} {f : SA} (hg : Gl X "range") (hm : X.mg "range" = none) (ha : SimA X [a, b] f) (hs : starEach [a, b] X.env = [(false, eval a X.env), (false, eval b X.env)] := by rfl) (hs2 : starEach [b] X.env = [(false, eval b X.env)] := by rfl) :
    SimI X tg (.Call (.Name "range" p) [a, b] [] pos) (iInts rg2 f) := fun Wx tk =>
  PI.imp (pi_range2 hg hm (ha Wx tk) hs hs2) fun σ H R q => by
    refine RdA.imp (ints_core q) fun vs H1 ⟨ts, ns, S, G, r, e, k⟩ => ?_
    unfold rg2 at e
    split at e
    · rename_i i j
      split at e
      · rename_i hc
        cases e
        obtain ⟨c1, c2⟩ := Bool.and_eq_true_iff.mp hc
        obtain ⟨c3, c4⟩ := Bool.and_eq_true_iff.mp c1
        obtain ⟨c5, c6⟩ := Bool.and_eq_true_iff.mp c2
        obtain ⟨v, vr, A, B, h1, h2, h3, _⟩ := r
        obtain ⟨v2, vr2, A2, B2, k1, k2, k3, _⟩ := h3
        rw [h1, k1, show vr2 = [] from k3, show v = .int i from h2, show v2 = .int j from k2]
        exact ⟨i, j, rfl, ⟨of_leC c3, of_ltC c4, of_leC c5, of_ltC c6⟩, k _ fun G => it_range⟩
      · cases e
    · cases e

/-! ### enumerate of a list, zip of two -/
def enT : Nat → List T → List T
  | _, [] => []
  | n, t :: ts => .tup [.int (n : Nat), t] :: enT (n + 1) ts
theorem enT_get : ∀ {ts : List T} {n i : Nat} {t : T}, (enT n ts)[i]? = some t → ∃ u, ts[i]? = some u ∧ t = .tup [.int ((n + i : Nat)), u]
  | [], _, _, _, e => by simp [enT] at e
  | u :: ts, n, 0, t, e => by
    have e' : some (T.tup [.int (n : Nat), u]) = some t := e
    cases e'
    exact ⟨u, rfl, rfl⟩
  | u :: ts, n, i + 1, t, e => by
    obtain ⟨z, h1, h2⟩ := enT_get (ts := ts) (n := n + 1) (i := i) (by simpa [enT] using e)
    refine ⟨z, by simpa using h1, ?_⟩
    rw [h2]
    have : n + 1 + i = n + (i + 1) := by omega
    rw [this]
theorem enT_length : ∀ (ts : List T) (n : Nat), (enT n ts).length = ts.length
  | [], _ => rfl
  | _ :: ts, n => congrArg Nat.succ (enT_length ts (n + 1))
theorem frzL_enT : ∀ {ts : List T} (n : Nat), frzL ts = true → frzL (enT n ts) = true
  | [], _, _ => rfl
  | t :: ts, n, f => by
    obtain ⟨f1, f2⟩ := Bool.and_eq_true_iff.mp (show (frz t && frzL ts) = true from f)
    show (frz (.tup [.int (n : Nat), t]) && frzL (enT (n + 1) ts)) = true
    rw [frzL_enT (n + 1) f2, Bool.and_true]
    show (true && (frz t && true)) = true
    rw [f1]
    rfl
def enumOf (t : T) : Option (List T) := (itemsOf t).map (enT 0)
/-- a new pair of what stands -/
theorem rp_pair {K : PySem.W.Frag} {G : AS} {H2 : Hp} {t u : T} {x y : V} {p : Addr} (dG : ∀ a, G a → H2 a ≠ none) (np : H2 p = none) (r1 : Rp K (fun a => G a ∨ NoA a) H2 t x NoA) (r2 : Rp K (fun a => G a ∨ NoA a) H2 u y NoA) :
    (∀ a, H2 a ≠ none → upd H2 p (.tup [x, y]) a = H2 a) ∧ ∃ N : AS, (∀ a, N a → H2 a = none ∧ upd H2 p (.tup [x, y]) a ≠ none) ∧ Rp K (fun a => G a ∨ N a) (upd H2 p (.tup [x, y])) (.tup [t, u]) (.ref p) NoA := by
  have kp : ∀ a, (G a ∨ NoA a) ∨ NoA a → upd H2 p (.tup [x, y]) a = H2 a := fun a z => upd_ne fun e => by
    subst e
    rcases z with (z | z) | z
    · exact dG _ z np
    · exact z.elim
    · exact z.elim
  refine ⟨fun a h => upd_ne fun e => h (by rw [e]; exact np), fun a => a = p, fun a e => by rw [e]; exact ⟨np, by rw [upd_same]; exact Option.some_ne_none _⟩, p, [x, y], rfl, .inl ⟨.inr rfl, upd_same⟩, ?_⟩
  exact ⟨x, [y], NoA, NoA, rfl, Rp.keep t r1 (fun _ z => z.imp id fun z => z.elim) kp, ⟨y, [], NoA, NoA, rfl, Rp.keep u r2 (fun _ z => z.imp id fun z => z.elim) kp, rfl, fun _ z => z.elim, fun _ z => z.elim, fun _ z => z.elim⟩, fun _ z => z.elim, fun _ z => z.elim, fun _ z => z.elim⟩
theorem sim_ienum {X : Cx} {l : Expr} {f : SU} {p pos tpos : Pos} {elts : List Expr} {kk : Nat} (hg : Gl X "enumerate") (hm : X.mg "enumerate" = none) (h : SimU X l f) (hs : starEach [l] X.env = [(false, eval l X.env)] := by rfl) (hs' : starEach [l] X.env = (false, eval l X.env) :: starEach [] X.env := by rfl) :
    SimI X (.Tuple elts kk tpos) (.Call (.Name "enumerate" p) [l] [] pos) (iOf enumOf f) := fun Wx tk =>
  PI.imp (pi_enum hg hm (pa_cons (h Wx tk) pa_nil hs') hs) fun σ H R q =>
  (items_core q).imp fun v H1 ⟨G, F, S, t, us, w, r, fr, e, k⟩ => by
    unfold enumOf at e
    cases e0 : itemsOf t with
    | none => rw [e0] at e; cases e
    | some ts =>
      rw [e0] at e
      cases e
      obtain ⟨a, vs, h1, c, fl, s⟩ := list_items w r fr e0
      refine ⟨a, vs, by rw [h1], s H1 fun _ _ => rfl, k _ (fun H2 kk => ?_) (frzL_enT 0 fl)⟩
      have s2 := s H2 kk
      refine ⟨⟨vs, s2, by rw [enT_length, c.length]; exact Nat.le_refl _⟩, fun i t e => ?_⟩
      obtain ⟨u, e1, rfl⟩ := enT_get e
      obtain ⟨x, g1, g2⟩ := c.some kk e1
      refine ⟨⟨vs, x, s2, g1⟩, fun y H3 q => ?_⟩
      obtain ⟨p, x2, rfl, np, rfl, q2⟩ := q
      have e2 := q2 vs s2
      rw [g1] at e2
      cases e2
      rw [Nat.zero_add]
      exact rp_pair (fun a g => by rw [kk a g]; exact w.dG a g) np rfl g2
def zipT : List T → List T → List T
  | t :: ts, u :: us => .tup [t, u] :: zipT ts us
  | _, _ => []
theorem zipT_get : ∀ {ts us : List T} {i : Nat} {t : T}, (zipT ts us)[i]? = some t → ∃ x y, ts[i]? = some x ∧ us[i]? = some y ∧ t = .tup [x, y]
  | [], us, _, _, e => by simp [zipT] at e
  | _ :: _, [], _, _, e => by simp [zipT] at e
  | x :: ts, y :: us, 0, t, e => by
    have e' : some (T.tup [x, y]) = some t := e
    cases e'
    exact ⟨x, y, rfl, rfl, rfl⟩
  | x :: ts, y :: us, i + 1, t, e => by
    obtain ⟨a, b, h1, h2, h3⟩ := zipT_get (ts := ts) (us := us) (i := i) (by simpa [zipT] using e)
    exact ⟨a, b, by simpa using h1, by simpa using h2, h3⟩
theorem zipT_length : ∀ (ts us : List T), (zipT ts us).length = min ts.length us.length
  | [], us => by simp [zipT]
  | _ :: _, [] => by simp [zipT]
  | _ :: ts, _ :: us => by
    show (zipT ts us).length + 1 = _
    rw [zipT_length ts us, List.length_cons, List.length_cons]
    omega
theorem frzL_zipT : ∀ {ts us : List T}, frzL ts = true → frzL us = true → frzL (zipT ts us) = true
  | [], us, _, _ => rfl
  | _ :: _, [], _, _ => rfl
  | t :: ts, u :: us, f, g => by
    obtain ⟨f1, f2⟩ := Bool.and_eq_true_iff.mp (show (frz t && frzL ts) = true from f)
    obtain ⟨g1, g2⟩ := Bool.and_eq_true_iff.mp (show (frz u && frzL us) = true from g)
    show (frz (.tup [t, u]) && frzL (zipT ts us)) = true
    rw [frzL_zipT f2 g2, Bool.and_true]
    show (frz t && (frz u && true)) = true
    rw [f1, g1]
    rfl
end
end Ev

/-! EvLoop: for, list comprehensions, zip. -/
namespace Ev
noncomputable section
open PySem L2

theorem sim_izip {X : Cx} {l r : Expr} {f g : SE} {p pos tpos : Pos} {elts : List Expr} {kk : Nat} {pa : T → Option (List T)} (hg : Gl X "zip") (hm : X.mg "zip" = none) (h1 : SimE X l f) (h2 : SimE X r g)
    (hpa : (pa = itemsOf) ∨ (pa = itemsTup)) (hs : starEach [l, r] X.env = (false, eval l X.env) :: starEach [r] X.env := by rfl) (hs2 : starEach [r] X.env = (false, eval r X.env) :: starEach [] X.env := by rfl) (hpl : (backTo pos (starEach [r] X.env)).any (·.1) = false := by rfl) :
    SimI X (.Tuple elts kk tpos) (.Call (.Name "zip" p) [l, r] [] pos) (fun st => (aCons (uV f) (aCons (uV g) aNil) st).bind fun us st => match vsOf us with
      | some [t, u] => if frz t && frz u then match pa t, pa u with
        | some ts, some us => .ok (zipT ts us) st
        | _, _ => .no
        else .no
      | _ => .no) := fun Wx tk =>
  PI.imp (RZ.pi_zipA hg hm (pa_cons (h1 Wx tk) (pa_cons (h2 Wx tk) pa_nil hs2) hs) hs hpl) fun σ H R ⟨G, F, S, st, w, rs, ps⟩ => by
    suffices q : RdA X.K Wx (aCons (uV f) (aCons (uV g) aNil)) σ H (fun vs H1 => ∃ (a b : Addr) (xs ys : List V), vs = [.ref a, .ref b] ∧ ((SqL X.K H1 a xs ∧ SqL X.K H1 b ys ∧ R (Itz X.K a b) H1) ∨ (SqT X.K H1 a xs ∧ SqT X.K H1 b ys ∧ R (RZ.ItzT X.K a b) H1))) from
      (cons_core q).imp fun v H1 q => (cons_core q).imp fun v2 H2 q2 => nil_core (Q := fun xs H2 => ∃ (a b : Addr) (xs' ys : List V), v :: v2 :: xs = [.ref a, .ref b] ∧ ((SqL X.K H2 a xs' ∧ SqL X.K H2 b ys ∧ R (Itz X.K a b) H2) ∨ (SqT X.K H2 a xs' ∧ SqT X.K H2 b ys ∧ R (RZ.ItzT X.K a b) H2))) q2
    refine ⟨G, F, S, st, w, rs, ?_⟩
    cases e : aCons (uV f) (aCons (uV g) aNil) st with
    | ok us st1 =>
      have ps1 : PostI X.K Wx G F H σ R ((aCons (uV f) (aCons (uV g) aNil) st).bind fun us st => match vsOf us with
        | some [t, u] => if frz t && frz u then match pa t, pa u with
          | some ts, some us => .ok (zipT ts us) st
          | _, _ => .no
          else .no
        | _ => .no) := ps
      rw [e] at ps1
      intro vs H1 G1 S1 S2 x1 w1 d1 r1 a1
      have ps2 : PostI X.K Wx G F H σ R (match vsOf us with
        | some [t, u] => if frz t && frz u then match pa t, pa u with
          | some ts, some us => .ok (zipT ts us) st1
          | _, _ => .no
          else .no
        | _ => .no) := ps1
      cases e2 : vsOf us with
      | none => rw [e2] at ps2; exact ps2.elim
      | some ts =>
        rw [e2] at ps2
        match ts, e2, ps2 with
        | [], _, p2 => exact p2.elim
        | [_], _, p2 => exact p2.elim
        | _ :: _ :: _ :: _, _, p2 => exact p2.elim
        | [t, u], e2, p2 =>
          have p3 : PostI X.K Wx G F H σ R (if (frz t && frz u) = true then match pa t, pa u with
            | some ts, some us => .ok (zipT ts us) st1
            | _, _ => .no
            else .no) := p2
          by_cases hf : (frz t && frz u) = true
          · rw [if_pos hf] at p3
            obtain ⟨f1, f2⟩ := Bool.and_eq_true_iff.mp hf
            obtain ⟨v, vr, A, B, g1, g2, g3, g4, g5, g6⟩ := vs_rp a1 e2
            obtain ⟨v2, vr2, A2, B2, k1, k2, k3, k4, k5, k6⟩ := g3
            have r1' := Rp.cold t NoA f1 g2
            have r2' := Rp.cold u NoA f2 k2
            cases q1 : pa t with
            | none => rw [q1] at p3; exact p3.elim
            | some xs =>
              cases q2 : pa u with
              | none => rw [q1, q2] at p3; exact p3.elim
              | some ys =>
                rw [q1, q2] at p3
                rw [g1, k1, show vr2 = [] from k3]
                have fin : ∀ (J : It) (vx vy : List V), Cl X.K G1 H1 xs vx → Cl X.K G1 H1 ys vy → frzL xs = true → frzL ys = true → (∀ H2 : Hp, (∀ b, G1 b → H2 b = H1 b) → J.stop (min xs.length ys.length) H2 ∧ ∀ (i : Nat) (x y : V), vx[i]? = some x → vy[i]? = some y → J.go i H2 ∧ ∀ z H3, J.yld i H2 z H3 → ∃ p, z = .ref p ∧ H2 p = none ∧ H3 = upd H2 p (.tup [x, y])) → R J H1 := fun J vx vy cx cy fx fy hj => by
                  refine p3 J H1 G1 S1 x1 (w1.less (fun _ z => z) fun _ z => .inl z) r1 (fun H2 kk => ?_) (frzL_zipT fx fy)
                  obtain ⟨j1, j2⟩ := hj H2 kk
                  refine ⟨by rw [zipT_length]; exact j1, fun i t e => ?_⟩
                  obtain ⟨x, y, e1, e2, rfl⟩ := zipT_get e
                  obtain ⟨a, a1, a2⟩ := cx.some kk e1
                  obtain ⟨b, b1, b2⟩ := cy.some kk e2
                  obtain ⟨j3, j4⟩ := j2 i a b a1 b1
                  refine ⟨j3, fun z H3 q => ?_⟩
                  obtain ⟨p, rfl, np, rfl⟩ := j4 z H3 q
                  exact rp_pair (fun a g => by rw [kk a g]; exact w1.dG a g) np a2 b2
                rcases hpa with hpa | hpa
                · subst hpa
                  obtain ⟨a, vx, m1, cx, fx, sx⟩ := list_items (S := S1) (F := F) (w1.less (fun _ z => z) fun _ z => .inl z) r1' f1 q1
                  obtain ⟨b, vy, m2, cy, fy, sy⟩ := list_items (S := S1) (F := F) (w1.less (fun _ z => z) fun _ z => .inl z) r2' f2 q2
                  refine ⟨a, b, vx, vy, by rw [m1, m2], .inl ⟨sx H1 fun _ _ => rfl, sy H1 fun _ _ => rfl, fin _ vx vy cx cy fx fy fun H2 kk => ⟨⟨vx, vy, sx H2 kk, sy H2 kk, by rw [cx.length, cy.length]; omega⟩, fun i x y h1 h2 => ⟨⟨vx, vy, x, y, sx H2 kk, sy H2 kk, h1, h2⟩, fun z H3 q => ?_⟩⟩⟩⟩
                  obtain ⟨p, x', y', z1, z2, z3, z4, z5⟩ := q
                  have e1 := z4 vx (sx H2 kk)
                  have e2 := z5 vy (sy H2 kk)
                  rw [h1] at e1
                  rw [h2] at e2
                  cases e1
                  cases e2
                  exact ⟨p, z1, z2, z3⟩
                · subst hpa
                  obtain ⟨a, vx, m1, cx, fx, sx⟩ := tup_items (S := S1) (F := F) (w1.less (fun _ z => z) fun _ z => .inl z) r1' f1 q1
                  obtain ⟨b, vy, m2, cy, fy, sy⟩ := tup_items (S := S1) (F := F) (w1.less (fun _ z => z) fun _ z => .inl z) r2' f2 q2
                  refine ⟨a, b, vx, vy, by rw [m1, m2], .inr ⟨sx H1 fun _ _ => rfl, sy H1 fun _ _ => rfl, fin _ vx vy cx cy fx fy fun H2 kk => ⟨⟨vx, vy, sx H2 kk, sy H2 kk, by rw [cx.length, cy.length]; omega⟩, fun i x y h1 h2 => ⟨⟨vx, vy, x, y, sx H2 kk, sy H2 kk, h1, h2⟩, fun z H3 q => ?_⟩⟩⟩⟩
                  obtain ⟨p, x', y', z1, z2, z3, z4, z5⟩ := q
                  have e1 := z4 vx (sx H2 kk)
                  have e2 := z5 vy (sy H2 kk)
                  rw [h1] at e1
                  rw [h2] at e2
                  cases e1
                  cases e2
                  exact ⟨p, z1, z2, z3⟩
          · rw [if_neg hf] at p3; exact p3.elim
    | ex x st1 =>
      have ps1 : PostI X.K Wx G F H σ R ((aCons (uV f) (aCons (uV g) aNil) st).bind fun us st => match vsOf us with
        | some [t, u] => if frz t && frz u then match pa t, pa u with
          | some ts, some us => .ok (zipT ts us) st
          | _, _ => .no
          else .no
        | _ => .no) := ps
      rw [e] at ps1
      exact ps1
    | no =>
      have ps1 : PostI X.K Wx G F H σ R ((aCons (uV f) (aCons (uV g) aNil) st).bind fun us st => match vsOf us with
        | some [t, u] => if frz t && frz u then match pa t, pa u with
          | some ts, some us => .ok (zipT ts us) st
          | _, _ => .no
          else .no
        | _ => .no) := ps
      rw [e] at ps1
      exact ps1

/-! ### for -/
def forL (g : TS') (b : SS) : List T → SS
  | [] => sNext
  | t :: ts => fun st => match g t st with
    | none => .no
    | some st1 => match b st1 with
      | .ok .nx st2 => forL g b ts st2
      | .ok .ct st2 => forL g b ts st2
      | .ok .bk st2 => .ok .nx st2
      | r => r
def sFor (f : SI) (g : TS') (b : SS) : SS := fun st => (f st).bind fun ts st => forL g b ts st
theorem drop_get {α : Type} {l : List α} {i : Nat} {x : α} (h : l[i]? = some x) : l.drop i = x :: l.drop (i + 1) := by
  obtain ⟨hl, he⟩ := List.getElem?_eq_some_iff.mp h
  rw [← he]
  exact List.drop_eq_getElem_cons hl
theorem sim_for {X : Cx} {P : Nat → Bool} {tg iter : Expr} {body : List Stmt} {f : SI} {g : TS'} {b : SS} {pos : Pos} (hp : PassesOwn (model X.prog X.w) X.A X.env X.xe) (hc : X.calm = true) (hi : SimI X tg iter f) (hg : SimG X P tg g) (hb : SimB X P body b)
    (hs : ∀ x, foldedSetIterable iter X.env x = pure x := by intro _; rfl) : SimS X P (.For tg iter body [] pos) (sFor f g b) := fun Wx tk =>
  PS.imp (ps_for hp hc (hi Wx tk) hg (hb Wx tk) hs) fun D σ H ⟨G, F, S, st, w, r, p⟩ => by
    have p0 : PostS X.K P Wx G F H σ D ((f st).bind fun ts st => forL g b ts st) := p
    refine ⟨G, F, S, st, w, r, ?_⟩
    cases e : f st with
    | ex x st1 =>
      rw [e] at p0
      exact fun cls d H1 G1 S1 x1 w1 r1 q => p0 cls d σ H1 G1 S1 x1 w1 r1 q Pk.refl
    | no => rw [e] at p0; exact p0
    | ok ts st1 =>
      rw [e] at p0
      intro J H1 G1 S1 x1 w1 r1 it fl
      have p1 : PostS X.K P Wx G F H σ D (forL g b ts st1) := p0
      refine ⟨fun i m σ2 H2 => m = ts.length - i ∧ i ≤ ts.length ∧ ∃ G2 S2 st2, Ext G1 F H1 G2 H2 ∧ Wd G2 F S2 H2 ∧ StR X.K G2 H2 st2 σ2 S2 ∧ PostS X.K P Wx G2 F H2 σ2 D (forL g b (ts.drop i) st2), ⟨_, rfl, Nat.zero_le _, G1, S1, st1, Ext.refl, w1, r1, ?_⟩, ?_⟩
      · rw [List.drop_zero]
        exact PostS.shift x1 Pk.refl p1
      · rintro i m σ2 H2 ⟨rfl, hi2, G2, S2, st2, x2, w2, r2, p2⟩
        obtain ⟨j1, j2⟩ := it H2 fun a g => x2.keep a (.inl g)
        by_cases hlt : i < ts.length
        · have ei : ts[i]? = some ts[i] := List.getElem?_eq_getElem hlt
          obtain ⟨j3, j4⟩ := j2 i _ ei
          rw [drop_get ei] at p2
          refine .inr ⟨j3, fun σ3 H3 => ∃ G3 S3 st3, Ext G1 F H1 G3 H3 ∧ Wd G3 F S3 H3 ∧ StR X.K G3 H3 st3 σ3 S3 ∧ PostS X.K P Wx G3 F H3 σ3 D (forL g b (ts.drop (i + 1)) st3), fun σ3 H3 z => ⟨_, by omega, rfl, hlt, z⟩, fun x H3 y => ?_⟩
          obtain ⟨k1, N, k2, k3⟩ := j4 x H3 y
          have p3 : PostS X.K P Wx G2 F H2 σ2 D (match g ts[i] st2 with
            | none => .no
            | some st1 => match b st1 with
              | .ok .nx st2 => forL g b (ts.drop (i + 1)) st2
              | .ok .ct st2 => forL g b (ts.drop (i + 1)) st2
              | .ok .bk st2 => .ok .nx st2
              | r => r) := p2
          cases eg : g ts[i] st2 with
          | none => rw [eg] at p3; exact p3.elim
          | some st3 =>
            rw [eg] at p3
            have x3 : Ext G2 F H2 (fun a => G2 a ∨ N a) H3 := ⟨fun _ z => .inl z, fun a z => k1 a (z.elim (w2.dG a) (w2.dF a))⟩
            have w3 : Wd (fun a => G2 a ∨ N a) F (fun a => S2 a ∨ NoA a) H3 :=
              ⟨fun a z f => z.elim (fun z => w2.gf a z f) fun z => w2.dF a f (k2 a z).1, fun a z s => s.elim (fun s => z.elim (fun z => w2.gs a z s) fun z => w2.dS a s (k2 a z).1) fun s => s.elim, fun a f s => s.elim (w2.fs a f) fun s => s.elim,
               fun a z => z.elim (fun z => by rw [k1 a (w2.dG a z)]; exact w2.dG a z) fun z => (k2 a z).2, fun a f => by rw [k1 a (w2.dF a f)]; exact w2.dF a f, fun a s => s.elim (fun s => by rw [k1 a (w2.dS a s)]; exact w2.dS a s) fun s => s.elim⟩
            have r3 : StR X.K (fun a => G2 a ∨ N a) H3 st2 σ2 S2 := r2.keep (fun _ z => .inl z) fun a z => k1 a (z.elim (w2.dG a) (w2.dS a))
            have k3' : Rp X.K (fun a => G2 a ∨ N a) H3 ts[i] x NoA := Rp.keep _ k3 (fun a z => z.imp (x2.sub a) id) fun _ _ => rfl
            refine ⟨_, F, S2, NoA, st2, ts[i], st3, w3, fun _ _ z => z.elim, r3, k3', eg, fun σ4 S4 w4 r4 q4 => ⟨_, F, S4, st3, w4, r4, ?_⟩⟩
            have p4 := PostS.shift x3 q4 p3
            have p5 : PostS X.K P Wx (fun a => G2 a ∨ N a) F H3 σ4 D (match b st3 with
              | .ok .nx st2 => forL g b (ts.drop (i + 1)) st2
              | .ok .ct st2 => forL g b (ts.drop (i + 1)) st2
              | .ok .bk st2 => .ok .nx st2
              | r => r) := p4
            cases eb : b st3 with
            | ok a st4 =>
              rw [eb] at p5
              cases a with
              | nx => exact fun σ5 H5 G5 S5 x5 w5 r5 k5 => ⟨G5, S5, st4, (x2.trans x3).trans x5, w5, r5, PostS.shift x5 k5 p5⟩
              | ct => exact fun σ5 H5 G5 S5 x5 w5 r5 k5 => ⟨G5, S5, st4, (x2.trans x3).trans x5, w5, r5, PostS.shift x5 k5 p5⟩
              | bk => exact p5
              | rt t => exact p5
            | ex x st4 => rw [eb] at p5; exact p5
            | no => rw [eb] at p5; exact p5
        · have e0 : i = ts.length := by omega
          subst e0
          refine .inl ⟨j1, ?_⟩
          rw [List.drop_length] at p2
          exact p2 σ2 H2 G2 S2 Ext.refl w2 r2 Pk.refl

/-! ### list comprehensions -/
def wipeL : SL → List Nat → SL
  | st, [] => st
  | st, v :: vs => wipeL (st.set v none) vs
theorem set_back {σ : St} {v : Nat} {z : Option V} : ((σ.set v z).set v ((σ[v]?).join)) = σ := by
  apply List.ext_getElem?
  intro j
  by_cases hj : v = j
  · subst hj
    by_cases hl : v < σ.length
    · rw [List.getElem?_set_self (by rw [List.length_set]; exact hl), List.getElem?_eq_getElem hl]
      rfl
    · rw [List.getElem?_eq_none (by rw [List.length_set, List.length_set]; omega), List.getElem?_eq_none (by omega)]
  · rw [List.getElem?_set_ne hj, List.getElem?_set_ne hj]
section
variable {K : PySem.W.Frag} {G : AS} {H : Hp}
theorem StR.unwipe : ∀ {vs : List Nat} {st : SL} {σ : St} {S : AS}, StR K G H st (wipe σ vs) S → StR K G H (wipeL st vs) σ S
  | [], _, _, _, h => h
  | v :: vs, st, σ, S, h => by
    have h' : StR K G H st ((wipe σ vs).set v none) S := h
    have q := h'.loose v (((wipe σ vs)[v]?).join)
    rw [set_back] at q
    exact StR.unwipe (vs := vs) q
theorem wipe_set (σ : St) (v : Nat) : ∀ vs : List Nat, wipe (σ.set v none) vs = (wipe σ vs).set v none
  | [] => rfl
  | u :: vs => by
    show (wipe (σ.set v none) vs).set u none = ((wipe σ vs).set u none).set v none
    rw [wipe_set σ v vs]
    by_cases h : u = v
    · rw [h]
    · rw [List.set_comm none none (Ne.symm h)]
theorem StR.wiped : ∀ {vs : List Nat} {st : SL} {σ : St} {S : AS}, StR K G H st σ S → StR K G H (wipeL st vs) (wipe σ vs) S
  | [], _, _, _, h => h
  | v :: vs, st, σ, S, h => by
    have q := h.loose v none
    have z := StR.wiped (vs := vs) q
    rw [wipe_set] at z
    exact z
/-- what stood frozen in the slots vs stands there again -/
def backL (st0 : SL) : List Nat → SL → SL
  | [], st => st
  | v :: vs, st => match (st0[v]?).join with
    | some t => if frz t then backL st0 vs (st.set v (some t)) else backL st0 vs st
    | none => backL st0 vs st
theorem StR.backs {G0 : AS} {H0 : Hp} {st0 : SL} {σ : St} {S0 : AS} (r0 : StR K G0 H0 st0 σ S0) (g : ∀ a, G0 a → G a) (k : ∀ a, G0 a → H a = H0 a) : ∀ {vs : List Nat} {st : SL} {S : AS}, StR K G H st σ S → StR K G H (backL st0 vs st) σ S
  | [], _, _, h => h
  | v :: vs, st, S, h => by
    unfold backL
    cases e : (st0[v]?).join with
    | none => exact StR.backs r0 g k h
    | some t =>
      show StR K G H (if frz t = true then backL st0 vs (st.set v (some t)) else backL st0 vs st) σ S
      by_cases f : frz t = true
      · rw [if_pos f]
        obtain ⟨x, A, B, h1, h2, _⟩ := r0.get (join_some e)
        have rt : Rp K G H t x NoA := Rp.keep t (Rp.cold t NoA f h2) g fun a z => z.elim (k a) fun z => z.elim
        have q := StR.fit (i := v) (h.drop v) h1 rt (fun _ _ z => z.elim)
        rw [set_some_none] at q
        exact StR.backs r0 g k (q.mono fun a z => z.elim id fun z => z.elim)
      · rw [if_neg f]
        exact StR.backs r0 g k h
theorem wipe_get (σ : St) (j : Nat) : ∀ vs : List Nat, (wipe σ vs)[j]? = if j ∈ vs ∧ j < σ.length then some none else σ[j]?
  | [] => by simp [wipe]
  | v :: vs => by
    show ((wipe σ vs).set v none)[j]? = _
    by_cases h : v = j
    · subst h
      by_cases hl : v < σ.length
      · rw [List.getElem?_set_self (by rw [wipe_length]; exact hl), if_pos ⟨List.mem_cons_self, hl⟩]
      · rw [List.getElem?_eq_none (by rw [List.length_set, wipe_length]; omega), if_neg (fun z => hl z.2), List.getElem?_eq_none (by omega)]
    · rw [List.getElem?_set_ne h, wipe_get σ j vs]
      by_cases hm : j ∈ vs
      · simp [hm]
      · simp [hm, Ne.symm h]
theorem wipe_of {σ σ' : St} {vs : List Nat} (k : Pk (fun i => !vs.contains i) (wipe σ vs) σ') : wipe σ' vs = wipe σ vs := by
  apply List.ext_getElem?
  intro j
  have hl : σ'.length = σ.length := by rw [k.1, wipe_length]
  rw [wipe_get, wipe_get, hl]
  by_cases h : j ∈ vs ∧ j < σ.length
  · rw [if_pos h, if_pos h]
  · rw [if_neg h, if_neg h]
    by_cases hm : j ∈ vs
    · have hj : ¬ j < σ.length := fun z => h ⟨hm, z⟩
      rw [List.getElem?_eq_none (by omega), List.getElem?_eq_none (by omega)]
    · have q := k.2 j (by simp [hm])
      rw [q, wipe_get, if_neg (fun z => hm z.1)]
theorem rpl_snoc : ∀ {ts : List T} {xs : List V} {S S2 : AS} {t : T} {x : V}, RpL K G H ts xs S → Rp K G H t x S2 → (∀ a, S a → S2 a → False) → RpL K G H (ts ++ [t]) (xs ++ [x]) (fun a => S a ∨ S2 a)
  | [], xs, S, S2, t, x, h, r, d => by
    rw [show xs = [] from h]
    exact ⟨x, [], S2, NoA, rfl, r, rfl, fun _ z => .inr z, fun _ z => z.elim, fun _ _ z => z.elim⟩
  | u :: ts, xs, S, S2, t, x, ⟨v, vr, A, B, h1, h2, h3, h4, h5, h6⟩, r, d => by
    rw [h1]
    exact ⟨v, vr ++ [x], A, fun a => B a ∨ S2 a, rfl, h2, rpl_snoc h3 r fun a z1 z2 => d a (h5 a z1) z2, fun a z => .inl (h4 a z), fun a z => z.imp (h5 a) id, fun a z1 z2 => z2.elim (h6 a z1) fun z => d a (h4 a z1) z⟩
end
/-- the tests of a comprehension -/
def SimTs (X : Cx) (ifs : List Expr) (f : ST) : Prop := ∀ Wx, Takes X Wx → PTs X ifs (RdT X.K Wx f)
def tYesB : ST := fun st => .ok true st
theorem sim_ts0 {X : Cx} : SimTs X [] tYesB := fun Wx _ => ⟨fun pins s σ H Q I h => pts_nil.run pins s σ H Q I (RdT.done (b := true) h)⟩
theorem sim_ts1 {X : Cx} {c : Expr} {f : ST} (h : SimT X c f) : SimTs X [c] f := fun Wx tk => pts_one (h Wx tk)
def lcL (g : TS') (tt : ST) (te : SE) (vs : List Nat) : List T → List T → SL → R (List T)
  | [], acc, st => .ok acc st
  | t :: ts, acc, st => match g t st with
    | none => .no
    | some st1 => match tt st1 with
      | .ok true st2 => match te st2 with
        | .ok y st3 => if decide (acc.length < sizeLine) then lcL g tt te vs ts (acc ++ [y]) (wipeL st3 vs) else .no
        | _ => .no
      | .ok false st2 => lcL g tt te vs ts acc (wipeL st2 vs)
      | _ => .no
def eLc (f : SI) (g : TS') (tt : ST) (te : SE) (vs : List Nat) : SE := fun st => (f st).bind fun ts st => match lcL g tt te vs ts [] (wipeL st vs) with
  | .ok acc st1 => .ok (.lst true acc) (backL st vs (wipeL st1 vs))
  | _ => .no
theorem lc_core' {K : PySem.W.Frag} {Wx : WX} {σ : St} {H : Hp} {Q : VK} {f : SI} {g : TS'} {tt : ST} {te : SE} {vs : List Nat} {rt : TT} (h : RdU K Wx (uV (eLc f g tt te vs)) σ H Q) (hrt : ∀ σ H Q, RdT K (fun _ _ _ _ => False) tt σ H Q → rt σ H Q) :
    tLc (RdI K Wx f) (RdG K (fun i => !vs.contains i) g) rt (RdU K (fun _ _ _ _ => False) (uV te)) vs σ H Q := by
  obtain ⟨G, F, S, st, w, r, p⟩ := h
  refine ⟨G, F, S, st, w, r, ?_⟩
  have p0 : PostU K Wx G F H σ Q (R.bind ((f st).bind fun ts st => match lcL g tt te vs ts [] (wipeL st vs) with
    | .ok acc st1 => .ok (.lst true acc) (backL st vs (wipeL st1 vs))
    | _ => .no) fun t st => .ok (.v t) st) := p
  cases e : f st with
  | ex x st1 => rw [e] at p0; exact p0
  | no => rw [e] at p0; exact p0
  | ok ts st1 =>
    rw [e] at p0
    intro J H1 G1 S1 x1 w1 r1 it fl A nA
    have p1 : PostU K Wx G F H σ Q (R.bind (match lcL g tt te vs ts [] (wipeL st1 vs) with
      | .ok acc st2 => .ok (.lst true acc) (backL st1 vs (wipeL st2 vs))
      | _ => .no) fun t st => .ok (.v t) st) := p0
    have nG : ∀ a, G1 a → a ≠ A := fun a z e => by subst e; exact w1.dG _ z nA
    have nF : ∀ a, F a → a ≠ A := fun a z e => by subst e; exact w1.dF _ z nA
    have nS : ∀ a, S1 a → a ≠ A := fun a z e => by subst e; exact w1.dS _ z nA
    let Fin : R (List T) → Prop := fun r => PostU K Wx G F H σ Q (R.bind (match r with
      | .ok acc st2 => .ok (.lst true acc) (backL st1 vs (wipeL st2 vs))
      | _ => .no) fun t st => .ok (.v t) st)
    let Wl : Nat → Hp → Prop := fun i H2 => ∃ G2 S2 st2 acc av Sa, Ext G1 F H1 G2 H2 ∧ Wd G2 (fun a => F a ∨ (a = A ∨ Sa a)) S2 H2 ∧ StR K G2 H2 st2 (wipe σ vs) S2 ∧ H2 A = some (.lst av) ∧ RpL K G2 H2 acc av Sa ∧ ¬ Sa A ∧ (∀ a, F a → Sa a → False) ∧ Fin (lcL g tt te vs (ts.drop i) acc st2)
    refine ⟨fun i m H2 => m = ts.length - i ∧ i ≤ ts.length ∧ Wl i H2, ⟨_, rfl, Nat.zero_le _, G1, S1, wipeL st1 vs, [], [], NoA, ⟨fun _ z => z, fun a z => upd_ne (z.elim (nG a) (nF a))⟩, ?_, ?_, upd_same, rfl, fun z => z.elim, fun _ _ z => z.elim, ?_⟩, ?_⟩
    · refine ⟨fun a z f => f.elim (w1.gf a z) fun f => f.elim (nG a z) fun z => z.elim, w1.gs, fun a f s => f.elim (fun f => w1.fs a f s) fun f => f.elim (nS a s) fun z => z.elim, fun a z => by rw [upd_ne (nG a z)]; exact w1.dG a z, fun a z => ?_, fun a z => by rw [upd_ne (nS a z)]; exact w1.dS a z⟩
      rcases z with z | z | z
      · rw [upd_ne (nF a z)]; exact w1.dF a z
      · rw [z, upd_same]; exact Option.some_ne_none _
      · exact z.elim
    · exact StR.wiped (r1.keep (fun _ z => z) fun a z => upd_ne (z.elim (nG a) (nS a)))
    · rw [List.drop_zero]; exact p1
    · rintro i m H2 ⟨rfl, hi2, G2, S2, st2, acc, av, Sa, x2, w2, r2, hA, ra, nSa, dFa, fin⟩
      obtain ⟨j1, j2⟩ := it H2 fun a z => x2.keep a (.inl z)
      by_cases hlt : i < ts.length
      · have ei : ts[i]? = some ts[i] := List.getElem?_eq_getElem hlt
        obtain ⟨j3, j4⟩ := j2 i _ ei
        rw [drop_get ei] at fin
        refine .inr ⟨j3, Wl (i + 1), fun H3 z => ⟨_, by omega, rfl, hlt, z⟩, fun x H3 y => ?_⟩
        obtain ⟨k1, N, k2, k3⟩ := j4 x H3 y
        have fin1 : Fin (match g ts[i] st2 with
          | none => .no
          | some st1 => match tt st1 with
            | .ok true st2 => match te st2 with
              | .ok y st3 => if decide (acc.length < sizeLine) then lcL g tt te vs (ts.drop (i + 1)) (acc ++ [y]) (wipeL st3 vs) else .no
              | _ => .no
            | .ok false st2 => lcL g tt te vs (ts.drop (i + 1)) acc (wipeL st2 vs)
            | _ => .no) := fin
        cases eg : g ts[i] st2 with
        | none => rw [eg] at fin1; exact fin1.elim
        | some st3 =>
          rw [eg] at fin1
          have x3 : Ext G2 (fun a => F a ∨ (a = A ∨ Sa a)) H2 (fun a => G2 a ∨ N a) H3 := ⟨fun _ z => .inl z, fun a z => k1 a (z.elim (w2.dG a) (w2.dF a))⟩
          have w3 : Wd (fun a => G2 a ∨ N a) (fun a => F a ∨ (a = A ∨ Sa a)) (fun a => S2 a ∨ NoA a) H3 :=
            ⟨fun a z f => z.elim (fun z => w2.gf a z f) fun z => w2.dF a f (k2 a z).1, fun a z s => s.elim (fun s => z.elim (fun z => w2.gs a z s) fun z => w2.dS a s (k2 a z).1) fun s => s.elim, fun a f s => s.elim (w2.fs a f) fun s => s.elim,
             fun a z => z.elim (fun z => by rw [k1 a (w2.dG a z)]; exact w2.dG a z) fun z => (k2 a z).2, fun a f => by rw [k1 a (w2.dF a f)]; exact w2.dF a f, fun a s => s.elim (fun s => by rw [k1 a (w2.dS a s)]; exact w2.dS a s) fun s => s.elim⟩
          have r3 : StR K (fun a => G2 a ∨ N a) H3 st2 (wipe σ vs) S2 := r2.keep (fun _ z => .inl z) fun a z => k1 a (z.elim (w2.dG a) (w2.dS a))
          have k3' : Rp K (fun a => G2 a ∨ N a) H3 ts[i] x NoA := Rp.keep _ k3 (fun a z => z.imp (x2.sub a) id) fun _ _ => rfl
          have fA : ∀ a, a = A ∨ Sa a → (fun a => F a ∨ (a = A ∨ Sa a)) a := fun a z => .inr z
          refine ⟨_, _, S2, NoA, st2, ts[i], st3, w3, fun _ _ z => z.elim, r3, k3', eg, fun σ4 S4 w4 r4 q4 => ?_⟩
          have ew : wipe σ4 vs = wipe σ vs := wipe_of q4
          have hA3 : H3 A = some (.lst av) := (k1 A (by rw [hA]; exact Option.some_ne_none _)).trans hA
          have ra3 : RpL K (fun a => G2 a ∨ N a) H3 acc av Sa := RpL.keep acc ra (fun _ z => .inl z) fun a z => k1 a (z.elim (w2.dG a) fun z => w2.dF a (.inr (.inr z)))
          refine ⟨ew, hrt _ _ _ ⟨_, _, S4, st3, w4, r4, ?_⟩⟩
          have fin2 : Fin (match tt st3 with
            | .ok true st2 => match te st2 with
              | .ok y st3 => if decide (acc.length < sizeLine) then lcL g tt te vs (ts.drop (i + 1)) (acc ++ [y]) (wipeL st3 vs) else .no
              | _ => .no
            | .ok false st2 => lcL g tt te vs (ts.drop (i + 1)) acc (wipeL st2 vs)
            | _ => .no) := fin1
          have x23 : Ext G1 F H1 (fun a => G2 a ∨ N a) H3 := x2.trans (x3.less fun _ z => .inl z)
          cases et : tt st3 with
          | no => rw [et] at fin2; exact fin2.elim
          | ex x st5 => rw [et] at fin2; exact fin2.elim
          | ok b st5 =>
            rw [et] at fin2
            intro H5 G5 S5 x5 w5 r5
            have kA : ∀ a, a = A ∨ Sa a → H5 a = H3 a := fun a z => x5.keep a (.inr (.inr z))
            cases b with
            | false =>
              rw [if_neg Bool.false_ne_true]
              refine ⟨G5, S5, wipeL st5 vs, acc, av, Sa, x23.trans (x5.less fun _ z => .inl z), w5, ?_, (kA A (.inl rfl)).trans hA3, RpL.keep acc ra3 x5.sub fun a z => x5.keep a (z.imp id fun z => .inr (.inr z)), nSa, dFa, fin2⟩
              rw [← ew]
              exact StR.wiped r5
            | true =>
              rw [if_pos rfl]
              have fin3 : Fin (match te st5 with
                | .ok y st3 => if decide (acc.length < sizeLine) then lcL g tt te vs (ts.drop (i + 1)) (acc ++ [y]) (wipeL st3 vs) else .no
                | _ => .no) := fin2
              refine ⟨G5, _, S5, st5, w5, r5, ?_⟩
              unfold uV
              cases ee : te st5 with
              | no => rw [ee] at fin3; exact fin3.elim
              | ex x st6 => rw [ee] at fin3; exact fin3.elim
              | ok y st6 =>
                rw [ee] at fin3
                intro v H6 G6 S6 Sy x6 w6 d6 r6 a6
                have fin4 : Fin (if decide (acc.length < sizeLine) = true then lcL g tt te vs (ts.drop (i + 1)) (acc ++ [y]) (wipeL st6 vs) else .no) := fin3
                by_cases hz : decide (acc.length < sizeLine) = true
                · rw [if_pos hz] at fin4
                  have hA6 : H6 A = some (.lst av) := (x6.keep A (.inr (.inr (.inl rfl)))).trans ((kA A (.inl rfl)).trans hA3)
                  have ra6 : RpL K G6 H6 acc av Sa := RpL.keep acc (RpL.keep acc ra3 x5.sub fun a z => x5.keep a (z.imp id fun z => .inr (.inr z))) x6.sub fun a z => x6.keep a (z.imp id fun z => .inr (.inr z))
                  have nA6 : ∀ a, G6 a ∨ (S6 a ∨ Sy a) → a ≠ A := fun a z e => by
                    subst e
                    exact z.elim (fun z => w6.gf _ z (.inr (.inl rfl))) fun z => w6.fs _ (.inr (.inl rfl)) z
                  have up : ∀ a, a ≠ A → upd H6 A (.lst (av ++ [v])) a = H6 a := fun a z => upd_ne z
                  refine ⟨av, hA6, ?_, G6, S6, wipeL st6 vs, acc ++ [y], av ++ [v], fun a => Sa a ∨ Sy a, ?_, ?_, ?_, upd_same, ?_, ?_, ?_, fin4⟩
                  · rw [← rpl_len ra6]; exact of_decide_eq_true hz
                  · refine (x23.trans (x5.less fun _ z => .inl z)).trans ⟨x6.sub, fun a z => ?_⟩
                    rcases z with z | z
                    · rw [up a fun e => by subst e; exact w5.gf _ z (.inr (.inl rfl))]; exact x6.keep a (.inl z)
                    · rw [up a (nF a z)]; exact x6.keep a (.inr (.inl z))
                  · refine ⟨fun a z f => ?_, fun a z s => w6.gs a z (.inl s), fun a f s => ?_, fun a z => by rw [up a (nA6 a (.inl z))]; exact w6.dG a z, fun a f => ?_, fun a s => by rw [up a (nA6 a (.inr (.inl s)))]; exact w6.dS a (.inl s)⟩
                    · rcases f with f | f | f | f
                      · exact w6.gf a z (.inl f)
                      · exact w6.gf a z (.inr (.inl f))
                      · exact w6.gf a z (.inr (.inr f))
                      · exact w6.gs a z (.inr f)
                    · rcases f with f | f | f | f
                      · exact w6.fs a (.inl f) (.inl s)
                      · exact w6.fs a (.inr (.inl f)) (.inl s)
                      · exact w6.fs a (.inr (.inr f)) (.inl s)
                      · exact d6 a s f
                    · rcases f with f | f | f | f
                      · rw [up a (nF a f)]; exact w6.dF a (.inl f)
                      · rw [f, upd_same]; exact Option.some_ne_none _
                      · rw [up a fun e => by subst e; exact nSa f]; exact w6.dF a (.inr (.inr f))
                      · rw [up a (nA6 a (.inr (.inr f)))]; exact w6.dS a (.inr f)
                  · rw [← ew]
                    exact StR.wiped (r6.keep (fun _ z => z) fun a z => up a (nA6 a (z.imp id .inl)))
                  · refine RpL.keep _ (rpl_snoc ra6 a6 fun a z1 z2 => w6.fs a (.inr (.inr z1)) (.inr z2)) (fun _ z => z) fun a z => up a ?_
                    intro e
                    subst e
                    rcases z with z | z | z
                    · exact nA6 _ (.inl z) rfl
                    · exact nSa z
                    · exact nA6 _ (.inr (.inr z)) rfl
                  · exact fun z => z.elim nSa fun z => nA6 _ (.inr (.inr z)) rfl
                  · exact fun a f z => z.elim (dFa a f) fun z => w6.fs a (.inl f) (.inr z)
                · rw [if_neg hz] at fin4; exact fin4.elim
      · have e0 : i = ts.length := by omega
        subst e0
        refine .inl ⟨j1, ?_⟩
        rw [List.drop_length] at fin
        have fin1 : PostU K Wx G F H σ Q (.ok (.v (.lst true acc)) (backL st1 vs (wipeL st2 vs))) := fin
        refine fin1 (.ref A) H2 G2 S2 (fun a => a = A ∨ Sa a) ⟨fun a z => x2.sub a (x1.sub a z), fun a z => (x2.keep a (z.imp (x1.sub a) id)).trans (x1.keep a z)⟩ ?_ (fun a z1 z2 => w2.fs a (.inr z2) z1) ?_ ?_
        · exact w2.back fun a f z => z.elim (nF a f) (dFa a f)
        · exact StR.backs r1 x2.sub (fun a z => x2.keep a (.inl z)) (StR.unwipe r2)
        · exact ⟨A, av, rfl, .inl rfl, hA, RpL.mono acc ra fun a z => ⟨.inr z, fun e => by subst e; exact nSa z⟩⟩
theorem sim_lc {X : Cx} {elt tg iter : Expr} {ifs : List Expr} {scope : Scope} {own : List (Str × Nat)} {pos : Pos} {f : SI} {g : TS'} {tt : ST} {te : SE} (hc : X.calm = true) (hN : X.N.Nodup) (hi : SimI X tg iter f) (ok : BlkOk X.N X.env.scope scope own)
    (hg : ∀ (s : Shared) (H : Hp) (C : Addr) (cl : List (Str × Addr)) (fp : List Addr), SimG (X.blk s H scope (compEnvC scope cl C X.env) fp) (fun i => !(own.map (·.2)).contains i) tg g)
    (ht : ∀ (s : Shared) (H : Hp) (C : Addr) (cl : List (Str × Addr)) (fp : List Addr), SimTs (X.blk s H scope (compEnvC scope cl C X.env) fp) ifs tt)
    (he : ∀ (s : Shared) (H : Hp) (C : Addr) (cl : List (Str × Addr)) (fp : List Addr), SimE (X.blk s H scope (compEnvC scope cl C X.env) fp) elt te) (hs : ∀ x, foldedSetIterable iter X.env x = pure x := by intro _; rfl) :
    SimE X (.ListComp elt [⟨tg, iter, ifs, 0⟩] scope pos) (eLc f g tt te (own.map (·.2))) := fun Wx tk =>
  PE.imp (pe_lc (g := RdG X.K (fun i => !(own.map (fun (x : Str × Nat) => x.2)).contains i) g) (tt := RdT X.K (fun _ _ _ _ => False) tt) (te := RdU X.K (fun _ _ _ _ => False) (uV te)) hc hN (hi Wx tk) ok hg (fun s H C cl fp => ht s H C cl fp _ takes0) (fun s H C cl fp => he s H C cl fp _ takes0) hs) fun σ H Q h => lc_core' h fun _ _ _ q => q
end
end Ev

/-! EvFn: defs as functions on trees; their calls. -/
namespace Ev
noncomputable section
open PySem PySem.Spec PyProof.Rows L2

/-- a def: what it hands back, and its arguments as they are then -/
inductive RF where
  | ok (r : T) (as : List T) | ex (x : Xv) (as : List T) | no
abbrev FS := List T → RF
def PostF (K : PySem.W.Frag) (G F : AS) (H : Hp) (vs : List V) (Q : VK) (E : XK) : RF → Prop
  | .ok r as => ∀ v H' G' S1 S2, Ext G F H G' H' → Wd G' F (fun a => S1 a ∨ S2 a) H' → (∀ a, S1 a → S2 a → False) → RpL K G' H' as vs S1 → Rp K G' H' r v S2 → Q v H'
  | .ex x as => ∀ cls d H' G' S1, Ext G F H G' H' → Wd G' F S1 H' → RpL K G' H' as vs S1 → XcR K G' H' x cls d → E cls d H'
  | .no => False
def SpF (K : PySem.W.Frag) (n : Nat) (m : FS) : Sp := fun vs H Q E => vs.length = n ∧ ∃ G F S ts, Wd G F S H ∧ RpL K G H ts vs S ∧ PostF K G F H vs Q E (m ts)
/-- the arguments behind a body: at P what stands in the slots, else they were frozen -/
def outs (P : Nat → Bool) : Nat → List T → SL → Option (List T)
  | _, [], _ => some []
  | i, t :: ts, x :: st => match (if P i then x else if frz t then some t else none), outs P (i + 1) ts st with
    | some u, some us => some (u :: us)
    | _, _ => none
  | _, _ :: _, [] => none
def retF (P : Nat → Bool) (ts : List T) : R Fl → RF
  | .ok .nx st => match outs P 0 ts st with
    | some as => .ok .non as
    | none => .no
  | .ok (.rt t) st => match outs P 0 ts st with
    | some as => .ok t as
    | none => .no
  | .ex x st => match outs P 0 ts st with
    | some as => .ex x as
    | none => .no
  | _ => .no
/-- a def of n parameters and k names in all -/
def defF (n k : Nat) (P : Nat → Bool) (b : SS) : FS := fun ts => if ts.length = n then retF P ts (b (ts.map some ++ List.replicate (k - n) none)) else .no
section
variable {K : PySem.W.Frag} {G G' : AS} {H H' : Hp}
theorem start_rp : ∀ {ts : List T} {vs : List V} {S : AS} (k : Nat), RpL K G H ts vs S → StR K G H (ts.map some ++ List.replicate k none) (vs.map some ++ List.replicate k none) S
  | [], vs, S, k, h => by
    rw [show vs = [] from h]
    show StR K G H (List.replicate k none) (List.replicate k none) S
    induction k with
    | zero => exact rfl
    | succ k ih => exact ⟨none, _, NoA, S, rfl, trivial, ih, fun _ z => z.elim, fun _ z => z, fun _ z => z.elim⟩
  | t :: ts, vs, S, k, ⟨v, vr, S1, S2, h1, h2, h3, h4, h5, h6⟩ => by
    rw [h1]
    exact ⟨some v, _, S1, S2, rfl, ⟨v, rfl, h2⟩, start_rp k h3, h4, h5, h6⟩
theorem outs_rp {P : Nat → Bool} (g : ∀ a, G a → G' a) (e : ∀ a, G a → H' a = H a) : ∀ {ts : List T} {vs : List V} {S0 : AS} {i : Nat} {st : SL} {σ : L2.St} {S : AS} {as : List T}, RpL K G H ts vs S0 → StR K G' H' st σ S →
    (∀ j, P (i + j) = true → j < vs.length → σ[j]? = some (vs[j]?)) → outs P i ts st = some as → RpL K G' H' as vs S
  | [], vs, S0, i, st, σ, S, as, h, r, k, o => by
    rw [show vs = [] from h]
    have o' : some ([] : List T) = some as := by
      cases st <;> exact o
    cases o'
    exact rfl
  | t :: ts, vs, S0, i, [], σ, S, as, h, r, k, o => by cases o
  | t :: ts, vs, S0, i, x :: st, σ, S, as, ⟨v, vr, A, B, h1, h2, h3, _⟩, ⟨y, σr, S1, S2, r1, r2, r3, r4, r5, r6⟩, k, o => by
    subst h1 r1
    have o' : (match (if P i = true then x else if frz t = true then some t else none), outs P (i + 1) ts st with
      | some u, some us => some (u :: us)
      | _, _ => none) = some as := o
    cases q1 : (if P i = true then x else if frz t = true then some t else none) with
    | none => rw [q1] at o'; cases o'
    | some u =>
      cases q2 : outs P (i + 1) ts st with
      | none => rw [q1, q2] at o'; cases o'
      | some us =>
        rw [q1, q2] at o'
        cases o'
        have hr : RpL K G' H' us vr S2 := outs_rp g e h3 r3 (fun j pj hj => by
          have z := k (j + 1) (by rw [← pj]; congr 1; omega) (by simpa using hj)
          simpa using z) q2
        by_cases hp : P i = true
        · rw [if_pos hp] at q1
          subst q1
          obtain ⟨w, e1, e2⟩ := r2
          have z := k 0 hp (by simp)
          simp at z
          rw [e1] at z
          cases z
          exact ⟨v, vr, S1, S2, rfl, e2, hr, r4, r5, r6⟩
        · rw [if_neg hp] at q1
          by_cases hf : frz t = true
          · rw [if_pos hf] at q1
            cases q1
            exact ⟨v, vr, NoA, S2, rfl, Rp.keep t (Rp.cold t NoA hf h2) g fun a z => z.elim (e a) fun z => z.elim, hr, fun _ z => z.elim, r5, fun _ z => z.elim⟩
          · rw [if_neg hf] at q1
            cases q1
theorem start_get {N : List Str} {vs : List V} {j : Nat} (h : j < vs.length) : (L2.start N vs)[j]? = some (vs[j]?) := by
  unfold L2.start
  rw [List.getElem?_append_left (by simpa using h), List.getElem?_map]
  rw [List.getElem?_eq_getElem h]
  rfl
end

/-- a def keeps what its body's function says -/
theorem fn_sim {Pg : Program} {w : World} {K : PySem.W.Frag} {mg : Str → Option Value} {base : Heap} {x qual : Str} {params : Arguments} {body : List Stmt} {scope : Scope} {dvs : List V} {kws : List (Str × V)} {f : Addr} {fd : FuncData} {N ps : List Str} {k n m : Nat} {P : Nat → Bool} {b : SS}
    (F : FunD K x qual params body scope dvs kws f fd) (S : FnScope N ps scope) (hn : ps.length = n) (hm : N.length = m)
    (hb : ∀ (cdv : Value) (A : Around) (outer : List Env) (s : Shared) (H : Hp) (E : XK), Room k (A.deeper (envOfC qual scope s.heap.objs.size f cdv)) → SimB (cxOf (L2.CX Pg w) Pg w K mg base N qual scope f cdv A outer s H E) P body b) :
    FnOk Pg w K mg base (L2.CX Pg w) (k + 1) f fd ps (SpF K n (defF n m P b)) := by
  refine F.ok S (fun vs H Q E h => by rw [h.1, hn]) fun cdv A outer s H vs Q E hr h => ?_
  obtain ⟨hl, G, Fr, S0, ts, wd, r, p⟩ := h
  refine ⟨_, hb cdv A outer s H E hr _ (takes_of rfl rfl rfl rfl), G, Fr, S0, ts.map some ++ List.replicate (m - n) none, wd, ?_, ?_⟩
  · have q := start_rp (m - n) r
    have e : List.replicate (N.length - vs.length) (none : Option V) = List.replicate (m - n) none := by rw [hm, hl]
    unfold L2.start
    rw [e]
    exact q
  · have tl : ts.length = n := (rpl_len r).trans hl
    have p1 : PostF K G Fr H vs Q E (if ts.length = n then retF P ts (b (ts.map some ++ List.replicate (m - n) none)) else .no) := p
    rw [if_pos tl] at p1
    have kst : ∀ σ' : L2.St, Pk P (L2.start N vs) σ' → ∀ j, P (0 + j) = true → j < vs.length → σ'[j]? = some (vs[j]?) := fun σ' q j pj hj => by
      rw [Nat.zero_add] at pj
      rw [q.2 j pj]
      exact start_get hj
    cases e : b (ts.map some ++ List.replicate (m - n) none) with
    | no => rw [e] at p1; exact p1
    | ex xv st =>
      rw [e] at p1
      have p2 : PostF K G Fr H vs Q E (match outs P 0 ts st with
        | some as => .ex xv as
        | none => .no) := p1
      cases o : outs P 0 ts st with
      | none => rw [o] at p2; exact p2.elim
      | some as =>
        rw [o] at p2
        exact fun cls d σ' H' G' S1 x1 w1 r1 q1 k1 => p2 cls d H' G' S1 x1 w1 (outs_rp x1.sub (fun a z => x1.keep a (.inl z)) r r1 (kst σ' k1) o) q1
    | ok a st =>
      rw [e] at p1
      cases a with
      | bk => exact p1.elim
      | ct => exact p1.elim
      | nx =>
        have p2 : PostF K G Fr H vs Q E (match outs P 0 ts st with
          | some as => .ok .non as
          | none => .no) := p1
        cases o : outs P 0 ts st with
        | none => rw [o] at p2; exact p2.elim
        | some as =>
          rw [o] at p2
          exact fun σ' H' G' S1 x1 w1 r1 k1 => p2 .non H' G' S1 NoA x1 (w1.less (fun _ z => z) fun _ z => z.elim id fun z => z.elim) (fun _ _ z => z.elim) (outs_rp x1.sub (fun a z => x1.keep a (.inl z)) r r1 (kst σ' k1) o) rfl
      | rt t =>
        have p2 : PostF K G Fr H vs Q E (match outs P 0 ts st with
          | some as => .ok t as
          | none => .no) := p1
        cases o : outs P 0 ts st with
        | none => rw [o] at p2; exact p2.elim
        | some as =>
          rw [o] at p2
          exact fun v σ' H' G' S1 S2 x1 w1 d1 r1 rv k1 => p2 v H' G' S1 S2 x1 w1 d1 (outs_rp x1.sub (fun a z => x1.keep a (.inl z)) r r1 (kst σ' k1) o) rv

/-! ### calls -/
/-- the operands taken: what was named is lent -/
def takeL : List AV → SL → Option (List T × SL)
  | [], st => some ([], st)
  | .v t :: us, st => match takeL us st with
    | some (ts, st1) => some (t :: ts, st1)
    | none => none
  | .s i :: us, st => match (st[i]?).join with
    | some t => match takeL us (st.set i none) with
      | some (ts, st1) => some (t :: ts, st1)
      | none => none
    | none => none
/-- what was lent comes back -/
def putL : List AV → List T → SL → SL
  | .v _ :: us, _ :: as, st => putL us as st
  | .s i :: us, a :: as, st => putL us as (st.set i (some a))
  | _, _, st => st
section
variable {K : PySem.W.Frag} {G : AS} {H : Hp} {σ : L2.St}
theorem take_rp : ∀ {us : List AV} {vs : List V} {st st1 : SL} {ts : List T} {S1 S2 : AS}, StR K G H st σ S1 → AvsR K G H σ us vs S2 → (∀ a, S1 a → S2 a → False) → takeL us st = some (ts, st1) →
    ∃ A B : AS, StR K G H st1 σ A ∧ RpL K G H ts vs B ∧ (∀ a, A a → S1 a) ∧ (∀ a, B a → S1 a ∨ S2 a) ∧ (∀ a, A a → B a → False)
  | [], vs, st, st1, ts, S1, S2, r, h, d, e => by
    cases e
    exact ⟨S1, NoA, r, h, fun _ z => z, fun _ z => z.elim, fun _ _ z => z.elim⟩
  | .v t :: us, vs, st, st1, ts, S1, S2, r, ⟨v, vr, C, D, h1, h2, h3, h4, h5, h6⟩, d, e => by
    have e' : (match takeL us st with
      | some (ts, st1) => some (t :: ts, st1)
      | none => none) = some (ts, st1) := e
    cases q : takeL us st with
    | none => rw [q] at e'; cases e'
    | some z =>
      obtain ⟨tr, st2⟩ := z
      rw [q] at e'
      cases e'
      obtain ⟨A, B, k1, k2, k3, k4, k5⟩ := take_rp r h3 (fun a z1 z2 => d a z1 (h5 a z2)) q
      exact ⟨A, fun a => C a ∨ B a, k1, ⟨v, vr, C, B, h1, h2, k2, fun _ z => .inl z, fun _ z => .inr z, fun a z1 z2 => (k4 a z2).elim (fun z => d a z (h4 a z1)) (h6 a z1)⟩, k3, fun a z => z.elim (fun z => .inr (h4 a z)) fun z => (k4 a z).imp id (h5 a), fun a z1 z2 => z2.elim (fun z => d a (k3 a z1) (h4 a z)) (k5 a z1)⟩
  | .s i :: us, vs, st, st1, ts, S1, S2, r, ⟨v, vr, C, D, h1, h2, h3, h4, h5, h6⟩, d, e => by
    have e' : (match (st[i]?).join with
      | some t => match takeL us (st.set i none) with
        | some (ts, st1) => some (t :: ts, st1)
        | none => none
      | none => none) = some (ts, st1) := e
    cases q0 : (st[i]?).join with
    | none => rw [q0] at e'; cases e'
    | some t =>
      rw [q0] at e'
      have e2 : (match takeL us (st.set i none) with
        | some (ts, st1) => some (t :: ts, st1)
        | none => none) = some (ts, st1) := e'
      cases q : takeL us (st.set i none) with
      | none => rw [q] at e2; cases e2
      | some z =>
        obtain ⟨tr, st2⟩ := z
        rw [q] at e2
        cases e2
        obtain ⟨w, X1, X2, g1, g2, g3, g4, g5, g6⟩ := r.get (join_some q0)
        have ev : σ[i]? = some (some v) := h2
        rw [ev] at g1
        cases g1
        obtain ⟨A, B, k1, k2, k3, k4, k5⟩ := take_rp g6 h3 (fun a z1 z2 => d a (g4 a z1) (h5 a z2)) q
        exact ⟨A, fun a => X1 a ∨ B a, k1, ⟨v, vr, X1, B, h1, g2, k2, fun _ z => .inl z, fun _ z => .inr z, fun a z1 z2 => (k4 a z2).elim (fun z => g5 a z1 z) fun z => d a (g3 a z1) (h5 a z)⟩, fun a z => g4 a (k3 a z), fun a z => z.elim (fun z => .inl (g3 a z)) fun z => (k4 a z).imp (g4 a) (h5 a), fun a z1 z2 => z2.elim (fun z => g5 a z (k3 a z1)) (k5 a z1)⟩
/-- slots named by operands hold the operands' values -/
def AvsS (σ : L2.St) : List AV → List V → Prop
  | [], vs => vs = []
  | .v _ :: us, vs => ∃ v vr, vs = v :: vr ∧ AvsS σ us vr
  | .s i :: us, vs => ∃ v vr, vs = v :: vr ∧ σ[i]? = some (some v) ∧ AvsS σ us vr
theorem avsS : ∀ {us : List AV} {vs : List V} {S : AS}, AvsR K G H σ us vs S → AvsS σ us vs
  | [], _, _, h => h
  | .v t :: us, _, _, ⟨v, vr, _, _, h1, h2, h3, _⟩ => ⟨v, vr, h1, avsS h3⟩
  | .s i :: us, _, _, ⟨v, vr, _, _, h1, h2, h3, _⟩ => ⟨v, vr, h1, h2, avsS h3⟩
theorem put_rp : ∀ {us : List AV} {vs : List V} {st : SL} {as : List T} {S1 S2 : AS}, StR K G H st σ S1 → AvsS σ us vs → RpL K G H as vs S2 → (∀ a, S1 a → S2 a → False) → StR K G H (putL us as st) σ (fun a => S1 a ∨ S2 a)
  | [], vs, st, as, S1, S2, r, _, _, _ => by
    have e : putL [] as st = st := by cases as <;> rfl
    rw [e]
    exact r.mono fun _ z => .inl z
  | .v t :: us, vs, st, [], S1, S2, r, ⟨v, vr, h1, _⟩, h, _ => by
    rw [h1] at h
    cases (show v :: vr = [] from h)
  | .s i :: us, vs, st, [], S1, S2, r, ⟨v, vr, h1, _⟩, h, _ => by
    rw [h1] at h
    cases (show v :: vr = [] from h)
  | .v t :: us, vs, st, a :: as, S1, S2, r, ⟨v, vr, h1, h2⟩, ⟨w, wr, A, B, k1, k2, k3, k4, k5, k6⟩, d => by
    rw [h1] at k1
    cases k1
    exact (put_rp (us := us) (as := as) r h2 k3 fun a z1 z2 => d a z1 (k5 a z2)).mono fun a z => z.imp id (k5 a)
  | .s i :: us, vs, st, a :: as, S1, S2, r, ⟨v, vr, h1, h0, h2⟩, ⟨w, wr, A, B, k1, k2, k3, k4, k5, k6⟩, d => by
    rw [h1] at k1
    cases k1
    have q := StR.fit (i := i) (r.drop i) h0 k2 fun b z1 z2 => d b z1 (k4 b z2)
    rw [set_some_none] at q
    refine (put_rp (us := us) (as := as) q h2 k3 fun b z1 z2 => z1.elim (fun z => d b z (k5 b z2)) fun z => k6 b z z2).mono fun b z => ?_
    rcases z with (z | z) | z
    · exact .inl z
    · exact .inr (k4 b z)
    · exact .inr (k5 b z)
end
/-- a call's end -/
def doF (m : FS) (pm : List AV → List AV) : List AV → SL → R T := fun us st => match takeL (pm us) st with
  | none => .no
  | some (ts, st1) => match m ts with
    | .ok r as => .ok r (putL (pm us) as st1)
    | .ex x as => .ex x (putL (pm us) as st1)
    | .no => .no
/-- f(e, ..): the arguments, then the defaults ds -/
def eCall (m : FS) (ds : List T) (f : SA) : SE := fun st => (f st).bind fun us st => doF m (fun us => us ++ ds.map .v) us st
theorem avs_app {K : PySem.W.Frag} {G : AS} {H : Hp} {σ : L2.St} : ∀ {us : List AV} {vs : List V} {S : AS} {ds : List T} {dv : List V}, AvsR K G H σ us vs S → Paired (fun t v => scV t = some v) ds dv → AvsR K G H σ (us ++ ds.map .v) (vs ++ dv) S
  | [], vs, S, ds, dv, h, d => by
    rw [show vs = [] from h]
    show AvsR K G H σ (ds.map .v) dv S
    induction d with
    | nil => exact rfl
    | cons h1 _ ih => exact ⟨_, _, NoA, S, rfl, rp_sc NoA h1, ih, fun _ z => z.elim, fun _ z => z, fun _ z => z.elim⟩
  | u :: us, vs, S, ds, dv, ⟨v, vr, A, B, h1, h2, h3, h4, h5, h6⟩, d => by
    rw [h1]
    exact ⟨v, vr ++ dv, A, B, rfl, h2, avs_app h3 d, h4, h5, h6⟩
/-- the promise of a def, from its caller's slots -/
theorem do_core {K : PySem.W.Frag} {Wx : WX} {G F S1 S2 : AS} {H : Hp} {σ : L2.St} {st : SL} {us : List AV} {vs : List V} {Q : VK} {m : FS} {pm : List AV → List AV} {n : Nat} (w : Wd G F (fun a => S1 a ∨ S2 a) H) (d : ∀ a, S1 a → S2 a → False) (r : StR K G H st σ S1) (a : AvsR K G H σ (pm us) vs S2) (hl : vs.length = n)
    (p : PostU K Wx G F H σ Q ((doF m pm us st).bind fun t st => .ok (.v t) st)) : SpF K n m vs H Q (fun cls d H' => Wx cls d σ H') := by
  have p1 : PostU K Wx G F H σ Q (R.bind (match takeL (pm us) st with
    | none => .no
    | some (ts, st1) => match m ts with
      | .ok r as => .ok r (putL (pm us) as st1)
      | .ex x as => .ex x (putL (pm us) as st1)
      | .no => .no) fun t st => .ok (.v t) st) := p
  cases e : takeL (pm us) st with
  | none => rw [e] at p1; exact p1.elim
  | some z =>
    obtain ⟨ts, st1⟩ := z
    rw [e] at p1
    obtain ⟨A, B, k1, k2, k3, k4, k5⟩ := take_rp r a d e
    have ss := avsS a
    refine ⟨hl, G, fun a => F a ∨ A a, B, ts, ?_, k2, ?_⟩
    · refine ⟨fun a g f => f.elim (w.gf a g) fun z => w.gs a g (.inl (k3 a z)), fun a g s => w.gs a g (k4 a s), fun a f s => f.elim (fun f => w.fs a f (k4 a s)) fun z => k5 a z s, w.dG, fun a f => f.elim (w.dF a) fun z => w.dS a (.inl (k3 a z)), fun a s => w.dS a (k4 a s)⟩
    · have p2 : PostU K Wx G F H σ Q (R.bind (match m ts with
        | .ok r as => .ok r (putL (pm us) as st1)
        | .ex x as => .ex x (putL (pm us) as st1)
        | .no => .no) fun t st => .ok (.v t) st) := p1
      have dFA : ∀ a, F a → A a → False := fun a f z => w.fs a f (.inl (k3 a z))
      cases em : m ts with
      | no => rw [em] at p2; exact p2.elim
      | ok r as =>
        rw [em] at p2
        intro v H' G' T1 T2 x1 w1 d1 ra rv
        refine p2 v H' G' (fun a => A a ∨ T1 a) T2 (x1.less fun _ z => .inl z) ?_ (fun a z1 z2 => z1.elim (fun z => w1.fs a (.inr z) (.inr z2)) fun z => d1 a z z2) ?_ rv
        · refine (w1.back dFA).less (fun _ z => z) fun a z => ?_
          rcases z with (z | z) | z
          · exact .inr z
          · exact .inl (.inl z)
          · exact .inl (.inr z)
        · exact put_rp (k1.keep x1.sub fun a z => x1.keep a (z.imp id .inr)) ss ra fun a z1 z2 => w1.fs a (.inr z1) (.inl z2)
      | ex x as =>
        rw [em] at p2
        intro cls d H' G' T1 x1 w1 ra xc
        refine p2 cls d H' G' (fun a => A a ∨ T1 a) (x1.less fun _ z => .inl z) ?_ ?_ xc
        · refine (w1.back dFA).less (fun _ z => z) fun a z => z.elim .inr .inl
        · exact put_rp (k1.keep x1.sub fun a z => x1.keep a (z.imp id .inr)) ss ra fun a z1 z2 => w1.fs a (.inr z1) z2
theorem call_core {K : PySem.W.Frag} {Wx : WX} {σ : L2.St} {H : Hp} {Q : VK} {m : FS} {ds : List T} {dv : List V} {f : SA} {n : Nat} (hd : Paired (fun t v => scV t = some v) ds dv) (hn : ∀ vs : List V, ∀ us st st', f st = .ok us st' → vs.length = us.length → (vs ++ dv).length = n) (h : RdU K Wx (uV (eCall m ds f)) σ H Q) :
    RdA K Wx f σ H fun vs H1 => SpF K n m (vs ++ dv) H1 Q (fun cls d H' => Wx cls d σ H') := by
  obtain ⟨G, F, S, st, w, r, p⟩ := h
  refine ⟨G, F, S, st, w, r, ?_⟩
  have p0 : PostU K Wx G F H σ Q (R.bind ((f st).bind fun us st => doF m (fun us => us ++ ds.map .v) us st) fun t st => .ok (.v t) st) := p
  cases e : f st with
  | ok us st1 =>
    rw [e] at p0
    intro vs H1 G1 S1 S2 x1 w1 d1 r1 a1
    have hl : vs.length = us.length := by
      clear p0 e
      induction us generalizing vs S2 with
      | nil => rw [show vs = [] from a1]; rfl
      | cons u us ih =>
        obtain ⟨v, vr, A, B, h1, h2, h3, h4, h5, h6⟩ := a1
        rw [h1, List.length_cons, List.length_cons, ih vr B (w1.less (fun _ z => z) fun a z => z.imp id (h5 a)) (fun a z1 z2 => d1 a z1 (h5 a z2)) h3]
    have p1 : PostU K Wx G F H σ Q ((doF m (fun us => us ++ ds.map .v) us st1).bind fun t st => .ok (.v t) st) := p0
    refine do_core w1 d1 r1 (pm := fun us => us ++ ds.map .v) (us := us) (avs_app a1 hd) (hn vs us st st1 e hl) ?_
    cases q : (doF m (fun us => us ++ ds.map .v) us st1) with
    | no => rw [q] at p1; exact p1
    | ok t st2 => rw [q] at p1; exact fun v H2 G2 A B x2 => p1 v H2 G2 A B (x1.trans x2)
    | ex x st2 => rw [q] at p1; exact fun cls d H2 G2 A x2 => p1 cls d H2 G2 A (x1.trans x2)
  | ex x st1 => rw [e] at p0; exact p0
  | no => rw [e] at p0; exact p0
/-- how many operands come -/
def LenA (f : SA) (n : Nat) : Prop := ∀ st us st', f st = .ok us st' → us.length = n
theorem lenA_nil : LenA aNil 0 := fun st us st' e => by cases e; rfl
theorem lenA_cons {f : SU} {g : SA} {n : Nat} (h : LenA g n) : LenA (aCons f g) (n + 1) := fun st us st' e => by
  unfold aCons at e
  cases e1 : f st with
  | no => rw [e1] at e; cases e
  | ex x s => rw [e1] at e; cases e
  | ok u s =>
    rw [e1] at e
    have e' : ((g s).bind fun us st => R.ok (u :: us) st) = .ok us st' := e
    cases e2 : g s with
    | no => rw [e2] at e'; cases e'
    | ex x s => rw [e2] at e'; cases e'
    | ok us2 s2 =>
      rw [e2] at e'
      cases e'
      rw [List.length_cons, h s us2 _ e2]
theorem sim_call {X : Cx} {x : Str} {p pos : Pos} {e : Expr} {es : List Expr} {f : Addr} {fd : FuncData} {ps : List Str} {k n j : Nat} {m : FS} {ds : List T} {dv : List V} {dd : List Value} {g : SA}
    (F : FnOk X.prog X.w X.K X.mg X.base (L2.CX X.prog X.w) k f fd ps (SpF X.K n m)) (hr : Room k X.A) (hg : Gl X x) (hm : X.mg x = some (.ref f)) (hk : PySem.W.keepIn X.K (.ref f) = true) (hb : Binds X.K fd ps dd) (hdv : Vals dv dd) (hd : Paired (fun t v => scV t = some v) ds dv)
    (ha : SimA X (e :: es) g) (hj : LenA g j) (hn : j + dv.length = n) (hdb : (x == ("__debug__" : Str)) = false := by decide) (he : starEach (e :: es) X.env = (false, eval e X.env) :: starEach es X.env := by rfl) (hpl : (backTo pos (starEach es X.env)).any (·.1) = false := by rfl) :
    SimE X (.Call (.Name x p) (e :: es) [] pos) (eCall m ds g) := fun Wx tk =>
  PE.imp (pe_callSD (E := WE Wx) F hr hg hm hk hb hdv (fun σ => passAt tk σ) (ha Wx tk) hdb he hpl) fun σ H Q h => call_core hd (fun vs us st st' e1 e2 => by rw [List.length_append, e2, hj st us st' e1, hn]) h
end
end Ev

/-! EvOps: indices, slices, chains, builtins by name. -/
namespace Ev
noncomputable section
open PySem PySem.Spec PyProof.Rows L2

section
variable {K : PySem.W.Frag} {G F S : AS} {H : Hp} {σ : L2.St} {Wx : WX} {Q : VK}
theorem rpl_get : ∀ {ts : List T} {vs : List V} {S : AS} {j : Nat} {t : T}, RpL K G H ts vs S → ts[j]? = some t → ∃ v S1, vs[j]? = some v ∧ Rp K G H t v S1 ∧ ∀ a, S1 a → S a
  | [], _, _, _, _, _, e => by simp at e
  | x :: ts, _, S, 0, t, ⟨v, vr, S1, S2, h1, h2, h3, h4, h5, h6⟩, e => by
    have e' : x = t := by simpa using e
    subst e' h1
    exact ⟨v, S1, rfl, h2, h4⟩
  | x :: ts, _, S, j + 1, t, ⟨v, vr, S1, S2, h1, h2, h3, h4, h5, h6⟩, e => by
    obtain ⟨w, A, k1, k2, k3⟩ := rpl_get (j := j) h3 (by simpa using e)
    subst h1
    exact ⟨w, A, by simpa using k1, k2, fun a z => h5 a (k3 a z)⟩
theorem at_rp {ts : List T} {vs : List V} {S : AS} {i : Int} {t : T} (r : RpL K G H ts vs S) (e : atI ts i = some t) : ∃ v S1, atI vs i = some v ∧ Rp K G H t v S1 := by
  unfold atI at e
  cases q : ixN ts.length i with
  | none => rw [q] at e; cases e
  | some j =>
    rw [q] at e
    obtain ⟨v, S1, k1, k2, _⟩ := rpl_get (j := j) r e
    refine ⟨v, S1, ?_, k2⟩
    unfold atI
    rw [← rpl_len r, q]
    exact k1
end
/-! ### t[i] -/
def atT (t : T) (i : Int) : Option T := match t with
  | .lst _ xs => match atI xs i with
    | some u => if frz u then some u else none
    | none => none
  | .tup xs => match atI xs i with
    | some u => if frz u then some u else none
    | none => none
  | .scr ns => (atI ns i).map .int
  | .str z => if decide (z.length ≤ sizeLine) then (atI z.cps.toList i).map fun c => .str ⟨#[c]⟩ else none
  | _ => none
def pIx : List T → Option T
  | [t, .int i] => atT t i
  | _ => none
theorem atI_map {α β : Type} {f : α → β} {xs : List α} {i : Int} : atI (xs.map f) i = (atI xs i).map f := by
  unfold atI
  rw [List.length_map]
  cases ixN xs.length i with
  | none => rfl
  | some j =>
    show (xs.map f)[j]? = (xs[j]?).map f
    rw [List.getElem?_map]
theorem pr_ix {K : PySem.W.Frag} : Pr K (on2 (rIx K)) pIx := fun G F S H ts vs t Q w o e k => by
  unfold pIx at e
  split at e
  · rename_i a i
    obtain ⟨v, u, S1, S2, rfl, _, _, r1, r2⟩ := ops2 o
    cases (show u = .int i from r2)
    unfold atT at e
    split at e
    · rename_i ob xs
      split at e
      · rename_i y hy
        split at e
        · rename_i f
          cases e
          obtain ⟨p, zs, rfl, hp, q1⟩ := lst_at r1
          obtain ⟨z, A, h1, h2⟩ := at_rp q1 hy
          exact .inl ⟨p, zs, i, z, rfl, rfl, .of hp, h1, old w (Rp.cold _ NoA f h2) k⟩
        · cases e
      · cases e
    · rename_i xs
      split at e
      · rename_i y hy
        split at e
        · rename_i f
          cases e
          obtain ⟨p, zs, rfl, hp, q1⟩ := r1
          obtain ⟨z, A, h1, h2⟩ := at_rp q1 hy
          exact .inr (.inl ⟨p, zs, i, z, rfl, rfl, hp.seq, h1, old w (Rp.cold _ NoA f h2) k⟩)
        · cases e
      · cases e
    · rename_i ns
      obtain ⟨p, rfl, hp⟩ := r1
      cases q : atI ns i with
      | none => rw [q] at e; cases e
      | some n =>
        rw [q] at e
        cases e
        exact .inl ⟨p, ns.map V.int, i, .int n, rfl, rfl, hp.seq, by rw [atI_map, q]; rfl, old w (t := .int n) rfl k⟩
    · rename_i z
      split at e
      · rename_i hz
        cases (show v = .str z from r1)
        cases q : atI z.cps.toList i with
        | none => rw [q] at e; cases e
        | some c =>
          rw [q] at e
          cases e
          exact .inr (.inr ⟨z, i, c, rfl, rfl, of_decide_eq_true hz, q, old w (t := .str ⟨#[c]⟩) rfl k⟩)
      · cases e
    · cases e
  · cases e
section
variable {X : Cx} {a b : Expr} {f g : SU} {pos : Pos}
theorem sim_ix (h1 : SimU X a f) (h2 : SimU X b g) (hs : PlainIx b := by intro _ _; rfl) : SimE X (.Subscript a b pos) (eP pIx (aCons f (aCons g aNil))) := sim_p2 pr_ix h1 h2 fun _ _ p q => pe_ix ix_seq p q hs
end
/-! ### ints on the way -/
def uI (f : SU) (k : Int → SU) : SU := fun st => (f st).bind fun u st => match u.get st with
  | some (.int i) => k i st
  | _ => .no
theorem RdU.int {K : PySem.W.Frag} {Wx : WX} {f : SU} {k : Int → SU} {σ : L2.St} {H : Hp} {Q : VK} (h : RdU K Wx (uI f k) σ H Q) : RdU K Wx f σ H fun v H1 => ∃ i, v = .int i ∧ RdU K Wx (k i) σ H1 Q := by
  obtain ⟨G, F, S, st, w, r, p⟩ := h
  unfold uI at p
  refine step_u w r (fun u st1 e1 v H1 G1 S1 S2 x1 w1 d1 r1 a1 => ?_) (fun x st1 e1 => ?_) (fun e1 => ?_)
  · rw [e1] at p
    have p1 : PostU K Wx G F H σ Q (match u.get st1 with
      | some (.int i) => k i st1
      | _ => .no) := p
    have hv : ∀ t, u.get st1 = some t → ∃ A, Rp K G1 H1 t v A := fun t e => by
      cases u with
      | v t' => cases e; exact ⟨S2, a1⟩
      | s i =>
        obtain ⟨v', C, D, k1, k2, k3, _⟩ := r1.get (join_some e)
        have k4 : σ[i]? = some (some v) := a1
        rw [k4] at k1
        cases k1
        exact ⟨C, k2⟩
    cases e2 : u.get st1 with
    | none => rw [e2] at p1; exact p1.elim
    | some t =>
      rw [e2] at p1
      cases t with
      | int i =>
        obtain ⟨A, ra⟩ := hv _ e2
        refine ⟨i, ra, G1, F, S1, st1, w1.less (fun _ z => z) fun _ z => .inl z, r1, ?_⟩
        have p2 : PostU K Wx G F H σ Q (k i st1) := p1
        cases e3 : k i st1 with
        | ok u2 st2 => rw [e3] at p2; exact fun v2 H2 G2 A B x2 => p2 v2 H2 G2 A B (x1.trans x2)
        | ex x2 st2 => rw [e3] at p2; exact fun cls d H2 G2 A x2 => p2 cls d H2 G2 A (x1.trans x2)
        | no => rw [e3] at p2; exact p2
      | _ => exact p1.elim
  · rw [e1] at p
    exact p
  · rw [e1] at p
    exact p
def uInt (f : SU) : SU := uI f fun i => uV (eC (.int i))
theorem int_core {K : PySem.W.Frag} {Wx : WX} {f : SU} {σ : L2.St} {H : Hp} {Q : VK} (h : RdU K Wx (uInt f) σ H Q) : RdU K Wx f σ H fun v H1 => ∃ i, v = .int i ∧ Q v H1 :=
  h.int.imp fun v H1 ⟨i, e, q⟩ => ⟨i, e, by rw [e]; exact const_done (v := .int i) rfl q⟩
/-! ### slices -/
def cutL {α : Type} (xs : List α) (lo hi : Option Int) : List α := (xs.drop (HT.sIx xs.length 0 lo)).take (HT.sIx xs.length xs.length hi - HT.sIx xs.length 0 lo)
theorem cutL_map {α β : Type} {f : α → β} {xs : List α} {lo hi : Option Int} : cutL (xs.map f) lo hi = (cutL xs lo hi).map f := by
  unfold cutL
  rw [List.length_map, List.map_take, List.map_drop]
theorem pr_cut {α β : Type} {R : α → β → Prop} {a : List α} {x : List β} (h : Paired R a x) (hl : a.length = x.length) (lo hi : Option Int) : Paired R (cutL a lo hi) (cutL x lo hi) := by
  unfold cutL
  rw [hl]
  exact pr_take _ (pr_drop _ h)
theorem cutL_whole {α : Type} {xs : List α} {lo hi : Option Int} (h : HT.sIx xs.length 0 lo = 0 ∧ HT.sIx xs.length xs.length hi = xs.length) : cutL xs lo hi = xs := by
  unfold cutL
  rw [h.1, h.2]
  simp
def slT (t : T) (lo hi : Option Int) : Option T := match t with
  | .lst _ xs => if frzL xs then some (.lst true (cutL xs lo hi)) else none
  | .tup xs => if frzL xs then some (.tup (cutL xs lo hi)) else none
  | .scr ns => some (.lst true ((cutL ns lo hi).map .int))
  | .str z => if decide (z.length ≤ sizeLine) then some (.str (cutS z lo hi)) else none
  | _ => none
def rSlG (K : PySem.W.Frag) : V → Option Int → Option Int → Hp → VK → Prop := fun x lo hi H Q => rSlL K x lo hi H Q ∨ (rSlA K x lo hi H Q ∨ rSlS x lo hi H Q)
theorem sl_g {X : Cx} : L2.SlR X (rSlG X.K) := L2.SlR.or sl_list (L2.SlR.or sl_tupA sl_str)
theorem sl_of {K : PySem.W.Frag} {G F S S1 : AS} {H : Hp} {t r : T} {v : V} {lo hi : Option Int} {Q : VK} (w : Wd G F S H) (r1 : Rp K G H t v S1) (e : slT t lo hi = some r) (k : ∀ v G' Sn H', New G H G' Sn H' → Rp K G' H' r v Sn → Q v H') : rSlG K v lo hi H Q := by
  unfold slT at e
  split at e
  · rename_i ob xs
    split at e
    · rename_i f
      cases e
      obtain ⟨p, zs, rfl, hp, q1⟩ := lst_at r1
      exact .inl ⟨p, zs, rfl, .of hp, new_lst w (pr_cut (cl_of f q1) (rpl_len q1) lo hi) k⟩
    · cases e
  · rename_i xs
    split at e
    · rename_i f
      cases e
      obtain ⟨p, zs, rfl, hp, q1⟩ := r1
      refine .inr (.inl ⟨p, zs, rfl, hp.seq, fun z => ?_, fun z => new_tup w (pr_cut (cl_of f q1) (rpl_len q1) lo hi) k⟩)
      rw [← rpl_len q1] at z
      rw [cutL_whole z] at k
      exact old w (t := .tup xs) ⟨p, zs, rfl, hp, RpL.cold xs NoA f q1⟩ k
    · cases e
  · rename_i ns
    cases e
    obtain ⟨p, rfl, hp⟩ := r1
    refine .inl ⟨p, ns.map V.int, rfl, hp.seq, ?_⟩
    have c := pr_cut (cl_ints (K := K) (G := G) (H := H) ns) (by simp) lo hi
    rw [cutL_map] at c
    exact new_lst w c k
  · rename_i z
    split at e
    · rename_i hz
      cases e
      cases (show v = .str z from r1)
      exact .inr (.inr ⟨z, rfl, of_decide_eq_true hz, old w (t := .str (cutS z lo hi)) rfl k⟩)
    · cases e
  · cases e
def pSl00 : List T → Option T
  | [t] => slT t none none
  | _ => none
def pSl10 : List T → Option T
  | [t, .int i] => slT t (some i) none
  | _ => none
def pSl01 : List T → Option T
  | [t, .int i] => slT t none (some i)
  | _ => none
def pSl11 : List T → Option T
  | [t, .int i, .int j] => slT t (some i) (some j)
  | _ => none
theorem ops3 {K : PySem.W.Frag} {G S : AS} {H : Hp} {t u z : T} {vs : List V} (h : OpsR K G H S [t, u, z] vs) : ∃ v w y S1 S2 S3, vs = [v, w, y] ∧ Rp K G H t v S1 ∧ Rp K G H u w S2 ∧ Rp K G H z y S3 := by
  obtain ⟨v, vr, S1, h1, h2, h3, h4⟩ := h
  obtain ⟨w, y, S2, S3, e, _, _, h5, h6⟩ := ops2 h4
  subst h1 e
  exact ⟨v, w, y, S1, S2, S3, rfl, h3, h5, h6⟩
theorem pr_sl00 {K : PySem.W.Frag} : Pr K (on1 fun x H Q => rSlG K x none none H Q) pSl00 := fun G F S H ts vs t Q w o e k => by
  unfold pSl00 at e
  split at e
  · obtain ⟨v, S1, rfl, _, r1⟩ := ops1 o
    exact sl_of w r1 e k
  · cases e
theorem pr_sl10 {K : PySem.W.Frag} : Pr K (on2 fun x y H Q => ∃ i, y = .int i ∧ rSlG K x (some i) none H Q) pSl10 := fun G F S H ts vs t Q w o e k => by
  unfold pSl10 at e
  split at e
  · obtain ⟨v, u, S1, S2, rfl, _, _, r1, r2⟩ := ops2 o
    exact ⟨_, r2, sl_of w r1 e k⟩
  · cases e
theorem pr_sl01 {K : PySem.W.Frag} : Pr K (on2 fun x y H Q => ∃ i, y = .int i ∧ rSlG K x none (some i) H Q) pSl01 := fun G F S H ts vs t Q w o e k => by
  unfold pSl01 at e
  split at e
  · obtain ⟨v, u, S1, S2, rfl, _, _, r1, r2⟩ := ops2 o
    exact ⟨_, r2, sl_of w r1 e k⟩
  · cases e
def on3 (r : V → V → V → Hp → VK → Prop) : List V → Hp → VK → Prop := fun vs H Q => match vs with
  | [x, y, z] => r x y z H Q
  | _ => False
theorem pr_sl11 {K : PySem.W.Frag} : Pr K (on3 fun x y z H Q => ∃ i j, y = .int i ∧ z = .int j ∧ rSlG K x (some i) (some j) H Q) pSl11 := fun G F S H ts vs t Q w o e k => by
  unfold pSl11 at e
  split at e
  · obtain ⟨v, u, y, S1, S2, S3, rfl, r1, r2, r3⟩ := ops3 o
    exact ⟨_, _, r2, r3, sl_of w r1 e k⟩
  · cases e
section
variable {X : Cx} {a b c : Expr} {f g k : SU} {pos p2 : Pos}
theorem sim_sl00 (h1 : SimU X a f) : SimE X (.Subscript a (.Slice none none none p2) pos) (eP pSl00 (aCons f aNil)) := fun Wx tk =>
  PE.imp (pe_slice sl_g (h1 Wx tk) po_none po_none) fun σ H Q q => one_core (prim_core pr_sl00 q)
theorem sim_sl10 (h1 : SimU X a f) (h2 : SimU X b g) : SimE X (.Subscript a (.Slice (some b) none none p2) pos) (eP pSl10 (aCons f (aCons (uInt g) aNil))) := fun Wx tk =>
  PE.imp (pe_slice sl_g (h1 Wx tk) (po_some (h2 Wx tk)) po_none) fun σ H Q q => (two_core (prim_core pr_sl10 q)).imp fun x H1 q => (int_core q).imp fun y H2 ⟨i, e, i', e', q⟩ => ⟨i', e', q⟩
theorem sim_sl01 (h1 : SimU X a f) (h2 : SimU X b g) : SimE X (.Subscript a (.Slice none (some b) none p2) pos) (eP pSl01 (aCons f (aCons (uInt g) aNil))) := fun Wx tk =>
  PE.imp (pe_slice sl_g (h1 Wx tk) po_none (po_some (h2 Wx tk))) fun σ H Q q => (two_core (prim_core pr_sl01 q)).imp fun x H1 q => (int_core q).imp fun y H2 ⟨i, e, i', e', q⟩ => ⟨i', e', q⟩
theorem sim_sl11 (h1 : SimU X a f) (h2 : SimU X b g) (h3 : SimU X c k) : SimE X (.Subscript a (.Slice (some b) (some c) none p2) pos) (eP pSl11 (aCons f (aCons (uInt g) (aCons (uInt k) aNil)))) := fun Wx tk =>
  PE.imp (pe_slice sl_g (h1 Wx tk) (po_some (h2 Wx tk)) (po_some (h3 Wx tk))) fun σ H Q q => (three_core (prim_core pr_sl11 q)).imp fun x H1 q => (int_core q).imp fun y H2 ⟨i, e, q⟩ => ⟨i, e, (int_core q).imp fun z H3 ⟨j, e2, i', j', e3, e4, q⟩ => ⟨j', e4, by
    rw [e] at e3
    cases e3
    exact q⟩⟩
end
/-! ### chains of ints -/
def uCh (c1 c2 : Int → Int → Bool) (f g k : SU) : SU := uI f fun x => uI g fun y => if c1 x y then uI k fun z => uV (eC (.bl (c2 y z))) else uV (eC (.bl false))
theorem ch_core {K : PySem.W.Frag} {Wx : WX} {f g k : SU} {c1 c2 : Int → Int → Bool} {σ : L2.St} {H : Hp} {Q : VK} (h : RdU K Wx (uCh c1 c2 f g k) σ H Q) : tChain (rI0 fun i j => .bl (c1 i j)) (rI0 fun i j => .bl (c2 i j)) (RdU K Wx f) (RdU K Wx g) (RdU K Wx k) σ H Q :=
  h.int.imp fun x H1 ⟨i, e1, h1⟩ => h1.int.imp fun y H2 ⟨j, e2, h2⟩ => ⟨i, j, e1, e2, _, rfl, by
    by_cases hc : c1 i j = true
    · rw [if_pos hc] at h2 ⊢
      exact h2.int.imp fun z H3 ⟨l, e3, h3⟩ => ⟨j, l, e2, e3, const_done (v := .bl (c2 j l)) rfl h3⟩
    · rw [if_neg hc] at h2 ⊢
      exact const_done (v := .bl false) rfl h2⟩
section
variable {X : Cx} {a b c : Expr} {f g k : SU} {pos : Pos} {op op' : CmpOp} {c1 c2 : Int → Int → Bool}
theorem sim_uch (ho : OpR X (compareOp op) (rI0 fun i j => .bl (c1 i j))) (ho' : OpR X (compareOp op') (rI0 fun i j => .bl (c2 i j))) (h1 : SimU X a f) (h2 : SimU X b g) (h3 : SimU X c k) (hm : lastMarks [op, op'] [b, c] = false := by with_unfolding_all rfl) : SimU X (.Compare a [op, op'] [b, c] pos) (uCh c1 c2 f g k) := fun Wx tk =>
  PE.imp (pe_chain ho ho' (h1 Wx tk) (h2 Wx tk) (h3 Wx tk) hm) fun σ H Q q => ch_core q
/-- .. as a test -/
def tU (f : SU) : ST := bOf (eOf f)
theorem sim_tch (ho : OpR X (compareOp op) (rI0 fun i j => .bl (c1 i j))) (ho' : OpR X (compareOp op') (rI0 fun i j => .bl (c2 i j))) (h1 : SimU X a f) (h2 : SimU X b g) (h3 : SimU X c k) (hm : lastMarks [op, op'] [b, c] = false := by with_unfolding_all rfl) : SimT X (.Compare a [op, op'] [b, c] pos) (bOf (eOf (uCh c1 c2 f g k))) := fun Wx tk =>
  PT.imp (pt_chain ho ho' (h1 Wx tk) (h2 Wx tk) (h3 Wx tk) hm) fun σ H Q q => ch_core (by
    have q1 := bOf_core q
    obtain ⟨G, F, S, st, w, r, p⟩ := q1
    refine ⟨G, F, S, st, w, r, ?_⟩
    unfold uV eOf at p
    cases e : uCh c1 c2 f g k st with
    | no => rw [e] at p; exact p
    | ex x s => rw [e] at p; exact p
    | ok u s =>
      rw [e] at p
      cases u with
      | v t => exact p
      | s i => exact p.elim)
end
end
end Ev

/-! EvCall: calls with keywords and defaults. -/
namespace Ev
noncomputable section
open PySem PySem.Spec PyProof.Rows L2

/-! ### picks -/
theorem nodup_inj : ∀ {l : List Nat} {i j : Nat}, l.Nodup → (hi : i < l.length) → (hj : j < l.length) → l[i] = l[j] → i = j
  | [], i, j, _, hi, _, _ => absurd hi (Nat.not_lt_zero _)
  | x :: l, 0, 0, _, _, _, _ => rfl
  | x :: l, 0, j + 1, h, _, hj, e => by
    have hj2 : j < l.length := by simpa using hj
    have e2 : x = l[j] := by simpa using e
    exact absurd (e2 ▸ List.getElem_mem hj2) (List.nodup_cons.mp h).1
  | x :: l, i + 1, 0, h, hi, _, e => by
    have hi2 : i < l.length := by simpa using hi
    have e2 : l[i] = x := by simpa using e
    exact absurd (e2 ▸ List.getElem_mem hi2) (List.nodup_cons.mp h).1
  | x :: l, i + 1, j + 1, h, hi, hj, e => congrArg Nat.succ (nodup_inj (List.nodup_cons.mp h).2 (by simpa using hi) (by simpa using hj) (by simpa using e))
def pick {α : Type} (ixs : List Nat) (l : List α) : List α := ixs.filterMap (l[·]?)
theorem pick_length {α : Type} {l : List α} : ∀ {ixs : List Nat}, (∀ i ∈ ixs, i < l.length) → (pick ixs l).length = ixs.length
  | [], _ => rfl
  | i :: ixs, h => by
    have e : l[i]? = some (l[i]'(h i (List.mem_cons_self ..))) := List.getElem?_eq_getElem _
    unfold pick
    rw [List.filterMap_cons_some e, List.length_cons, List.length_cons]
    exact congrArg Nat.succ (pick_length fun j hj => h j (List.mem_cons_of_mem _ hj))
theorem pick_get {α : Type} {l : List α} : ∀ {ixs : List Nat}, (∀ i ∈ ixs, i < l.length) → ∀ {j : Nat} {x : α}, (pick ixs l)[j]? = some x → ∃ i, ixs[j]? = some i ∧ l[i]? = some x
  | [], _, j, x, e => by simp [pick] at e
  | i :: ixs, h, j, x, e => by
    have e0 : l[i]? = some (l[i]'(h i (List.mem_cons_self ..))) := List.getElem?_eq_getElem _
    unfold pick at e
    rw [List.filterMap_cons_some e0] at e
    cases j with
    | zero => exact ⟨i, rfl, by rw [e0]; simpa using e⟩
    | succ j =>
      obtain ⟨i', h1, h2⟩ := pick_get (fun j hj => h j (List.mem_cons_of_mem _ hj)) (j := j) (x := x) (by simpa [pick] using e)
      exact ⟨i', by simpa using h1, h2⟩
theorem vals_len {xs : List V} {us : List Value} (h : Vals xs us) : xs.length = us.length := h.length
theorem vals_pick {xs : List V} {us : List Value} (h : Vals xs us) : ∀ (ixs : List Nat), Vals (pick ixs xs) (pick ixs us)
  | [] => .nil
  | i :: ixs => by
    have ih := vals_pick h ixs
    unfold pick at ih ⊢
    cases e : xs[i]? with
    | none =>
      have e2 : us[i]? = none := by
        rw [List.getElem?_eq_none_iff] at e ⊢
        rw [← h.length]
        exact e
      rw [List.filterMap_cons_none e, List.filterMap_cons_none e2]
      exact ih
    | some x =>
      obtain ⟨u, e2, r⟩ := h.get e
      rw [List.filterMap_cons_some e, List.filterMap_cons_some e2]
      exact .cons r ih
section
variable {K : PySem.W.Frag} {G : AS} {H : Hp} {σ : L2.St} {Wx : WX}
theorem avs_len : ∀ {us : List AV} {vs : List V} {S : AS}, AvsR K G H σ us vs S → us.length = vs.length
  | [], _, _, h => by rw [show _ = ([] : List V) from h]; rfl
  | u :: us, _, _, ⟨v, vr, A, B, h1, h2, h3, _⟩ => by rw [h1, List.length_cons, List.length_cons, avs_len h3]
theorem avs_fam : ∀ {us : List AV} {vs : List V} {S : AS}, AvsR K G H σ us vs S → ∃ A : Nat → AS, (∀ i u v, us[i]? = some u → vs[i]? = some v → AvR K G H σ u v (A i)) ∧ (∀ i a, A i a → S a) ∧ (∀ i j a, i ≠ j → A i a → A j a → False)
  | [], _, _, _ => ⟨fun _ => NoA, fun i u v h => by simp at h, fun _ _ z => z.elim, fun _ _ _ _ z => z.elim⟩
  | u :: us, _, S, ⟨v, vr, S1, S2, h1, h2, h3, h4, h5, h6⟩ => by
    obtain ⟨A, k1, k2, k3⟩ := avs_fam h3
    subst h1
    refine ⟨fun i => match i with
      | 0 => S1
      | i + 1 => A i, fun i u' v' e1 e2 => ?_, fun i a z => ?_, fun i j a ne z1 z2 => ?_⟩
    · cases i with
      | zero =>
        cases (show some u = some u' from e1)
        cases (show some v = some v' from e2)
        exact h2
      | succ i => exact k1 i u' v' (by simpa using e1) (by simpa using e2)
    · cases i with
      | zero => exact h4 a z
      | succ i => exact h5 a (k2 i a z)
    · cases i with
      | zero =>
        cases j with
        | zero => exact ne rfl
        | succ j => exact h6 a z1 (k2 j a z2)
      | succ i =>
        cases j with
        | zero => exact h6 a z2 (k2 i a z1)
        | succ j => exact k3 i j a (fun e => ne (by rw [e])) z1 z2
theorem fam_avs : ∀ {us : List AV} {vs : List V} {S : AS} (A : Nat → AS), us.length = vs.length → (∀ i u v, us[i]? = some u → vs[i]? = some v → AvR K G H σ u v (A i)) → (∀ i a, i < us.length → A i a → S a) → (∀ i j a, i < us.length → j < us.length → i ≠ j → A i a → A j a → False) → AvsR K G H σ us vs S
  | [], vs, _, _, hl, _, _, _ => by
    have e : vs = [] := List.length_eq_zero_iff.mp hl.symm
    exact e
  | u :: us, [], _, _, hl, _, _, _ => by cases hl
  | u :: us, v :: vs, S, A, hl, h1, h2, h3 =>
    ⟨v, vs, A 0, fun a => ∃ i, i < us.length ∧ A (i + 1) a, rfl, h1 0 u v rfl rfl, fam_avs (fun i => A (i + 1)) (by simpa using hl) (fun i u' v' e1 e2 => h1 (i + 1) u' v' (by simpa using e1) (by simpa using e2)) (fun i a hi z => ⟨i, hi, z⟩) (fun i j a hi hj ne z1 z2 => h3 (i + 1) (j + 1) a (by simpa using hi) (by simpa using hj) (fun e => ne (by omega)) z1 z2),
      fun a z => h2 0 a (by simp) z, fun a ⟨i, hi, z⟩ => h2 (i + 1) a (by simpa using hi) z, fun a z1 ⟨i, hi, z2⟩ => h3 0 (i + 1) a (by simp) (by simpa using hi) (by omega) z1 z2⟩
theorem avs_pick {us : List AV} {vs : List V} {S : AS} {ixs : List Nat} (h : AvsR K G H σ us vs S) (hn : ixs.Nodup) (hi : ∀ i ∈ ixs, i < us.length) : AvsR K G H σ (pick ixs us) (pick ixs vs) S := by
  obtain ⟨A, k1, k2, k3⟩ := avs_fam h
  have hi2 : ∀ i ∈ ixs, i < vs.length := fun i z => by rw [← avs_len h]; exact hi i z
  refine fam_avs (fun j => A (ixs.getD j 0)) (by rw [pick_length hi, pick_length hi2]) (fun j u v e1 e2 => ?_) (fun j a _ z => k2 _ a z) (fun i j a hi1 hj1 ne z1 z2 => ?_)
  · obtain ⟨i, a1, a2⟩ := pick_get hi e1
    obtain ⟨i', b1, b2⟩ := pick_get hi2 e2
    rw [a1] at b1
    cases b1
    show AvR K G H σ u v (A (ixs.getD j 0))
    rw [List.getD_eq_getElem?_getD, a1]
    exact k1 i u v a2 b2
  · rw [pick_length hi] at hi1 hj1
    refine k3 _ _ a (fun e => ne ?_) z1 z2
    rw [List.getD_eq_getElem?_getD, List.getD_eq_getElem?_getD, List.getElem?_eq_getElem hi1, List.getElem?_eq_getElem hj1] at e
    exact nodup_inj hn hi1 hj1 e
/-- one list of operands behind another -/
def aApp (f g : SA) : SA := fun st => (f st).bind fun us st => (g st).bind fun zs st => .ok (us ++ zs) st
theorem avs_app2 {F : AS} : ∀ {us : List AV} {vs : List V} {zs : List AV} {ws : List V} {S1 S2 S : AS}, AvsR K G H σ us vs S1 → AvsR K G H σ zs ws S2 → (∀ a, S1 a → S a) → (∀ a, S2 a → S a) → (∀ a, S1 a → S2 a → False) → AvsR K G H σ (us ++ zs) (vs ++ ws) S
  | [], _, zs, ws, _, S2, S, h, h', _, s2, _ => by
    rw [show _ = ([] : List V) from h]
    show AvsR K G H σ zs ws S
    cases zs with
    | nil => exact h'
    | cons z zs =>
      obtain ⟨v, vr, A, B, h1, h2, h3, h4, h5, h6⟩ := h'
      exact ⟨v, vr, A, B, h1, h2, h3, fun a q => s2 a (h4 a q), fun a q => s2 a (h5 a q), h6⟩
  | u :: us, _, zs, ws, S1, S2, S, ⟨v, vr, A, B, h1, h2, h3, h4, h5, h6⟩, h', s1, s2, d => by
    rw [h1]
    exact ⟨v, vr ++ ws, A, fun a => B a ∨ S2 a, rfl, h2, avs_app2 (F := F) h3 h' (fun _ z => .inl z) (fun _ z => .inr z) (fun a z1 z2 => d a (h5 a z1) z2), fun a z => s1 a (h4 a z), fun a z => z.elim (fun z => s1 a (h5 a z)) (s2 a), fun a z1 z2 => z2.elim (h6 a z1) (d a (h4 a z1))⟩
theorem app_core {f g : SA} {H : Hp} {Q : List V → Hp → Prop} (h : RdA K Wx (aApp f g) σ H Q) : RdA K Wx f σ H fun vs H1 => RdA K Wx g σ H1 fun ws H2 => Q (vs ++ ws) H2 := by
  obtain ⟨G, F, S, st, w, r, p⟩ := h
  refine ⟨G, F, S, st, w, r, ?_⟩
  have p0 : PostA K Wx G F H σ Q ((f st).bind fun us st => (g st).bind fun zs st => .ok (us ++ zs) st) := p
  cases e1 : f st with
  | ex x s => rw [e1] at p0; exact p0
  | no => rw [e1] at p0; exact p0
  | ok us st1 =>
    rw [e1] at p0
    intro vs H1 G1 S1 S2 x1 w1 d1 r1 a1
    refine ⟨G1, _, S1, st1, w1.lend d1, r1, ?_⟩
    have p1 : PostA K Wx G F H σ Q ((g st1).bind fun zs st => .ok (us ++ zs) st) := p0
    cases e2 : g st1 with
    | ok zs st2 =>
      rw [e2] at p1
      intro ws H2 G2 S3 S4 x2 w2 d2 r2 a2
      refine p1 (vs ++ ws) H2 G2 S3 (fun a => S2 a ∨ S4 a) (x1.trans (x2.less fun _ z => .inl z)) ?_ ?_ r2 (avs_app2 (F := F) (a1.keep x2.sub fun a q => x2.keep a (q.imp id .inr)) a2 (fun _ z => .inl z) (fun _ z => .inr z) fun a z1 z2 => w2.fs a (.inr z1) (.inr z2))
      · have w3 := w2.back fun a z1 z2 => w1.fs a z1 (.inr z2)
        exact w3.less (fun _ z => z) fun a z => z.elim (fun q => .inl (.inl q)) fun q => q.elim .inr fun q => .inl (.inr q)
      · exact fun a z1 z2 => z2.elim (fun q => w2.fs a (.inr q) (.inl z1)) (d2 a z1)
    | ex x st2 =>
      rw [e2] at p1
      intro cls d H2 G2 S3 x2 w2 r2 q2
      exact p1 cls d H2 G2 S3 (x1.trans (x2.less fun _ z => .inl z)) (w2.less (fun _ z => .inl z) fun _ z => z) r2 q2
    | no =>
      rw [e2] at p1
      exact p1
theorem RdA.len {f : SA} {n : Nat} {H : Hp} {Q : List V → Hp → Prop} (hl : LenA f n) (h : RdA K Wx f σ H Q) : RdA K Wx f σ H fun vs H1 => vs.length = n ∧ Q vs H1 := by
  obtain ⟨G, F, S, st, w, r, p⟩ := h
  refine ⟨G, F, S, st, w, r, ?_⟩
  cases e : f st with
  | ex x s => rw [e] at p; exact p
  | no => rw [e] at p; exact p
  | ok us s =>
    rw [e] at p
    exact fun vs H1 G1 S1 S2 x1 w1 d1 r1 a1 => ⟨(avs_len a1).symm.trans (hl _ _ _ e), p vs H1 G1 S1 S2 x1 w1 d1 r1 a1⟩
theorem lenA_app {f g : SA} {n m : Nat} (h1 : LenA f n) (h2 : LenA g m) : LenA (aApp f g) (n + m) := fun st us st' e => by
  unfold aApp at e
  cases e1 : f st with
  | no => rw [e1] at e; cases e
  | ex x s => rw [e1] at e; cases e
  | ok u s =>
    rw [e1] at e
    have e' : ((g s).bind fun zs st => R.ok (u ++ zs) st) = .ok us st' := e
    cases e2 : g s with
    | no => rw [e2] at e'; cases e'
    | ex x s => rw [e2] at e'; cases e'
    | ok us2 s2 =>
      rw [e2] at e'
      cases e'
      rw [List.length_append, h1 _ _ _ e1, h2 _ _ _ e2]
end
def SimK (X : Cx) (kws : List Keyword) (f : SA) : Prop := ∀ Wx, Takes X Wx → PK X kws (RdA X.K Wx f)
theorem PK.imp {X : Cx} {e : List Keyword} {t t' : TA} (h : PK X e t) (i : ∀ σ H Q, t' σ H Q → t σ H Q) : PK X e t' := ⟨fun pos pins s σ H Q I q => h.run pos pins s σ H Q I (i σ H Q q)⟩
theorem sim_knil {X : Cx} : SimK X [] aNil := fun Wx tk => PK.imp pk_nil fun σ H Q h => nil_core h
theorem sim_kcons {X : Cx} {e : Expr} {kws : List Keyword} {nm : Option Str} {kpos : Pos} {f : SU} {g : SA} (h1 : SimU X e f) (h2 : SimK X kws g) : SimK X (⟨nm, e, kpos⟩ :: kws) (aCons f g) := fun Wx tk =>
  PK.imp (pk_cons (h1 Wx tk) (h2 Wx tk)) fun σ H Q h => cons_core h

/-! ### binding by keywords -/
section
variable {K : PySem.W.Frag} {x qual : Str} {params : Arguments} {body : List Stmt} {scope : Scope} {dvs : List V} {kws : List (Str × V)} {f : Addr} {fd : FuncData} {ps : List Str}
theorem kb_some (F : FunD K x qual params body scope dvs kws f fd) (n : Nat) (ks : List Str) (ixs : List Nat) (hd : dvs ≠ [])
    (h : ∀ (T : Addr) (kV doc pm : Value) (an : Option Addr) (cdv ct : Value) (us its ws : List Value), us.length = n → its.length = dvs.length → ws.length = ks.length →
      ∃ k, bindArgs (PySem.W.fnOf x qual params body scope (.ref T) kV doc pm an cdv ct) ⟨us, ks.zip ws⟩ = seqItems? (.ref T) >>= k ∧ k (some its.toArray) = pure (ps.zip (pick ixs ((us ++ ws) ++ its)))) :
    ∃ its : List Value, KBn K fd ps n ks (fun us ws => pick ixs ((us ++ ws) ++ its)) (fun vs zs => pick ixs ((vs ++ zs) ++ dvs)) := by
  obtain ⟨oc, od, dV, kV, doc, pm, an, cdv, ct, osl, rfl, lk, hcd, hD, hK⟩ := F.ex
  rcases hD with ⟨e, _⟩ | ⟨_, T, o, its, m, rfl, lT, oT, rT⟩
  · exact absurd e hd
  · refine ⟨its, ⟨fun s us ws X l1 l2 => ?_, fun r1 r2 => vals_pick ((r1.append r2).append rT) ixs⟩⟩
    obtain ⟨k, e1, e2⟩ := h T kV doc pm an cdv ct us its ws l1 rT.length.symm l2
    refine BindsTo.of_looks fun M => ?_
    rw [e1]
    exact looks_items X lT oT (.of_pure e2)
theorem kb_none (F : FunD K x qual params body scope [] kws f fd) (n : Nat) (ks : List Str) (ixs : List Nat)
    (h : ∀ (kV doc pm : Value) (an : Option Addr) (cdv ct : Value) (us ws : List Value), us.length = n → ws.length = ks.length →
      bindArgs (PySem.W.fnOf x qual params body scope .none kV doc pm an cdv ct) ⟨us, ks.zip ws⟩ = pure (ps.zip (pick ixs (us ++ ws)))) :
    ∃ its : List Value, KBn K fd ps n ks (fun us ws => pick ixs ((us ++ ws) ++ its)) (fun vs zs => pick ixs ((vs ++ zs) ++ [])) := by
  obtain ⟨oc, od, dV, kV, doc, pm, an, cdv, ct, osl, rfl, lk, hcd, hD, hK⟩ := F.ex
  rcases hD with ⟨_, rfl⟩ | ⟨e, _⟩
  · refine ⟨[], ⟨fun s us ws X l1 l2 => BindsTo.of_looks fun M => .of_pure ?_, fun r1 r2 => vals_pick ((r1.append r2).append .nil) ixs⟩⟩
    rw [List.append_nil]
    exact h kV doc pm an cdv ct us ws l1 l2
  · exact absurd rfl e
end
/-- f(e, .., k = v, ..) -/
def eCallK (m : FS) (ixs : List Nat) (ds : List T) (f : SA) : SE := fun st => (f st).bind fun us st => doF m (fun us => pick ixs (us ++ ds.map .v)) us st
theorem pick_lt {ixs : List Nat} {n : Nat} (h : ixs.all (fun i => decide (i < n)) = true) : ∀ i ∈ ixs, i < n := fun i z => of_decide_eq_true (List.all_eq_true.mp h i z)
theorem callK_core {K : PySem.W.Frag} {Wx : WX} {σ : L2.St} {H : Hp} {Q : VK} {m : FS} {ixs : List Nat} {ds : List T} {dv : List V} {f g : SA} {n n1 n2 : Nat} (hd : Paired (fun t v => scV t = some v) ds dv) (hf : LenA f n1) (hg : LenA g n2)
    (hn : ixs.Nodup) (hi : ixs.all (fun i => decide (i < n1 + n2 + dv.length)) = true) (hl : ixs.length = n) (h : RdU K Wx (uV (eCallK m ixs ds (aApp f g))) σ H Q) :
    RdA K Wx f σ H fun vs H1 => RdA K Wx g σ H1 fun zs H2 => vs.length = n1 ∧ zs.length = n2 ∧ SpF K n m (pick ixs ((vs ++ zs) ++ dv)) H2 Q (fun cls d H' => Wx cls d σ H') := by
  have hf2 : LenA (aApp f g) (n1 + n2) := lenA_app hf hg
  have hdl : ds.length = dv.length := by
    clear hi h
    induction hd with
    | nil => rfl
    | cons _ _ ih => rw [List.length_cons, List.length_cons, ih]
  have key : RdA K Wx (aApp f g) σ H fun vs H2 => SpF K n m (pick ixs (vs ++ dv)) H2 Q (fun cls d H' => Wx cls d σ H') := by
    obtain ⟨G, F, S, st, w, r, p⟩ := h
    refine ⟨G, F, S, st, w, r, ?_⟩
    have p0 : PostU K Wx G F H σ Q (R.bind (((aApp f g) st).bind fun us st => doF m (fun us => pick ixs (us ++ ds.map .v)) us st) fun t st => .ok (.v t) st) := p
    cases e : (aApp f g) st with
    | ex x st1 => rw [e] at p0; exact p0
    | no => rw [e] at p0; exact p0
    | ok us st1 =>
      rw [e] at p0
      intro vs H1 G1 S1 S2 x1 w1 d1 r1 a1
      have p1 : PostU K Wx G F H σ Q ((doF m (fun us => pick ixs (us ++ ds.map .v)) us st1).bind fun t st => .ok (.v t) st) := p0
      have hu : us.length = n1 + n2 := hf2 _ _ _ e
      have hv : vs.length = n1 + n2 := (avs_len a1).symm.trans hu
      have a2 := avs_app a1 hd
      have hall := pick_lt hi
      have a3 := avs_pick (ixs := ixs) a2 hn fun i z => by
        rw [List.length_append, List.length_map, hu, hdl]
        exact hall i z
      refine do_core w1 d1 r1 (pm := fun us => pick ixs (us ++ ds.map .v)) (us := us) a3 ?_ ?_
      · rw [pick_length fun i z => by rw [List.length_append, hv]; exact hall i z]
        exact hl
      · cases q : (doF m (fun us => pick ixs (us ++ ds.map .v)) us st1) with
        | no => rw [q] at p1; exact p1
        | ok t st2 => rw [q] at p1; exact fun v H2 G2 A B x2 => p1 v H2 G2 A B (x1.trans x2)
        | ex x st2 => rw [q] at p1; exact fun cls d H2 G2 A x2 => p1 cls d H2 G2 A (x1.trans x2)
  exact RdA.imp (RdA.len hf (app_core key)) fun vs H1 ⟨l1, q⟩ => RdA.imp (RdA.len hg q) fun zs H2 ⟨l2, q⟩ => ⟨l1, l2, q⟩
section
variable {X : Cx} {x : Str} {p pos : Pos} {e : Expr} {es : List Expr} {kws : List Keyword} {f : Addr} {fd : FuncData} {ps ks : List Str} {k n n1 : Nat} {m : FS} {ixs : List Nat} {ds : List T} {dv : List V} {fa ga : SA} {its : List Value}
theorem run_fnK {pins : List (Addr × Obj)} {CX : CXT} {sp : Sp} {g : List Value → List Value → List Value} {gV : List V → List V → List V} {σ : L2.St} {H : Hp} {s : Shared} {Q : VK} {us ws : List Value} {vs zs : List V} {E : L2.St → XK} (F : FnOk X.prog X.w X.K X.mg X.base CX k f fd ps sp) (hr : Room k X.A) (hb : KBn X.K fd ps n ks g gV) (hx : PassesAt CX X σ (E σ))
    (I : Inv X pins σ H s) (r : Vals vs us) (rz : Vals zs ws) (l1 : vs.length = n) (l2 : zs.length = ks.length) (h : sp (gV vs zs) H Q (E σ)) : wpAny (model X.prog X.w) X.A (call (.ref f) us (ks.zip ws)) (EP X pins σ Q) X.xe s := by
  have r2 := hb.rel r rz
  refine wpAny_call (codeAny_mono (F.run X.A X.stack s H ⟨us, ks.zip ws⟩ (g us ws) (gV vs zs) Q (E σ) hr I.env0 (hb.to s us ws I.kIn (r.length.symm.trans l1) (rz.length.symm.trans l2)) r2 h) fun r s' hq => ?_)
  cases r with
  | error e => exact hx pins H s e s' I hq
  | ok fl =>
    cases fl with
    | ret u => exact I.after hq
    | next => exact False.elim hq
    | brk => exact False.elim hq
    | cont => exact False.elim hq
theorem sim_callK (F : FnOk X.prog X.w X.K X.mg X.base (L2.CX X.prog X.w) k f fd ps (SpF X.K n m)) (hr : Room k X.A) (hg : Gl X x) (hm : X.mg x = some (.ref f)) (hk : PySem.W.keepIn X.K (.ref f) = true)
    (hb : KBn X.K fd ps n1 ks (fun us ws => pick ixs ((us ++ ws) ++ its)) (fun vs zs => pick ixs ((vs ++ zs) ++ dv))) (hd : Paired (fun t v => scV t = some v) ds dv)
    (ha : SimA X (e :: es) fa) (hkw : SimK X kws ga) (la : LenA fa n1) (lg : LenA ga ks.length) (hn : ixs.Nodup) (hi : ixs.all (fun i => decide (i < n1 + ks.length + dv.length)) = true) (hl : ixs.length = n)
    (hall : (backToKw pos (keywordEach kws X.env)).all (·.1.isSome) = true := by rfl) (hks : (backToKw pos (keywordEach kws X.env)).filterMap (·.1) = ks := by rfl)
    (hdb : (x == ("__debug__" : Str)) = false := by decide) (he : starEach (e :: es) X.env = (false, eval e X.env) :: starEach es X.env := by rfl)
    (hpl : ((backTo pos (starEach (e :: es) X.env)).any (·.1) || (backToKw pos (keywordEach kws X.env)).any (·.1.isNone)) = false := by rfl) : SimE X (.Call (.Name x p) (e :: es) kws pos) (eCallK m ixs ds (aApp fa ga)) := fun Wx tk => by
  refine ⟨fun pins s σ H Q I h => ?_⟩
  have h1 := callK_core hd la lg hn hi hl h
  refine wpAny_Call_Name_kw (ld_glob I hg hm ?_ hdb)
  refine PySem.W.callWith_KW (h₀ := X.base) I.ok.mod.kin hk hall (thn ((ha Wx tk).run pos pins s σ H _ I h1) fun us s1 ⟨vs, H1, I1, r, q⟩ => ?_) hpl he
  refine thn ((hkw Wx tk).run pos pins s1 σ H1 _ I1 q) fun ws s2 ⟨zs, H2, I2, rz, l1, l2, q2⟩ => ⟨I2.kIn, ?_⟩
  rw [hks]
  exact run_fnK (E := WE Wx) F hr hb (passAt tk σ) I2 r rz l1 l2 q2
/-- f(k = v, ..) -/
theorem sim_callK0 (F : FnOk X.prog X.w X.K X.mg X.base (L2.CX X.prog X.w) k f fd ps (SpF X.K n m)) (hr : Room k X.A) (hg : Gl X x) (hm : X.mg x = some (.ref f)) (hk : PySem.W.keepIn X.K (.ref f) = true)
    (hb : KBn X.K fd ps 0 ks (fun us ws => pick ixs ((us ++ ws) ++ its)) (fun vs zs => pick ixs ((vs ++ zs) ++ dv))) (hd : Paired (fun t v => scV t = some v) ds dv)
    (hkw : SimK X kws ga) (lg : LenA ga ks.length) (hn : ixs.Nodup) (hi : ixs.all (fun i => decide (i < 0 + ks.length + dv.length)) = true) (hl : ixs.length = n)
    (hall : (backToKw pos (keywordEach kws X.env)).all (·.1.isSome) = true := by rfl) (hks : (backToKw pos (keywordEach kws X.env)).filterMap (·.1) = ks := by rfl)
    (hdb : (x == ("__debug__" : Str)) = false := by decide)
    (hpl : ((backTo pos (starEach [] X.env)).any (·.1) || (backToKw pos (keywordEach kws X.env)).any (·.1.isNone)) = false := by rfl) : SimE X (.Call (.Name x p) [] kws pos) (eCallK m ixs ds (aApp aNil ga)) := fun Wx tk => by
  refine ⟨fun pins s σ H Q I h => ?_⟩
  have h1 := nil_core (callK_core hd lenA_nil lg hn hi hl h)
  refine wpAny_Call_Name_kw (ld_glob I hg hm ?_ hdb)
  refine PySem.W.callWith_KW0 (h₀ := X.base) I.ok.mod.kin hk hall ?_ hpl
  refine thn ((hkw Wx tk).run pos pins s σ H _ I h1) fun ws s2 ⟨zs, H2, I2, rz, l1, l2, q2⟩ => ⟨I2.kIn, ?_⟩
  rw [hks]
  exact run_fnK (E := WE Wx) (us := []) (vs := []) F hr hb (passAt tk σ) I2 .nil rz rfl l2 q2
end
end
end Ev

/-! EvBlt: builtins by name. -/
namespace Ev
noncomputable section
open PySem PySem.Spec PyProof.Rows L2

section
variable {X : Cx} {x : Str} {p pos : Pos} {e : Expr} {es : List Expr} {id Ty : String} {r : List V → Hp → VK → Prop} {pr : List T → Option T} {f : SA}
theorem sim_blt (hc : CallR X (.builtin id) r) (hp : Pr X.K r pr) (hv : bootBuiltins x = some (.builtin id)) (hg : Gl X x) (hm : X.mg x = none) (ha : SimA X (e :: es) f) (hn : x ≠ "__name__" := by decide) (hdb : (x == ("__debug__" : Str)) = false := by decide)
    (he : starEach (e :: es) X.env = (false, eval e X.env) :: starEach es X.env := by rfl) (hpl : (backTo pos (starEach es X.env)).any (·.1) = false := by rfl) : SimE X (.Call (.Name x p) (e :: es) [] pos) (eP pr f) :=
  sim_pn hp ha fun _ q => pe_callB hc hg hm hv q hn hdb he hpl
theorem sim_bty (hc : CallR X (.type Ty) r) (hp : Pr X.K r pr) (hv : bootBuiltins x = some (.type Ty)) (hg : Gl X x) (hm : X.mg x = none) (ha : SimA X (e :: es) f) (hn : x ≠ "__name__" := by decide) (hdb : (x == ("__debug__" : Str)) = false := by decide)
    (he : starEach (e :: es) X.env = (false, eval e X.env) :: starEach es X.env := by rfl) (hpl : (backTo pos (starEach es X.env)).any (·.1) = false := by rfl) : SimE X (.Call (.Name x p) (e :: es) [] pos) (eP pr f) :=
  sim_pn hp ha fun _ q => pe_callTy hc hg hm hv q hn hdb he hpl
end
/-! ### len -/
def lenT : T → Option Nat
  | .lst _ xs => some xs.length
  | .tup xs => some xs.length
  | .scr ns => some ns.length
  | .str z => if decide (z.length ≤ sizeLine) then some z.length else none
  | _ => none
def pLen : List T → Option T
  | [t] => (lenT t).map fun n => .int (n : Nat)
  | _ => none
theorem pr_len {K : PySem.W.Frag} : Pr K (rLen K) pLen := fun G F S H ts vs t Q w o e k => by
  unfold pLen at e
  split at e
  · rename_i a
    obtain ⟨v, S1, rfl, _, r1⟩ := ops1 o
    cases q : lenT a with
    | none => rw [q] at e; cases e
    | some n =>
      rw [q] at e
      cases e
      refine ⟨v, n, rfl, ?_, old w (t := .int (n : Nat)) rfl k⟩
      unfold lenT at q
      split at q
      · cases q
        obtain ⟨p, zs, rfl, hp, q1⟩ := lst_at r1
        exact .inl ⟨zs, .of hp, rpl_len q1⟩
      · cases q
        obtain ⟨p, zs, rfl, hp, q1⟩ := r1
        exact .inr ⟨zs, hp.seq, rpl_len q1⟩
      · rename_i ns
        cases q
        obtain ⟨p, rfl, hp⟩ := r1
        exact .inl ⟨ns.map V.int, hp.seq, by simp⟩
      · split at q
        · rename_i hz
          cases q
          cases (show v = .str _ from r1)
          exact ⟨of_decide_eq_true hz, rfl⟩
        · cases q
      · cases q
  · cases e
/-! ### abs, int, bool, max, min -/
def pAbs : List T → Option T
  | [.int i] => some (.int (if i < 0 then -i else i))
  | _ => none
theorem pr_abs {K : PySem.W.Frag} : Pr K (fun xs H Q => ∃ i, xs = [.int i] ∧ Q (.int (if i < 0 then -i else i)) H) pAbs := fun G F S H ts vs t Q w o e k => by
  unfold pAbs at e
  split at e
  · rename_i i
    cases e
    obtain ⟨v, S1, rfl, _, r1⟩ := ops1 o
    cases (show v = .int i from r1)
    exact ⟨i, rfl, old w (t := .int _) rfl k⟩
  · cases e
def pInt : List T → Option T
  | [.int i] => some (.int i)
  | [.bl b] => some (.int (if b then 1 else 0))
  | _ => none
theorem pr_int {K : PySem.W.Frag} : Pr K (fun xs H Q => (∃ i, xs = [.int i] ∧ Q (.int i) H) ∨ ∃ k, xs = [.bl k] ∧ Q (.int (if k then 1 else 0)) H) pInt := fun G F S H ts vs t Q w o e k => by
  unfold pInt at e
  split at e
  · rename_i i
    cases e
    obtain ⟨v, S1, rfl, _, r1⟩ := ops1 o
    cases (show v = .int i from r1)
    exact .inl ⟨i, rfl, old w (t := .int _) rfl k⟩
  · rename_i i
    cases e
    obtain ⟨v, S1, rfl, _, r1⟩ := ops1 o
    cases (show v = .bl i from r1)
    exact .inr ⟨i, rfl, old w (t := .int _) rfl k⟩
  · cases e
def pMax2 : List T → Option T
  | [.int i, .int j] => some (.int (if j > i then j else i))
  | _ => none
def pMin2 : List T → Option T
  | [.int i, .int j] => some (.int (if j < i then j else i))
  | _ => none
theorem pr_max2 {K : PySem.W.Frag} : Pr K (fun xs H Q => ∃ i j, xs = [.int i, .int j] ∧ Q (.int (if j > i then j else i)) H) pMax2 := fun G F S H ts vs t Q w o e k => by
  unfold pMax2 at e
  split at e
  · rename_i i j
    cases e
    obtain ⟨v, u, S1, S2, rfl, _, _, r1, r2⟩ := ops2 o
    cases (show v = .int i from r1)
    cases (show u = .int j from r2)
    exact ⟨i, j, rfl, old w (t := .int _) rfl k⟩
  · cases e
theorem pr_min2 {K : PySem.W.Frag} : Pr K (fun xs H Q => ∃ i j, xs = [.int i, .int j] ∧ Q (.int (if j < i then j else i)) H) pMin2 := fun G F S H ts vs t Q w o e k => by
  unfold pMin2 at e
  split at e
  · rename_i i j
    cases e
    obtain ⟨v, u, S1, S2, rfl, _, _, r1, r2⟩ := ops2 o
    cases (show v = .int i from r1)
    cases (show u = .int j from r2)
    exact ⟨i, j, rfl, old w (t := .int _) rfl k⟩
  · cases e
/-! ### lists of ints, of truths -/
def intsT : List T → Option (List Int)
  | [] => some []
  | .int i :: ts => (intsT ts).map (i :: ·)
  | _ => none
def blsT : List T → Option (List Bool)
  | [] => some []
  | .bl i :: ts => (blsT ts).map (i :: ·)
  | _ => none
theorem intsT_some : ∀ {ts : List T} {ns : List Int}, intsT ts = some ns → ts = ns.map .int
  | [], ns, h => by cases h; rfl
  | .int i :: ts, ns, h => by
    have h' : (intsT ts).map (i :: ·) = some ns := h
    cases q : intsT ts with
    | none => rw [q] at h'; cases h'
    | some ms => rw [q] at h'; cases h'; rw [intsT_some q]; rfl
  | .non :: _, _, h | .bl _ :: _, _, h | .str _ :: _, _, h | .ty _ :: _, _, h | .cls _ :: _, _, h | .scr _ :: _, _, h | .tup _ :: _, _, h | .lst _ _ :: _, _, h | .obj _ _ _ :: _, _, h | .dic _ _ _ :: _, _, h | .dit _ _ _ :: _, _, h => by cases h
theorem blsT_some : ∀ {ts : List T} {ns : List Bool}, blsT ts = some ns → ts = ns.map .bl
  | [], ns, h => by cases h; rfl
  | .bl i :: ts, ns, h => by
    have h' : (blsT ts).map (i :: ·) = some ns := h
    cases q : blsT ts with
    | none => rw [q] at h'; cases h'
    | some ms => rw [q] at h'; cases h'; rw [blsT_some q]; rfl
  | .non :: _, _, h | .int _ :: _, _, h | .str _ :: _, _, h | .ty _ :: _, _, h | .cls _ :: _, _, h | .scr _ :: _, _, h | .tup _ :: _, _, h | .lst _ _ :: _, _, h | .obj _ _ _ :: _, _, h | .dic _ _ _ :: _, _, h | .dit _ _ _ :: _, _, h => by cases h
@[simp] theorem intsT_map : ∀ ns : List Int, intsT (ns.map .int) = some ns
  | [] => rfl
  | n :: ns => by
    show (intsT (ns.map .int)).map (n :: ·) = some (n :: ns)
    rw [intsT_map ns]
    rfl
@[simp] theorem blsT_map : ∀ ns : List Bool, blsT (ns.map .bl) = some ns
  | [] => rfl
  | n :: ns => by
    show (blsT (ns.map .bl)).map (n :: ·) = some (n :: ns)
    rw [blsT_map ns]
    rfl
section
variable {K : PySem.W.Frag} {G F S : AS} {H : Hp}
theorem rpl_ints : ∀ {ns : List Int} {vs : List V} {S : AS}, RpL K G H (ns.map .int) vs S → vs = ns.map V.int
  | [], _, _, h => h
  | n :: ns, _, _, ⟨v, vr, A, B, h1, h2, h3, _⟩ => by
    rw [h1, show v = V.int n from h2, rpl_ints h3]
    rfl
theorem rpl_bls : ∀ {ns : List Bool} {vs : List V} {S : AS}, RpL K G H (ns.map .bl) vs S → vs = ns.map V.bl
  | [], _, _, h => h
  | n :: ns, _, _, ⟨v, vr, A, B, h1, h2, h3, _⟩ => by
    rw [h1, show v = V.bl n from h2, rpl_bls h3]
    rfl
/-- a list of ints -/
def lIntsT : T → Option (List Int)
  | .lst _ ts => intsT ts
  | .scr ns => some ns
  | _ => none
theorem lInts_sq {t : T} {v : V} {ns : List Int} (r : Rp K G H t v S) (e : lIntsT t = some ns) : ∃ a, v = .ref a ∧ SqL K H a (ns.map V.int) := by
  unfold lIntsT at e
  split at e
  · obtain ⟨p, zs, rfl, hp, q1⟩ := lst_at r
    rw [intsT_some e] at q1
    rw [rpl_ints q1] at hp
    exact ⟨p, rfl, .of hp⟩
  · cases e
    obtain ⟨p, rfl, hp⟩ := r
    exact ⟨p, rfl, hp.seq⟩
  · cases e
end
/-- the greatest, the least -/
def maxI (n : Int) (ns : List Int) : Int := ns.foldl max n
def minI (n : Int) (ns : List Int) : Int := ns.foldl min n
theorem maxI_le : ∀ {ns : List Int} {n m : Int}, n ≤ m → (∀ y ∈ ns, y ≤ m) → maxI n ns ≤ m
  | [], _, _, h, _ => h
  | x :: ns, n, m, h, h' => maxI_le (ns := ns) (n := max n x) (by have := h' x (List.mem_cons_self ..); omega) fun y z => h' y (List.mem_cons_of_mem _ z)
theorem le_maxI : ∀ {ns : List Int} {n m : Int}, m ≤ n ∨ m ∈ ns → m ≤ maxI n ns
  | [], _, _, h => h.elim id fun z => by cases z
  | x :: ns, n, m, h => le_maxI (ns := ns) (n := max n x) (by
    rcases h with h | h
    · exact .inl (by omega)
    · rcases List.mem_cons.mp h with rfl | h
      · exact .inl (by omega)
      · exact .inr h)
theorem maxI_mem : ∀ {ns : List Int} {n : Int}, maxI n ns ∈ n :: ns
  | [], _ => List.mem_cons_self ..
  | x :: ns, n => by
    have h := maxI_mem (ns := ns) (n := max n x)
    show maxI (max n x) ns ∈ n :: x :: ns
    rcases List.mem_cons.mp h with h | h
    · rw [h]
      rcases Int.le_total n x with z | z
      · rw [Int.max_eq_right z]; exact List.mem_cons_of_mem _ (List.mem_cons_self ..)
      · rw [Int.max_eq_left z]; exact List.mem_cons_self ..
    · exact List.mem_cons_of_mem _ (List.mem_cons_of_mem _ h)
theorem minI_ge : ∀ {ns : List Int} {n m : Int}, m ≤ n → (∀ y ∈ ns, m ≤ y) → m ≤ minI n ns
  | [], _, _, h, _ => h
  | x :: ns, n, m, h, h' => minI_ge (ns := ns) (n := min n x) (by have := h' x (List.mem_cons_self ..); omega) fun y z => h' y (List.mem_cons_of_mem _ z)
theorem minI_le : ∀ {ns : List Int} {n m : Int}, n ≤ m ∨ m ∈ ns → minI n ns ≤ m
  | [], _, _, h => h.elim id fun z => by cases z
  | x :: ns, n, m, h => minI_le (ns := ns) (n := min n x) (by
    rcases h with h | h
    · exact .inl (by omega)
    · rcases List.mem_cons.mp h with rfl | h
      · exact .inl (by omega)
      · exact .inr h)
theorem minI_mem : ∀ {ns : List Int} {n : Int}, minI n ns ∈ n :: ns
  | [], _ => List.mem_cons_self ..
  | x :: ns, n => by
    have h := minI_mem (ns := ns) (n := min n x)
    show minI (min n x) ns ∈ n :: x :: ns
    rcases List.mem_cons.mp h with h | h
    · rw [h]
      rcases Int.le_total n x with z | z
      · rw [Int.min_eq_left z]; exact List.mem_cons_self ..
      · rw [Int.min_eq_right z]; exact List.mem_cons_of_mem _ (List.mem_cons_self ..)
    · exact List.mem_cons_of_mem _ (List.mem_cons_of_mem _ h)
def pMaxL : List T → Option T
  | [t] => match lIntsT t with
    | some (n :: ns) => some (.int (maxI n ns))
    | _ => none
  | _ => none
def pMinL : List T → Option T
  | [t] => match lIntsT t with
    | some (n :: ns) => some (.int (minI n ns))
    | _ => none
  | _ => none
def pSum : List T → Option T
  | [t] => match lIntsT t with
    | some ns => some (.int ns.sum)
    | _ => none
  | _ => none
theorem pr_maxL {K : PySem.W.Frag} : Pr K (rMax K) pMaxL := fun G F S H ts vs t Q w o e k => by
  unfold pMaxL at e
  split at e
  · split at e
    · rename_i a n ns h
      cases e
      obtain ⟨v, S1, rfl, _, r1⟩ := ops1 o
      obtain ⟨p, rfl, sq⟩ := lInts_sq r1 h
      refine ⟨p, n :: ns, rfl, sq, by simp, fun m h1 h2 => ?_⟩
      have em : m = maxI n ns := Int.le_antisymm (le_maxI (by
        rcases List.mem_cons.mp h1 with rfl | h
        · exact .inl (Int.le_refl _)
        · exact .inr h)) (h2 _ maxI_mem)
      rw [em]
      exact old w (t := .int _) rfl k
    · cases e
  · cases e
theorem pr_minL {K : PySem.W.Frag} : Pr K (rMin K) pMinL := fun G F S H ts vs t Q w o e k => by
  unfold pMinL at e
  split at e
  · split at e
    · rename_i a n ns h
      cases e
      obtain ⟨v, S1, rfl, _, r1⟩ := ops1 o
      obtain ⟨p, rfl, sq⟩ := lInts_sq r1 h
      refine ⟨p, n :: ns, rfl, sq, by simp, fun m h1 h2 => ?_⟩
      have em : m = minI n ns := Int.le_antisymm (h2 _ minI_mem) (minI_le (by
        rcases List.mem_cons.mp h1 with rfl | h
        · exact .inl (Int.le_refl _)
        · exact .inr h))
      rw [em]
      exact old w (t := .int _) rfl k
    · cases e
  · cases e
theorem pr_sum {K : PySem.W.Frag} : Pr K (rSum K) pSum := fun G F S H ts vs t Q w o e k => by
  unfold pSum at e
  split at e
  · split at e
    · rename_i a ns h
      cases e
      obtain ⟨v, S1, rfl, _, r1⟩ := ops1 o
      obtain ⟨p, rfl, sq⟩ := lInts_sq r1 h
      exact ⟨p, ns, rfl, sq, old w (t := .int _) rfl k⟩
    · cases e
  · cases e
def pAll : List T → Option T
  | [.lst _ ts] => (blsT ts).map fun bs => .bl (bs.all id)
  | _ => none
def pAny : List T → Option T
  | [.lst _ ts] => (blsT ts).map fun bs => .bl (bs.any id)
  | _ => none
theorem pr_all {K : PySem.W.Frag} : Pr K (rAll K) pAll := fun G F S H ts vs t Q w o e k => by
  unfold pAll at e
  split at e
  · rename_i ob us
    cases q : blsT us with
    | none => rw [q] at e; cases e
    | some bs =>
      rw [q] at e
      cases e
      obtain ⟨v, S1, rfl, _, r1⟩ := ops1 o
      obtain ⟨p, zs, rfl, hp, q1⟩ := lst_at r1
      rw [blsT_some q] at q1
      rw [rpl_bls q1] at hp
      exact ⟨p, bs, rfl, .of hp, old w (t := .bl _) rfl k⟩
  · cases e
theorem pr_any {K : PySem.W.Frag} : Pr K (rAny K) pAny := fun G F S H ts vs t Q w o e k => by
  unfold pAny at e
  split at e
  · rename_i ob us
    cases q : blsT us with
    | none => rw [q] at e; cases e
    | some bs =>
      rw [q] at e
      cases e
      obtain ⟨v, S1, rfl, _, r1⟩ := ops1 o
      obtain ⟨p, zs, rfl, hp, q1⟩ := lst_at r1
      rw [blsT_some q] at q1
      rw [rpl_bls q1] at hp
      exact ⟨p, bs, rfl, .of hp, old w (t := .bl _) rfl k⟩
  · cases e
/-! ### list, tuple -/
def pList : List T → Option T
  | [.lst _ ts] => if frzL ts then some (.lst true ts) else none
  | [.tup ts] => if frzL ts then some (.lst true ts) else none
  | [.scr ns] => some (.lst true (ns.map .int))
  | _ => none
def pTuple : List T → Option T
  | [.lst _ ts] => if frzL ts then some (.tup ts) else none
  | [.tup ts] => if frzL ts then some (.tup ts) else none
  | [.scr ns] => some (.tup (ns.map .int))
  | _ => none
theorem pr_list {K : PySem.W.Frag} : Pr K (fun xs H Q => ∃ p ys, xs = [.ref p] ∧ (SqL K H p ys ∨ SqT K H p ys) ∧ ∀ l, H l = none → Q (.ref l) (upd H l (.lst ys))) pList := fun G F S H ts vs t Q w o e k => by
  unfold pList at e
  split at e
  · split at e
    · rename_i f
      cases e
      obtain ⟨v, S1, rfl, _, r1⟩ := ops1 o
      obtain ⟨p, zs, rfl, hp, q1⟩ := lst_at r1
      exact ⟨p, zs, rfl, .inl (.of hp), new_lst w (cl_of f q1) k⟩
    · cases e
  · split at e
    · rename_i f
      cases e
      obtain ⟨v, S1, rfl, _, r1⟩ := ops1 o
      obtain ⟨p, zs, rfl, hp, q1⟩ := r1
      exact ⟨p, zs, rfl, .inr hp.seq, new_lst w (cl_of f q1) k⟩
    · cases e
  · rename_i ns
    cases e
    obtain ⟨v, S1, rfl, _, r1⟩ := ops1 o
    obtain ⟨p, rfl, hp⟩ := r1
    exact ⟨p, ns.map V.int, rfl, .inl hp.seq, new_lst w (cl_ints ns) k⟩
  · cases e
theorem pr_tuple {K : PySem.W.Frag} : Pr K (fun xs H Q => ∃ p ys, xs = [.ref p] ∧ ((SqL K H p ys ∧ ∀ l, H l = none → Q (.ref l) (upd H l (.tup ys))) ∨ (SqT K H p ys ∧ Q (.ref p) H))) pTuple := fun G F S H ts vs t Q w o e k => by
  unfold pTuple at e
  split at e
  · split at e
    · rename_i f
      cases e
      obtain ⟨v, S1, rfl, _, r1⟩ := ops1 o
      obtain ⟨p, zs, rfl, hp, q1⟩ := lst_at r1
      exact ⟨p, zs, rfl, .inl ⟨.of hp, new_tup w (cl_of f q1) k⟩⟩
    · cases e
  · split at e
    · rename_i us f
      cases e
      obtain ⟨v, S1, rfl, _, r1⟩ := ops1 o
      obtain ⟨p, zs, rfl, hp, q1⟩ := r1
      exact ⟨p, zs, rfl, .inr ⟨hp.seq, old w (t := .tup us) ⟨p, zs, rfl, hp, RpL.cold us NoA f q1⟩ k⟩⟩
    · cases e
  · rename_i ns
    cases e
    obtain ⟨v, S1, rfl, _, r1⟩ := ops1 o
    obtain ⟨p, rfl, hp⟩ := r1
    exact ⟨p, ns.map V.int, rfl, .inl ⟨hp.seq, new_tup w (cl_ints ns) k⟩⟩
  · cases e
end
end Ev

/-! EvSort: sorted of ints and of pairs of ints. -/
namespace Ev
noncomputable section
open PySem PySem.Spec PyProof.Rows L2

/-- sorting by insertion -/
def insS {α : Type} (lt : α → α → Bool) (x : α) : List α → List α
  | [] => [x]
  | y :: l => if lt y x then y :: insS lt x l else x :: y :: l
def srt {α : Type} (lt : α → α → Bool) : List α → List α
  | [] => []
  | x :: l => insS lt x (srt lt l)
theorem insS_perm {α : Type} {lt : α → α → Bool} {x : α} : ∀ {l : List α}, (insS lt x l).Perm (x :: l)
  | [] => .refl _
  | y :: l => by
    unfold insS
    split
    · exact ((insS_perm (l := l)).cons y).trans (.swap x y l)
    · exact .refl _
theorem srt_perm {α : Type} {lt : α → α → Bool} : ∀ {l : List α}, (srt lt l).Perm l
  | [] => .refl _
  | x :: l => insS_perm.trans ((srt_perm (l := l)).cons x)
theorem insS_sorted {α : Type} {lt : α → α → Bool} (tr : ∀ a b c, lt b a = false → lt c b = false → lt c a = false) (as : ∀ a b, lt a b = true → lt b a = false) {x : α} : ∀ {l : List α}, l.Pairwise (fun a b => lt b a = false) → (insS lt x l).Pairwise (fun a b => lt b a = false)
  | [], _ => List.pairwise_singleton _ _
  | y :: l, h => by
    obtain ⟨h1, h2⟩ := List.pairwise_cons.mp h
    unfold insS
    split
    · rename_i hy
      refine List.pairwise_cons.mpr ⟨fun z hz => ?_, insS_sorted tr as h2⟩
      rcases List.mem_cons.mp (insS_perm.mem_iff.mp hz) with e | hz
      · rw [e]; exact as _ _ hy
      · exact h1 z hz
    · rename_i hy
      have hy' : lt y x = false := by simpa using hy
      refine List.pairwise_cons.mpr ⟨fun z hz => ?_, h⟩
      rcases List.mem_cons.mp hz with e | hz
      · rw [e]; exact hy'
      · exact tr _ _ _ hy' (h1 z hz)
theorem srt_sorted {α : Type} {lt : α → α → Bool} (tr : ∀ a b c, lt b a = false → lt c b = false → lt c a = false) (as : ∀ a b, lt a b = true → lt b a = false) : ∀ {l : List α}, (srt lt l).Pairwise (fun a b => lt b a = false)
  | [] => List.Pairwise.nil
  | x :: l => insS_sorted tr as (srt_sorted tr as)
theorem uniq {α : Type} {R : α → α → Prop} (an : ∀ a b, R a b → R b a → a = b) : ∀ {l m : List α}, l.Perm m → l.Pairwise R → m.Pairwise R → l = m
  | [], m, p, _, _ => (List.nil_perm.mp p).symm
  | x :: l, [], p, _, _ => absurd p.length_eq (by simp)
  | x :: l, y :: m, p, h1, h2 => by
    obtain ⟨a1, a2⟩ := List.pairwise_cons.mp h1
    obtain ⟨b1, b2⟩ := List.pairwise_cons.mp h2
    have e : x = y := by
      rcases List.mem_cons.mp (p.mem_iff.mp (List.mem_cons_self ..)) with e | hx
      · exact e
      · rcases List.mem_cons.mp (p.mem_iff.mpr (List.mem_cons_self ..)) with e | hy
        · exact e.symm
        · exact an _ _ (a1 y hy) (b1 x hx)
    subst e
    rw [uniq an (List.Perm.cons_inv p) a2 b2]
def ltI (a b : Int) : Bool := decide (a < b)
theorem ltI_tr (a b c : Int) (h1 : ltI b a = false) (h2 : ltI c b = false) : ltI c a = false := by
  unfold ltI at *
  simp at *
  omega
theorem ltI_as (a b : Int) (h1 : ltI a b = true) : ltI b a = false := by
  unfold ltI at *
  simp at *
  omega
def srtI : List Int → List Int := srt ltI
theorem srtI_uniq {ns ms : List Int} (p : ms.Perm ns) (s : ms.Pairwise (· ≤ ·)) : ms = srtI ns := by
  refine uniq (R := fun a b => ltI b a = false) (fun a b h1 h2 => ?_) (p.trans srt_perm.symm) (s.imp fun h => ?_) (srt_sorted ltI_tr ltI_as)
  · unfold ltI at *
    simp at *
    omega
  · unfold ltI
    simp
    omega
theorem lexB_tr (a b c : Int × Int) (h1 : SrtO.lexB b a = false) (h2 : SrtO.lexB c b = false) : SrtO.lexB c a = false := by
  unfold SrtO.lexB at *
  split at h1 <;> split at h2 <;> split <;> simp at * <;> omega
theorem lexB_as (a b : Int × Int) (h1 : SrtO.lexB a b = true) : SrtO.lexB b a = false := by
  unfold SrtO.lexB at *
  split at h1 <;> split <;> simp at * <;> omega
def srtP : List (Int × Int) → List (Int × Int) := srt SrtO.lexB
theorem srtP_uniq {ns ms : List (Int × Int)} (p : ms.Perm ns) (s : ms.Pairwise (fun a b => SrtO.lexB b a = false)) : ms = srtP ns := by
  refine uniq (R := fun a b => SrtO.lexB b a = false) (fun a b h1 h2 => ?_) (p.trans srt_perm.symm) s (srt_sorted lexB_tr lexB_as)
  unfold SrtO.lexB at *
  have : a.1 = b.1 ∧ a.2 = b.2 := by
    split at h1 <;> split at h2 <;> simp at * <;> omega
  exact Prod.ext this.1 this.2
/-! ### pairs -/
def pairT (p : Int × Int) : T := .tup [.int p.1, .int p.2]
def pairsT : List T → Option (List (Int × Int))
  | [] => some []
  | .tup [.int a, .int b] :: ts => (pairsT ts).map ((a, b) :: ·)
  | _ => none
@[simp] theorem pairsT_map : ∀ ns : List (Int × Int), pairsT (ns.map pairT) = some ns
  | [] => rfl
  | n :: ns => by
    show (pairsT (ns.map pairT)).map (n :: ·) = some (n :: ns)
    rw [pairsT_map ns]
    rfl
theorem pairsT_some : ∀ {ts : List T} {ns : List (Int × Int)}, pairsT ts = some ns → ts = ns.map pairT := by
  intro ts
  induction ts with
  | nil => intro ns h; cases h; rfl
  | cons t ts ih =>
    intro ns h
    unfold pairsT at h
    split at h
    · rename_i h1; cases h1
    · rename_i a b ts' h1
      cases h1
      cases q : pairsT ts with
      | none => rw [q] at h; cases h
      | some ms =>
        rw [q] at h
        cases h
        rw [ih q]
        rfl
    · cases h
theorem mem_pr {α β : Type} {R : α → β → Prop} : ∀ {a : List α} {x : List β}, Paired R a x → ∀ y ∈ x, ∃ z ∈ a, R z y
  | _, _, .nil, _, h => by cases h
  | _, _, .cons q t, y, h => by
    rcases List.mem_cons.mp h with rfl | h
    · exact ⟨_, List.mem_cons_self .., q⟩
    · obtain ⟨z, h1, h2⟩ := mem_pr t y h
      exact ⟨z, List.mem_cons_of_mem _ h1, h2⟩
theorem pr_of_map {α β : Type} {R : α → β → Prop} {f : β → α} : ∀ {x : List β}, (∀ y ∈ x, R (f y) y) → Paired R (x.map f) x
  | [], _ => .nil
  | y :: x, h => .cons (h y (List.mem_cons_self ..)) (pr_of_map fun z q => h z (List.mem_cons_of_mem _ q))
theorem map_of_pr {α β : Type} {R : α → β → Prop} {g : β → α} : ∀ {ps : List α} {x : List β}, Paired R ps x → (∀ p y, R p y → g y = p) → x.map g = ps
  | _, _, .nil, _ => rfl
  | _, _, .cons q t, k => by rw [List.map_cons, k _ _ q, map_of_pr t k]
theorem pr_imp {α β : Type} {R R' : α → β → Prop} (h : ∀ a b, R a b → R' a b) : ∀ {a : List α} {x : List β}, Paired R a x → Paired R' a x
  | _, _, .nil => .nil
  | _, _, .cons q t => .cons (h _ _ q) (pr_imp h t)
/-- sorted(xs), xs a list of pairs of ints -/
def rSortedG (K : PySem.W.Frag) : List V → Hp → VK → Prop := fun vs H Q => ∃ (a : Addr) (xs : List V) (ps : List (Int × Int)) (R : Int × Int → V → Prop), vs = [V.ref a] ∧ SqL K H a xs ∧ Paired R ps xs ∧ (∀ p x, R p x → ∃ t, x = V.ref t ∧ SqT K H t [.int p.1, .int p.2]) ∧
  ∀ ys q, Paired R (srtP ps) ys → H q = none → Q (.ref q) (upd H q (.lst ys))
section
variable {X : Cx}
theorem pair_uniq {pins : List (Addr × Obj)} {σ : L2.St} {H : Hp} {s : Shared} (I : L2.Inv X pins σ H s) {t : Addr} {i j i' j' : Int} (h1 : SqT X.K H t [.int i, .int j]) (h2 : SqT X.K H t [.int i', .int j']) : i = i' ∧ j = j' := by
  obtain ⟨its, r, pl, _⟩ := I.tuple h1
  obtain ⟨its', r', pl', _⟩ := I.tuple h2
  obtain ⟨o, ho, hc, n, hd⟩ := pl
  obtain ⟨o', ho', hc', n', hd'⟩ := pl'
  rw [ho] at ho'
  cases ho'
  rw [hd] at hd'
  have e : its = its' := by
    have z : its.toArray = its'.toArray := by injection hd'
    simpa using z
  subst e
  obtain ⟨u1, u2, rfl, ⟨t1, rfl⟩, ⟨t2, rfl⟩⟩ := vals2 r
  obtain ⟨v1, v2, e, ⟨t3, rfl⟩, ⟨t4, rfl⟩⟩ := vals2 r'
  cases e
  exact ⟨rfl, rfl⟩
open Classical in
theorem cr_sortedG : CallR X (.builtin "sorted") (rSortedG X.K) := by
  intro pins s σ H vs us Q I r h
  obtain ⟨a, xs, ps, R, rfl, hs, hp, hx, q⟩ := h
  obtain ⟨its, rv, hl, hz⟩ := I.list hs
  obtain ⟨u, rfl, ru⟩ := vals1 r
  obtain rfl : u = Value.ref a := ru
  let k : V → Int × Int := fun x => if h : ∃ p, R p x then h.choose else (0, 0)
  have kR : ∀ p x, R p x → k x = p := fun p x hr => by
    have hex : ∃ p, R p x := ⟨p, hr⟩
    have e : k x = hex.choose := dif_pos hex
    obtain ⟨t, e1, h1⟩ := hx _ _ hex.choose_spec
    obtain ⟨t', e2, h2⟩ := hx _ _ hr
    rw [e1] at e2
    cases e2
    obtain ⟨z1, z2⟩ := pair_uniq I h1 h2
    rw [e]
    exact Prod.ext z1 z2
  have xR : ∀ x ∈ xs, R (k x) x := fun x hm => by
    obtain ⟨p, _, hr⟩ := mem_pr hp x hm
    rw [kR p x hr]
    exact hr
  obtain ⟨e1, e2⟩ := refs_back rv fun x m => by
    obtain ⟨t, e, _⟩ := hx _ _ (xR x m)
    exact ⟨t, e⟩
  refine SrtO.sorted_pairsO (k := fun u => k (backV u)) hl.isList (by rw [← rv.length]; exact hz) (fun v hv => ?_) fun h' d out h1 h2 kp hd hn => ?_
  · obtain ⟨t, rfl⟩ := e2 v hv
    have hm : V.ref t ∈ xs := by rw [e1]; exact List.mem_map.mpr ⟨_, hv, rfl⟩
    obtain ⟨t', e, ht⟩ := hx _ _ (xR _ hm)
    cases e
    obtain ⟨its2, r2, pl, _⟩ := I.tuple ht
    obtain ⟨u1, u2, rfl, ri, rj⟩ := vals2 r2
    obtain ⟨t1, rfl⟩ := ri
    obtain ⟨t2, rfl⟩ := rj
    obtain ⟨o, ho, hc, n, hd⟩ := pl
    exact ⟨t, o, t1, t2, n, rfl, ho, hc, hd⟩
  · have h3 : ∀ u ∈ out, ∃ a, u = Value.ref a := fun u hu => e2 u (h2.perm.mem_iff.mp hu)
    obtain ⟨n, hn⟩ := hn
    have hb : SrtO.Stb (ltP k) (out.map backV) xs := by
      rw [e1]
      exact SrtO.Stb.map (ltP_swo k) backV h2
    have hpr : Paired R (srtP ps) (out.map backV) := by
      have e3 : (out.map backV).map k = srtP ps := by
        refine srtP_uniq ?_ ?_
        · have := hb.perm.map k
          rwa [map_of_pr hp kR] at this
        · have s1 : SrtO.Srtd (ltP k) (out.map backV) := SrtO.srtd_map h1
          exact List.pairwise_map.mpr (s1.imp fun h => h)
      rw [← e3]
      exact pr_of_map fun y hy => xR y (hb.perm.mem_iff.mp hy)
    refine ⟨.ref d, upd H d (.lst (out.map backV)), I.laid (t' := s.toks) kp hd ⟨?_, out, n, vals_back h3, hn⟩, rfl, q _ d hpr (I.hok.fresh hd)⟩
    rw [hb.len]
    exact hz
end
def rSortedA (K : PySem.W.Frag) : List V → Hp → VK → Prop := fun xs H Q => rSortedI K xs H Q ∨ rSortedG K xs H Q
theorem cr_sortedA {X : Cx} : CallR X (.builtin "sorted") (rSortedA X.K) := CallR.or cr_sortedI cr_sortedG
def pSorted : List T → Option T
  | [.lst _ ts] => match intsT ts with
    | some ns => some (.lst true ((srtI ns).map .int))
    | none => match pairsT ts with
      | some ps => some (.lst true ((srtP ps).map pairT))
      | none => none
  | [.scr ns] => some (.lst true ((srtI ns).map .int))
  | _ => none
theorem sortI_of {K : PySem.W.Frag} {G F S S1 : AS} {H : Hp} {t : T} {v : V} {ns : List Int} {Q : VK} (w : Wd G F S H) (r : Rp K G H t v S1) (e : lIntsT t = some ns) (k : ∀ v G' Sn H', New G H G' Sn H' → Rp K G' H' (.lst true ((srtI ns).map .int)) v Sn → Q v H') : rSortedA K [v] H Q := by
  obtain ⟨p, rfl, sq⟩ := lInts_sq r e
  refine .inl ⟨p, ns, rfl, sq, fun ms q h1 h2 np => ?_⟩
  rw [srtI_uniq h1 h2]
  exact new_lst w (cl_ints (srtI ns)) k q np
/-- the pair at a value -/
theorem pair_rp {K : PySem.W.Frag} {G : AS} {H : Hp} {p : Int × Int} {v : V} {S : AS} (r : Rp K G H (pairT p) v S) : ∃ t, v = .ref t ∧ SqT K H t [.int p.1, .int p.2] := by
  obtain ⟨a, vs, rfl, h1, v1, r1, A, B, rfl, e1, ⟨v2, r2, C, D, rfl, e2, e3, _⟩, _⟩ := r
  rw [show v1 = V.int p.1 from e1, show v2 = V.int p.2 from e2, show r2 = [] from e3] at h1
  exact ⟨a, rfl, h1.seq⟩
theorem cl_pairs {K : PySem.W.Frag} {G : AS} {H : Hp} : ∀ {ps : List (Int × Int)} {vs : List V}, Paired (fun p v => Rp K G H (pairT p) v NoA) ps vs → Cl K G H (ps.map pairT) vs
  | _, _, .nil => .nil
  | _, _, .cons q t => .cons q (cl_pairs t)
theorem pairs_cl {K : PySem.W.Frag} {G : AS} {H : Hp} : ∀ {ps : List (Int × Int)} {vs : List V} {S : AS}, RpL K G H (ps.map pairT) vs S → Paired (fun p v => Rp K G H (pairT p) v NoA) ps vs
  | [], vs, _, h => by rw [show vs = [] from h]; exact .nil
  | p :: ps, vs, _, ⟨v, vr, A, B, h1, h2, h3, _⟩ => by
    rw [h1]
    exact .cons (Rp.cold _ NoA rfl h2) (pairs_cl h3)
theorem pr_sorted {K : PySem.W.Frag} : Pr K (rSortedA K) pSorted := fun G F S H ts vs t Q w o e k => by
  unfold pSorted at e
  split at e
  · rename_i ob us
    split at e
    · rename_i ns h
      cases e
      obtain ⟨v, S1, rfl, _, r1⟩ := ops1 o
      exact sortI_of w r1 (t := .lst ob us) h k
    · split at e
      · rename_i ps h
        cases e
        obtain ⟨v, S1, rfl, _, r1⟩ := ops1 o
        obtain ⟨p, zs, rfl, hp, q1⟩ := lst_at r1
        rw [pairsT_some h] at q1
        exact .inr ⟨p, zs, ps, _, rfl, .of hp, pairs_cl q1, fun p x hr => pair_rp hr, fun ys q hq np => new_lst w (cl_pairs hq) k q np⟩
      · cases e
  · rename_i ns
    cases e
    obtain ⟨v, S1, rfl, _, r1⟩ := ops1 o
    exact sortI_of w r1 (t := .scr ns) rfl k
  · cases e
end
end Ev

/-! EvIsi: isinstance of builtin types; list(range(..)); in, not in; items stored; methods of lists. -/
namespace Ev
noncomputable section
open PySem PySem.Spec PyProof.Rows L2

inductive BT where
  | non | bl | int | str | lst | tup | dic
def BT.nm : BT → String
  | .non => "NoneType"
  | .bl => "bool"
  | .int => "int"
  | .str => "str"
  | .lst => "list"
  | .tup => "tuple"
  | .dic => "dict"
def btT : T → Option BT
  | .non => some .non
  | .bl _ => some .bl
  | .int _ => some .int
  | .str _ => some .str
  | .lst _ _ => some .lst
  | .scr _ => some .lst
  | .tup _ => some .tup
  | .dic _ _ _ => some .dic
  | .dit _ _ _ => some .dic
  | _ => none
def btN (n : String) : Option BT := if n = "bool" then some .bl else if n = "int" then some .int else if n = "str" then some .str else if n = "list" then some .lst else if n = "tuple" then some .tup else if n = "dict" then some .dic else none
def isBT : BT → BT → Bool
  | .non, .non | .bl, .bl | .bl, .int | .int, .int | .str, .str | .lst, .lst | .tup, .tup | .dic, .dic => true
  | _, _ => false
theorem btN_some {n : String} {b : BT} (h : btN n = some b) : n = b.nm := by
  unfold btN at h
  repeat' split at h
  all_goals first | (cases h; assumption) | cases h
theorem kit_bt (K : PySem.W.Frag) (a b : BT) : PySem.W.kitOne K (.type a.nm) (.type b.nm) = some (isBT a b) := by
  cases a <;> cases b <;> first | rfl | kernel_rfl
theorem tyx_of {K : PySem.W.Frag} {G : AS} {H : Hp} {t : T} {v : V} {S : AS} {b : BT} (r : Rp K G H t v S) (e : btT t = some b) : TyX K H v (.type b.nm) := by
  cases t with
  | non => cases e; rw [show v = V.non from r]; exact .base .non
  | bl b => cases e; rw [show v = V.bl b from r]; exact .base (.bl _)
  | int b => cases e; rw [show v = V.int b from r]; exact .base (.int _)
  | str b => cases e; rw [show v = V.str b from r]; exact .base (.str _)
  | ty b => cases e
  | cls b => cases e
  | scr ns =>
    cases e
    obtain ⟨a, rfl, h⟩ := r
    rcases h with ⟨_, o, h⟩ | ⟨o, its, n, h1, h2, _⟩
    · exact .base (.frz h)
    · exact .kList h1 h2
  | tup ts =>
    cases e
    obtain ⟨a, vs, rfl, h, _⟩ := r
    rcases h with h | ⟨o, its, n, h1, h2, _⟩
    · exact .base (.tup h.2)
    · exact .kTuple h1 h2
  | lst o ts =>
    cases e
    obtain ⟨p, zs, rfl, hp, _⟩ := lst_at r
    exact .base (.lst hp)
  | obj o c ts => cases e
  | dic o c ts =>
    cases e
    obtain ⟨a, vs, rfl, h, _⟩ := r
    exact .base (.dK h)
  | dit o c ts =>
    cases e
    obtain ⟨a, vs, rfl, h, _⟩ := r
    exact .base (.dT h)
def tysT : List T → Option (List BT)
  | [] => some []
  | .ty n :: ts => match btN n, tysT ts with
    | some b, some bs => some (b :: bs)
    | _, _ => none
  | _ => none
def pIsi : List T → Option T
  | [t, .ty n] => match btT t, btN n with
    | some a, some b => some (.bl (isBT a b))
    | _, _ => none
  | [t, .tup us] => match btT t, tysT us with
    | some a, some bs => some (.bl (bs.any (isBT a)))
    | _, _ => none
  | _ => none
theorem tysT_rp {K : PySem.W.Frag} {G : AS} {H : Hp} : ∀ {us : List T} {bs : List BT} {vs : List V} {S : AS}, tysT us = some bs → RpL K G H us vs S → vs = bs.map (fun b => V.ty b.nm) := by
  intro us
  induction us with
  | nil => intro bs vs S e r; cases e; exact r
  | cons t us ih =>
    intro bs vs S e r
    obtain ⟨v, vr, A, B, h1, h2, h3, _⟩ := r
    unfold tysT at e
    split at e
    · rename_i h; cases h
    · rename_i n us' h
      cases h
      split at e
      · rename_i b bs' q1 q2
        cases e
        rw [h1, show v = V.ty n from h2, btN_some q1, ih q2 h3]
        rfl
      · cases e
    · cases e
theorem clsv_ty : ∀ bs : List BT, Paired ClsV (bs.map fun b => V.ty b.nm) (bs.map fun b => Value.type b.nm)
  | [] => .nil
  | b :: bs => .cons (.ty _) (clsv_ty bs)
theorem kit_any (K : PySem.W.Frag) (a : BT) : ∀ bs : List BT, PySem.W.kitAny K (.type a.nm) (bs.map fun b => Value.type b.nm) = some (bs.any (isBT a))
  | [] => rfl
  | b :: bs => by
    rw [List.map_cons]
    show (match PySem.W.kitOne K (.type a.nm) (.type b.nm) with
      | some true => some true
      | some false => PySem.W.kitAny K (.type a.nm) (bs.map fun (b : BT) => Value.type b.nm)
      | none => none) = _
    rw [kit_bt, List.any_cons]
    cases h : isBT a b with
    | true => rfl
    | false =>
      show PySem.W.kitAny K (.type a.nm) (bs.map fun (b : BT) => Value.type b.nm) = _
      rw [kit_any K a bs]
      rfl
def rIsiA (K : PySem.W.Frag) : List V → Hp → VK → Prop := fun xs H Q => rIsi K xs H Q ∨ (rIsiT K xs H Q ∨ rIsiK K xs H Q)
theorem call_isiA {X : Cx} : CallR X (.builtin "isinstance") (rIsiA X.K) := CallR.or call_isi (CallR.or call_isiT call_isiK)
theorem pr_isi {K : PySem.W.Frag} : Pr K (rIsiA K) pIsi := fun G F S H ts vs t Q w o e k => by
  unfold pIsi at e
  split at e
  · rename_i a n
    obtain ⟨v, u, S1, S2, rfl, _, _, r1, r2⟩ := ops2 o
    cases (show u = .ty n from r2)
    split at e
    · rename_i b1 b2 q1 q2
      cases e
      refine .inl ⟨v, .ty n, .type b1.nm, .type b2.nm, _, rfl, ?_, tyx_of r1 q1, kit_bt K b1 b2, old w (t := .bl _) rfl k⟩
      rw [btN_some q2]
      exact .ty _
    · cases e
  · rename_i a us
    obtain ⟨v, u, S1, S2, rfl, _, _, r1, r2⟩ := ops2 o
    split at e
    · rename_i b1 bs q1 q2
      cases e
      obtain ⟨tp, zs, rfl, h, q3⟩ := r2
      have ez := tysT_rp q2 q3
      rcases h with h | ⟨ob, its, n, h1, h2, h3, h4, h5⟩
      · refine .inr (.inl ⟨v, tp, zs, .type b1.nm, bs.map fun b => Value.type b.nm, _, rfl, h.2, ?_, tyx_of r1 q1, kit_any K b1 bs, old w (t := .bl _) rfl k⟩)
        rw [ez]
        exact clsv_ty bs
      · obtain ⟨oc, od, dt, sl⟩ := ob
        simp only at h2 h3
        subst h2 h3
        rw [ez] at h5
        have e3 := ClsV.all (clsv_ty bs) h5
        refine .inr (.inr ⟨v, tp, od, bs.map fun b => Value.type b.nm, n, sl, .type b1.nm, _, rfl, ?_, tyx_of r1 q1, kit_any K b1 bs, old w (t := .bl _) rfl k⟩)
        rw [h1, ← e3, Array.toArray_toList]
    · cases e
  · cases e
/-! ### a builtin type as a value -/
theorem sim_ty {X : Cx} {x : Str} {pos : Pos} {n : String} (hg : Gl X x) (hm : X.mg x = none) (hv : bootBuiltins x = some (.type n)) (h : PE X (.Name x pos) (tC (.ty n))) : SimE X (.Name x pos) (eC (.ty n)) := sim_const h
/-! ### list(range(..)) -/
def rgT (a b : Int) : List T := (List.range (b - a).toNat).map fun i => T.int (a + (i : Nat))
def rgOk (a b : Int) : Bool := leC (-(2 ^ 62)) a && (ltC a (2 ^ 62) && (leC (-(2 ^ 62)) b && (ltC b (2 ^ 62) && leN (b - a).toNat (2 ^ 24))))
theorem rgOk_of {a b : Int} (h : rgOk a b = true) : RgOk a b := by
  obtain ⟨h1, h⟩ := Bool.and_eq_true_iff.mp h
  obtain ⟨h2, h⟩ := Bool.and_eq_true_iff.mp h
  obtain ⟨h3, h⟩ := Bool.and_eq_true_iff.mp h
  obtain ⟨h4, h5⟩ := Bool.and_eq_true_iff.mp h
  exact ⟨of_leC h1, of_ltC h2, of_leC h3, of_ltC h4, of_leN h5⟩
def pLRg1 : List T → Option T
  | [.int b] => if rgOk 0 b then some (.lst true (rgT 0 b)) else none
  | _ => none
def pLRg2 : List T → Option T
  | [.int a, .int b] => if rgOk a b then some (.lst true (rgT a b)) else none
  | _ => none
theorem cl_rg {K : PySem.W.Frag} {G : AS} {H : Hp} (a b : Int) : Cl K G H (rgT a b) (rgV a b) := by
  unfold rgT rgV
  generalize List.range (b - a).toNat = l
  induction l with
  | nil => exact .nil
  | cons x l ih => exact .cons rfl ih
def rLRg1 : List V → Hp → VK → Prop := fun vs H Q => ∃ n, vs = [.int n] ∧ RgOk 0 n ∧ ∀ q, H q = none → Q (.ref q) (upd H q (.lst (rgV 0 n)))
def rLRg2 : List V → Hp → VK → Prop := fun vs H Q => ∃ a b, vs = [.int a, .int b] ∧ RgOk a b ∧ ∀ q, H q = none → Q (.ref q) (upd H q (.lst (rgV a b)))
theorem pr_lrg1 {K : PySem.W.Frag} : Pr K rLRg1 pLRg1 := fun G F S H ts vs t Q w o e k => by
  unfold pLRg1 at e
  split at e
  · rename_i b
    split at e
    · rename_i h
      cases e
      obtain ⟨v, S1, rfl, _, r1⟩ := ops1 o
      cases (show v = .int b from r1)
      exact ⟨b, rfl, rgOk_of h, new_lst w (cl_rg 0 b) k⟩
    · cases e
  · cases e
theorem pr_lrg2 {K : PySem.W.Frag} : Pr K rLRg2 pLRg2 := fun G F S H ts vs t Q w o e k => by
  unfold pLRg2 at e
  split at e
  · rename_i a b
    split at e
    · rename_i h
      cases e
      obtain ⟨v, u, S1, S2, rfl, _, _, r1, r2⟩ := ops2 o
      cases (show v = .int a from r1)
      cases (show u = .int b from r2)
      exact ⟨a, b, rfl, rgOk_of h, new_lst w (cl_rg a b) k⟩
    · cases e
  · cases e
section
variable {X : Cx} {a b : Expr} {f g : SU} {p pos p2 pos2 : Pos}
theorem sim_lrg1 (hc : X.calm = true) (hl : Gl X "list") (hlm : X.mg "list" = none) (hg : Gl X "range") (hm : X.mg "range" = none) (h : SimU X a f)
    (na : starEach [a] X.env = (false, eval a X.env) :: starEach [] X.env := by rfl) (nb : starEach [Expr.Call (.Name "range" p2) [a] [] pos2] X.env = (false, eval (Expr.Call (.Name "range" p2) [a] [] pos2) X.env) :: starEach [] X.env := by rfl) :
    SimE X (.Call (.Name "list" p) [.Call (.Name "range" p2) [a] [] pos2] [] pos) (eP pLRg1 (aCons f aNil)) := fun Wx tk =>
  PE.imp (pe_listRg hc hl hlm (prg_1 hg hm (h Wx tk) na) nb) fun σ H Q q => (one_core (prim_core pr_lrg1 q)).imp fun v H1 ⟨n, e, h1, h2⟩ => ⟨n, by cases e; rfl, h1, h2⟩
theorem sim_lrg2 (hc : X.calm = true) (hl : Gl X "list") (hlm : X.mg "list" = none) (hg : Gl X "range") (hm : X.mg "range" = none) (h : SimU X a f) (h' : SimU X b g)
    (na : starEach [a, b] X.env = (false, eval a X.env) :: starEach [b] X.env := by rfl) (na2 : starEach [b] X.env = (false, eval b X.env) :: starEach [] X.env := by rfl) (np : (backTo pos2 (starEach [b] X.env)).any (·.1) = false := by rfl)
    (nb : starEach [Expr.Call (.Name "range" p2) [a, b] [] pos2] X.env = (false, eval (Expr.Call (.Name "range" p2) [a, b] [] pos2) X.env) :: starEach [] X.env := by rfl) :
    SimE X (.Call (.Name "list" p) [.Call (.Name "range" p2) [a, b] [] pos2] [] pos) (eP pLRg2 (aCons f (aCons g aNil))) := fun Wx tk =>
  PE.imp (pe_listRg hc hl hlm (prg_2 hg hm (h Wx tk) (h' Wx tk) na na2 np) nb) fun σ H Q q => (two_core (prim_core pr_lrg2 q)).imp fun v H1 q => q.imp fun u H2 ⟨a, b, e, h1, h2⟩ => ⟨a, b, by cases e; rfl, by cases e; rfl, h1, h2⟩
end
/-! ### in, not in -/
def pIn (neg : Bool) : List T → Option T
  | [t, u] => match pd t, pd u with
    | some d, some (.list ds) => if SeqAt.shaped d && SeqAt.shaped (.list ds) then some (.bl (if neg then !(ds.any fun z => PyData.eqv z d) else ds.any fun z => PyData.eqv z d)) else none
    | _, _ => none
  | _ => none
theorem pr_in {K : PySem.W.Frag} : Pr K (on2 (rInD K)) (pIn false) := fun G F S H ts vs t Q w o e k => by
  unfold pIn at e
  split at e
  · rename_i a b
    obtain ⟨v, u, S1, S2, rfl, _, _, r1, r2⟩ := ops2 o
    split at e
    · rename_i d ds q1 q2
      split at e
      · rename_i h
        cases e
        obtain ⟨h1, h2⟩ := Bool.and_eq_true_iff.mp h
        exact ⟨d, ds, dp_of a r1 q1, dp_of b r2 q2, h1, h2, old w (t := .bl _) rfl k⟩
      · cases e
    · cases e
  · cases e
theorem pr_notIn {K : PySem.W.Frag} : Pr K (on2 (rNotInD K)) (pIn true) := fun G F S H ts vs t Q w o e k => by
  unfold pIn at e
  split at e
  · rename_i a b
    obtain ⟨v, u, S1, S2, rfl, _, _, r1, r2⟩ := ops2 o
    split at e
    · rename_i d ds q1 q2
      split at e
      · rename_i h
        cases e
        obtain ⟨h1, h2⟩ := Bool.and_eq_true_iff.mp h
        exact ⟨d, ds, dp_of a r1 q1, dp_of b r2 q2, h1, h2, old w (t := .bl _) rfl k⟩
      · cases e
    · cases e
  · cases e
end
end Ev

/-! EvMeth: methods of lists, items stored. -/
namespace Ev
noncomputable section
open PySem PySem.Spec PyProof.Rows L2

/-! ### a checked receiver -/
def tyOk : String → T → Bool
  | "list", .lst _ _ => true
  | "list", .scr _ => true
  | "str", .str _ => true
  | "dict", .dic _ _ _ => true
  | "dict", .dit _ _ _ => true
  | _, _ => false
theorem tyV_of {K : PySem.W.Frag} {G : AS} {H : Hp} {n : String} {t : T} {v : V} {S : AS} (r : Rp K G H t v S) (e : tyOk n t = true) : tyV K n v H := by
  unfold tyOk at e
  split at e
  · obtain ⟨p, zs, rfl, hp, _⟩ := lst_at r
    exact .inl ⟨rfl, zs, .of hp⟩
  · rename_i ns
    obtain ⟨p, rfl, hp⟩ := r
    exact .inl ⟨rfl, ns.map V.int, hp.seq⟩
  · rename_i z
    rw [show v = V.str z from r]
    exact rfl
  · obtain ⟨a, vs, rfl, h, _⟩ := r
    exact .inr (.inr (.inl ⟨rfl, .inl ⟨_, h⟩⟩))
  · obtain ⟨a, vs, rfl, h, _⟩ := r
    exact .inr (.inr (.inl ⟨rfl, .inr ⟨_, h⟩⟩))
  · cases e
def uChk (n : String) (f : SU) : SU := fun st => (f st).bind fun u st => match u.get st with
  | some t => if tyOk n t then .ok u st else .no
  | none => .no
theorem chk_core {K : PySem.W.Frag} {Wx : WX} {f : SU} {n : String} {σ : L2.St} {H : Hp} {Q : VK} (h : RdU K Wx (uChk n f) σ H Q) : RdU K Wx f σ H fun v H1 => tyV K n v H1 ∧ Q v H1 := by
  obtain ⟨G, F, S, st, w, r, p⟩ := h
  unfold uChk at p
  refine step_u w r (fun u st1 e1 v H1 G1 S1 S2 x1 w1 d1 r1 a1 => ?_) (fun x st1 e1 => ?_) (fun e1 => ?_)
  · rw [e1] at p
    have p1 : PostU K Wx G F H σ Q (match u.get st1 with
      | some t => if tyOk n t then .ok u st1 else .no
      | none => .no) := p
    have hv : ∀ t, u.get st1 = some t → ∃ A, Rp K G1 H1 t v A := fun t e => by
      cases u with
      | v t' => cases e; exact ⟨S2, a1⟩
      | s i =>
        obtain ⟨v', C, D, k1, k2, k3, _⟩ := r1.get (join_some e)
        have k4 : σ[i]? = some (some v) := a1
        rw [k4] at k1
        cases k1
        exact ⟨C, k2⟩
    cases e2 : u.get st1 with
    | none => rw [e2] at p1; exact p1.elim
    | some t =>
      rw [e2] at p1
      by_cases ht : tyOk n t = true
      · have p2 : PostU K Wx G F H σ Q (if tyOk n t then .ok u st1 else .no) := p1
        rw [if_pos ht] at p2
        obtain ⟨A, ra⟩ := hv _ e2
        exact ⟨tyV_of ra ht, p2 v H1 G1 S1 S2 x1 w1 d1 r1 a1⟩
      · have p2 : PostU K Wx G F H σ Q (if tyOk n t then .ok u st1 else .no) := p1
        rw [if_neg ht] at p2
        exact p2.elim
  · rw [e1] at p
    exact p
  · rw [e1] at p
    exact p
section
variable {X : Cx} {o e : Expr} {es : List Expr} {name : Str} {apos cpos : Pos} {Ty id : String} {r : V → List V → Hp → VK → Prop} {m : FS} {f : SU} {g : SA} {n j : Nat}
/-- o.m(e, ..), a builtin's method -/
theorem sim_mt (pa : PlainAttrs Ty) (slot : Slot Ty name id) (hty : typeOf (.builtin id) = pure (.type "method_descriptor")) (hm : MtR X id r)
    (hs : ∀ v vs H Q E, SpF X.K n m (v :: vs) H Q E → r v vs H Q) (ho : SimU X o f) (ha : SimA X (e :: es) g) (hl : LenA g j) (hn : j + 1 = n)
    (hbase : attributeBase o name X.env (eval o X.env) = eval o X.env := by rfl)
    (hfew : ((backTo cpos (starEach (e :: es) X.env)).all (fun x => !x.1) && (backToKw cpos (keywordEach [] X.env)).all (fun x => x.1.isSome)
      && decide ((e :: es).length + ([] : List Keyword).length + (if ([] : List Keyword).isEmpty then 0 else 1) < 30)) = true := by rfl)
    (hline : (apos.endLine == cpos.line) = true := by rfl) (hs2 : starEach (e :: es) X.env = (false, eval e X.env) :: starEach es X.env := by rfl) (hplain : (backTo cpos (starEach es X.env)).any (·.1) = false := by rfl) :
    SimE X (.Call (.Attribute o name apos) (e :: es) [] cpos) (eCall m [] (aCons (uChk Ty f) g)) := fun Wx tk =>
  PE.imp (pe_bm pa slot hty hm (ho Wx tk) (ha Wx tk) hbase hfew hline hs2 hplain) fun σ H Q q => by
    have q1 := call_core (n := n) (dv := []) .nil (fun vs us st st' e1 e2 => by rw [List.append_nil, e2, lenA_cons hl st us st' e1, hn]) q
    exact (chk_core (cons_core q1)).imp fun x H1 ⟨h1, h2⟩ => ⟨h1, h2.imp fun vs H2 q => hs _ _ _ _ _ (by rw [List.append_nil] at q; exact q)⟩
theorem sim_mt0 (pa : PlainAttrs Ty) (slot : Slot Ty name id) (hty : typeOf (.builtin id) = pure (.type "method_descriptor")) (hm : MtR X id r)
    (hs : ∀ v vs H Q E, SpF X.K 1 m (v :: vs) H Q E → r v vs H Q) (ho : SimU X o f)
    (hbase : attributeBase o name X.env (eval o X.env) = eval o X.env := by rfl) (hline : (apos.endLine == cpos.line) = true := by rfl) :
    SimE X (.Call (.Attribute o name apos) [] [] cpos) (eCall m [] (aCons (uChk Ty f) aNil)) := fun Wx tk =>
  PE.imp (pe_bm0 pa slot hty hm (ho Wx tk) hbase hline) fun σ H Q q => by
    have q1 := call_core (n := 1) (dv := []) .nil (fun vs us st st' e1 e2 => by rw [List.append_nil, e2, lenA_cons lenA_nil st us st' e1]) q
    exact (chk_core (one_core q1)).imp fun x H1 ⟨h1, h2⟩ => ⟨h1, hs _ _ _ _ _ h2⟩
end
/-! ### what methods do to owned lists -/
section
variable {K : PySem.W.Frag} {G F S : AS} {H : Hp} {p : Addr} {o : HO}
theorem own_ext (w : Wd G F S H) (s : S p) : Ext G F H G (upd H p o) := ⟨fun _ h => h, fun a h => upd_ne fun e => by
  rw [e] at h
  exact h.elim (fun z => w.gs p z s) fun z => w.fs p z s⟩
theorem upd_dom {a : Addr} (h : H a ≠ none) : upd H p o a ≠ none := by
  by_cases e : a = p
  · rw [e, upd_same]; exact Option.some_ne_none _
  · rw [upd_ne e]; exact h
theorem own_wd (w : Wd G F S H) : Wd G F S (upd H p o) := ⟨w.gf, w.gs, w.fs, fun a g => upd_dom (w.dG a g), fun a g => upd_dom (w.dF a g), fun a g => upd_dom (w.dS a g)⟩
theorem own_keep (w : Wd G F S H) (s : S p) {ts : List T} {vs : List V} {S' : AS} (r : RpL K G H ts vs S') (h : ∀ a, S' a → S a ∧ a ≠ p) : RpL K G (upd H p o) ts vs S' :=
  RpL.keep ts r (fun _ z => z) fun a z => upd_ne fun e => by
    rw [e] at z
    exact z.elim (fun z => w.gs p z s) fun z => (h p z).2 rfl
theorem own_keep1 (w : Wd G F S H) (s : S p) {t : T} {v : V} {S' : AS} (r : Rp K G H t v S') (h : ∀ a, S' a → a ≠ p) : Rp K G (upd H p o) t v S' :=
  Rp.keep t r (fun _ z => z) fun a z => upd_ne fun e => by
    rw [e] at z
    exact z.elim (fun z => w.gs p z s) fun z => (h p z) rfl
/-- the first one is an owned list -/
theorem fst_own {xs : List T} {ts : List T} {v : V} {vs : List V} (r : RpL K G H (.lst true xs :: ts) (v :: vs) S) : ∃ (p : Addr) (zs : List V) (A B : AS), v = .ref p ∧ A p ∧ H p = some (.lst zs) ∧ RpL K G H xs zs (fun b => A b ∧ b ≠ p) ∧ RpL K G H ts vs B ∧ (∀ a, A a → S a) ∧ (∀ a, B a → S a) ∧ (∀ a, A a → B a → False) := by
  obtain ⟨v', vr, A, B, e, ⟨p, zs, h1, h2, h3, h4⟩, h5, h6, h7, h8⟩ := r
  cases e
  exact ⟨p, zs, A, B, h1, h2, h3, h4, h5, h6, h7, h8⟩
/-- the end of a method that rewrote its receiver -/
theorem own_done {xs ys : List T} {ts : List T} {vs : List V} {zs ws : List V} {A B : AS} {Q : VK} {E : XK} {res : T} {v' : V} (w : Wd G F S H) (ap : A p) (hb : RpL K G H ts vs B) (ha : ∀ a, A a → S a) (hbs : ∀ a, B a → S a) (d : ∀ a, A a → B a → False)
    (hy : RpL K G (upd H p (.lst ws)) ys ws (fun b => A b ∧ b ≠ p)) (hr : Rp K G (upd H p (.lst ws)) res v' NoA)
    (q : PostF K G F H (.ref p :: vs) Q E (.ok res (.lst true ys :: ts))) : Q v' (upd H p (.lst ws)) := by
  refine q v' _ G S NoA (own_ext w (ha p ap)) ((own_wd w).less (fun _ z => z) fun a z => z.elim id fun z => z.elim) (fun _ _ z => z.elim) ?_ hr
  refine ⟨.ref p, vs, A, B, rfl, ⟨p, ws, rfl, ap, upd_same, hy⟩, ?_, ha, hbs, d⟩
  exact own_keep w (ha p ap) hb fun a z => ⟨hbs a z, fun e => d p ap (e ▸ z)⟩
theorem cl_own {xs : List T} {zs : List V} {ws : List V} {S' : AS} (w : Wd G F S H) (sp : S p) (c : Cl K G H xs zs) : RpL K G (upd H p (.lst ws)) xs zs S' :=
  of_cl (c.keep (fun _ z => z) fun a g => upd_ne fun e => w.gs p (e ▸ g) sp)
end
def mApp : FS
  | [.lst true xs, t] => if frz t && decide (xs.length < sizeLine) then .ok .non [.lst true (xs ++ [t]), t] else .no
  | _ => .no
theorem ms_app {K : PySem.W.Frag} (v : V) (vs : List V) (H : Hp) (Q : VK) (E : XK) (h : SpF K 2 mApp (v :: vs) H Q E) : rAppend v vs H Q := by
  obtain ⟨hl, G, F, S, ts, w, r, q⟩ := h
  unfold mApp at q
  split at q
  · rename_i xs t
    split at q
    · rename_i hc
      obtain ⟨f1, f2⟩ := Bool.and_eq_true_iff.mp hc
      obtain ⟨p, zs, A, B, rfl, ap, hp, h1, h2, h3, h4, h5⟩ := fst_own r
      obtain ⟨y, yr, C, D, rfl, h6, h7, h8, _⟩ := h2
      rw [show yr = [] from h7] at q ⊢
      refine ⟨p, zs, y, rfl, rfl, hp, by rw [← rpl_len h1]; exact of_decide_eq_true f2, ?_⟩
      have h6' : Rp K G H t y NoA := Rp.cold t NoA f1 h6
      refine own_done (ts := [t]) (xs := xs) (B := NoA) w ap ⟨y, [], NoA, NoA, rfl, h6', rfl, fun _ z => z, fun _ z => z, fun _ z => z.elim⟩ h3 (fun _ z => z.elim) (fun _ _ z => z.elim) (zs := zs) ?_ (res := .non) (v' := .non) rfl q
      have sp := h3 p ap
      exact RpL.mono _ (rpl_snoc (own_keep w sp h1 fun a z => ⟨h3 a z.1, z.2⟩) (own_keep1 w sp h6' fun _ z => z.elim) fun _ _ z => z.elim) fun a z => z.elim id fun z => z.elim
    · exact q.elim
  · exact q.elim
def mExt : FS
  | [.lst true xs, .lst ob ys] => if frzL ys && decide (xs.length + ys.length ≤ sizeLine) then .ok .non [.lst true (xs ++ ys), .lst ob ys] else .no
  | _ => .no
theorem rpl_app {K : PySem.W.Frag} {G : AS} {H : Hp} : ∀ {xs : List T} {zs : List V} {ys : List T} {ws : List V} {S : AS}, RpL K G H xs zs S → Cl K G H ys ws → RpL K G H (xs ++ ys) (zs ++ ws) S
  | [], zs, ys, ws, S, h, c => by
    rw [show zs = [] from h]
    exact of_cl c
  | x :: xs, _, ys, ws, S, ⟨v, vr, A, B, h1, h2, h3, h4, h5, h6⟩, c => by
    rw [h1]
    exact ⟨v, vr ++ ws, A, B, rfl, h2, rpl_app h3 c, h4, h5, h6⟩
theorem ms_ext {K : PySem.W.Frag} (v : V) (vs : List V) (H : Hp) (Q : VK) (E : XK) (h : SpF K 2 mExt (v :: vs) H Q E) : rExtend v vs H Q := by
  obtain ⟨hl, G, F, S, ts, w, r, q⟩ := h
  unfold mExt at q
  split at q
  · rename_i xs ob ys
    split at q
    · rename_i hc
      obtain ⟨f1, f2⟩ := Bool.and_eq_true_iff.mp hc
      obtain ⟨p, zs, A, B, rfl, ap, hp, h1, h2, h3, h4, h5⟩ := fst_own r
      have h2' := h2
      obtain ⟨y, yr, C, D, rfl, h6, h7, h8, _⟩ := h2
      rw [show yr = [] from h7] at q h2' ⊢
      obtain ⟨b, ws, rfl, hb, hys⟩ := lst_at h6
      refine ⟨p, b, zs, ws, rfl, rfl, hp, hb, by rw [← rpl_len h1, ← rpl_len hys]; exact of_decide_eq_true f2, ?_⟩
      have sp := h3 p ap
      refine own_done (ts := [.lst ob ys]) (xs := xs) (B := B) w ap h2' h3 h4 h5 (zs := zs) ?_ (res := .non) (v' := .non) rfl q
      exact rpl_app (own_keep w sp h1 fun a z => ⟨h3 a z.1, z.2⟩) ((cl_of f1 hys).keep (fun _ z => z) fun a g => upd_ne fun e => w.gs p (e ▸ g) sp)
    · exact q.elim
  · exact q.elim
def mRev : FS
  | [.lst true xs] => if frzL xs then .ok .non [.lst true xs.reverse] else .no
  | _ => .no
theorem ms_rev {K : PySem.W.Frag} (v : V) (vs : List V) (H : Hp) (Q : VK) (E : XK) (h : SpF K 1 mRev (v :: vs) H Q E) : rReverse v vs H Q := by
  obtain ⟨hl, G, F, S, ts, w, r, q⟩ := h
  unfold mRev at q
  split at q
  · rename_i xs
    split at q
    · rename_i hc
      obtain ⟨p, zs, A, B, rfl, ap, hp, h1, h2, h3, h4, h5⟩ := fst_own r
      rw [show vs = [] from h2] at q ⊢
      have sp := h3 p ap
      exact ⟨p, zs, rfl, rfl, hp, own_done (ts := []) (xs := xs) (B := NoA) w ap rfl h3 (fun _ z => z.elim) (fun _ _ z => z.elim) (zs := zs) (cl_own w sp (pr_rev (cl_of hc h1))) (res := .non) (v' := .non) rfl q⟩
    · exact q.elim
  · exact q.elim
def mClear : FS
  | [.lst true xs] => .ok .non [.lst true []]
  | _ => .no
theorem ms_clear {K : PySem.W.Frag} (v : V) (vs : List V) (H : Hp) (Q : VK) (E : XK) (h : SpF K 1 mClear (v :: vs) H Q E) : rClear v vs H Q := by
  obtain ⟨hl, G, F, S, ts, w, r, q⟩ := h
  unfold mClear at q
  split at q
  · rename_i xs
    obtain ⟨p, zs, A, B, rfl, ap, hp, h1, h2, h3, h4, h5⟩ := fst_own r
    rw [show vs = [] from h2] at q ⊢
    exact ⟨p, zs, rfl, rfl, hp, own_done (ts := []) (xs := xs) (B := NoA) w ap rfl h3 (fun _ z => z.elim) (fun _ _ z => z.elim) (zs := zs) (ys := []) rfl (res := .non) (v' := .non) rfl q⟩
  · exact q.elim
def mPop : FS
  | [.lst true xs] => if frzL xs then match xs[xs.length - 1]? with
    | some t => .ok t [.lst true xs.dropLast]
    | none => .no else .no
  | _ => .no
theorem pr_dropLast {α β : Type} {R : α → β → Prop} : ∀ {a : List α} {x : List β}, Paired R a x → Paired R a.dropLast x.dropLast
  | _, _, .nil => .nil
  | _, _, .cons q .nil => .nil
  | _, _, .cons q (.cons q2 t) => .cons q (pr_dropLast (.cons q2 t))
theorem ms_pop {K : PySem.W.Frag} (v : V) (vs : List V) (H : Hp) (Q : VK) (E : XK) (h : SpF K 1 mPop (v :: vs) H Q E) : rPop v vs H Q := by
  obtain ⟨hl, G, F, S, ts, w, r, q⟩ := h
  unfold mPop at q
  split at q
  · rename_i xs
    split at q
    · rename_i hc
      split at q
      · rename_i t ht
        obtain ⟨p, zs, A, B, rfl, ap, hp, h1, h2, h3, h4, h5⟩ := fst_own r
        rw [show vs = [] from h2] at q ⊢
        have sp := h3 p ap
        obtain ⟨y, C, hy, ry, _⟩ := rpl_get h1 ht
        rw [rpl_len h1] at hy
        refine ⟨p, zs, y, rfl, rfl, hp, hy, own_done (ts := []) (xs := xs) (B := NoA) w ap rfl h3 (fun _ z => z.elim) (fun _ _ z => z.elim) (zs := zs) (cl_own w sp (pr_dropLast (cl_of hc h1))) ?_ q⟩
        exact own_keep1 w sp (Rp.cold t NoA (frzL_get hc ht) ry) fun _ z => z.elim
      · exact q.elim
    · exact q.elim
  · exact q.elim
/-- o[i] = x: x, o, i -/
def mSet : FS
  | [t, .lst true xs, .int i] => if frz t then match ixN xs.length i with
    | some j => .ok .non [t, .lst true (xs.set j t), .int i]
    | none => .no else .no
  | _ => .no
theorem rpl_set {K : PySem.W.Frag} {G : AS} {H : Hp} {t : T} {v : V} (ht : Rp K G H t v NoA) : ∀ {xs : List T} {zs : List V} {S : AS} (j : Nat), RpL K G H xs zs S → RpL K G H (xs.set j t) (zs.set j v) S
  | [], zs, S, j, h => by rw [show zs = [] from h]; exact rfl
  | x :: xs, _, S, 0, ⟨w, wr, A, B, h1, h2, h3, h4, h5, h6⟩ => by
    rw [h1]
    exact ⟨v, wr, NoA, B, rfl, ht, h3, fun _ z => z.elim, h5, fun _ z => z.elim⟩
  | x :: xs, _, S, j + 1, ⟨w, wr, A, B, h1, h2, h3, h4, h5, h6⟩ => by
    rw [h1]
    exact ⟨w, wr.set j v, A, B, rfl, h2, rpl_set ht j h3, h4, h5, h6⟩
theorem ms_set {K : PySem.W.Frag} {x o i : V} {H : Hp} {Q : Hp → Prop} {E : XK} (h : SpF K 3 mSet [x, o, i] H (fun _ H' => Q H') E) : rSetL o i x H Q := by
  obtain ⟨hl, G, F, S, ts, w, r, q⟩ := h
  unfold mSet at q
  split at q
  · rename_i t xs n
    split at q
    · rename_i ft
      split at q
      · rename_i j hj
        obtain ⟨x', xr, A0, B0, e, rx, r2, hA0, hB0, hd0⟩ := r
        cases e
        obtain ⟨p, zs, A, B, rfl, ap, hp, h1, h2, h3, h4, h5⟩ := fst_own r2
        obtain ⟨i', ir, C, D, e, ri, r3, _⟩ := h2
        cases e
        cases (show i = .int n from ri)
        have rx' : Rp K G H t x NoA := Rp.cold t NoA ft rx
        have sp := hB0 p (h3 p ap)
        have lz := rpl_len h1
        refine ⟨p, zs, n, j, rfl, rfl, hp, by rw [← lz]; exact hj, ?_⟩
        refine q .non _ G S NoA (own_ext w sp) ((own_wd w).less (fun _ z => z) fun a z => z.elim id fun z => z.elim) (fun _ _ z => z.elim) ?_ rfl
        have rx2 : Rp K G (upd H p (.lst (zs.set j x))) t x NoA := own_keep1 w sp rx' fun _ z => z.elim
        refine ⟨x, [.ref p, .int n], NoA, A, rfl, rx2, ⟨.ref p, [.int n], A, NoA, rfl, ⟨p, zs.set j x, rfl, ap, upd_same, ?_⟩, ⟨.int n, [], NoA, NoA, rfl, rfl, rfl, fun _ z => z, fun _ z => z, fun _ z => z.elim⟩, fun _ z => z, fun _ z => z.elim, fun _ _ z => z.elim⟩, fun _ z => z.elim, fun a z => hB0 a (h3 a z), fun _ z => z.elim⟩
        exact rpl_set rx2 j (own_keep w sp h1 fun a z => ⟨hB0 a (h3 a z.1), z.2⟩)
      · exact q.elim
    · exact q.elim
  · exact q.elim
/-- o[i] = e -/
def sSetIx (f : SE) (o g : SU) : SS := sExpr (uV (eCall mSet [] (aCons (uV f) (aCons o (aCons g aNil)))))
theorem sim_setIx {X : Cx} {P : Nat → Bool} {o i e : Expr} {f : SE} {o' g : SU} {pos tpos : Pos} (he : SimE X e f) (ho : SimU X o o') (hi : SimU X i g)
    (ha : ∀ v, assign (.Subscript o i tpos) X.env v = (do
      let ov ← holding [v] (eval o X.env)
      let iv ← holding [v, ov] (eval i X.env)
      standAt tpos
      holding [v, ov, iv] (setItem ov iv v)
      release [v, ov, iv] []) := by intro _; rfl)
    (hs : swapsWithSole [.Subscript o i tpos] e pos.line X.env = pure false := by rfl) (hw : swappedStores [.Subscript o i tpos] e X.env = pure none := by rfl)
    (h1 : (assignEach [.Subscript o i tpos] X.env).map (·.2) = [assign (.Subscript o i tpos) X.env] := by rfl) : SimS X P (.Assign [.Subscript o i tpos] e pos) (sSetIx f o' g) := fun Wx tk =>
  PS.imp (ps_asg (he Wx tk) (pg_sub (ho Wx tk) (hi Wx tk) set_list ha) hs hw h1) fun D σ H h => by
    have q := call_core (n := 3) (dv := []) .nil (fun vs us st st' e1 e2 => by rw [List.append_nil, e2, lenA_cons (lenA_cons (lenA_cons lenA_nil)) st us st' e1]) (RdS.expr h)
    exact (three_core q).imp fun x H1 q => q.imp fun o H2 q => q.imp fun i H3 q => ms_set q
end
end Ev

/-! EvEnum: enumerate over a tuple; loops over lists and tuples alike. -/
namespace PySem
theorem meets_enumerate_new1 {v : Value} {o : Obj} {H : Heap → Prop} (B : Begins v o H) :
    Meets (Builtin.«enumerate.__new__» ⟨[.type "enumerate", v], []⟩) (fun _ R s => H s.heap ∧
      R (.ok (.ret (.ref (s.heap.push o).objs.size))) { s with heap := (s.heap.push o).push { cls := .type "enumerate", data := .fields #[.none, .bool false, .ref s.heap.objs.size, rawInt 0, .none, .none] } }) :=
  .of_wp fun prog w A R s h => by
    obtain ⟨hp, g, d, tk, os⟩ := s; obtain ⟨h1, h⟩ := h
    have hsub := sub_enumerate
    have q1 : ∀ {A' : Around} {E : Value → Shared → Prop} {Q : Value → Shared → Prop}, Q (.ref hp.objs.size) ⟨hp.push o, g, d, tk, os⟩ → wpAny (model prog w) A' (pyIter v) Q E ⟨hp, g, d, tk, os⟩ :=
      fun q => B.iter prog w _ _ ⟨hp, g, d, tk, os⟩ _ h1 q
    wp_walk using q1
    refine wpAny_stack_any fun st => wpAny_pure ?_
    split
    · rename_i c _ _ _ _ _
      cases (c == Value.type "enumerate")
      · wp_walk using q1
        exact ⟨_, rfl, h⟩
      · wp_walk using q1
        exact ⟨_, rfl, h⟩
    · wp_walk using q1
      exact ⟨_, rfl, h⟩
section
variable {prog : Program} {w : World} {A : Around} {E : Value → Shared → Prop} {s : Shared}
theorem enum_begins1 {v : Value} {o : Obj} {H : Heap → Prop} {Q : Value → Shared → Prop} (B : Begins v o H) (h1 : H s.heap)
    (h : ∀ h', IsEnum h' (s.heap.objs.size + 1) s.heap.objs.size 0 .none → h'.get? s.heap.objs.size = some o → h'.objs.size = s.heap.objs.size + 2 →
      (∀ b o, s.heap.get? b = some o → h'.get? b = some o) → Q (.ref (s.heap.objs.size + 1)) { s with heap := h' }) :
    wpAny (model prog w) A (call (.type "enumerate") [v]) Q E s := by
  refine callType_new F.called_enumerate (by decide) (F.typeCall_enumerate_1 _) (F.newCall_enumerate_1 _) (fun obj => F.args_object_init_2 obj _) F.entry_enumerate_new
    (meets_enumerate_new1 B) ⟨h1, ?_⟩
  have hz : (s.heap.push o).objs.size = s.heap.objs.size + 1 := Heap.size_push ..
  show _ ∧ _
  rw [hz]
  have he : IsEnum ((s.heap.push o).push { cls := .type "enumerate", data := .fields #[.none, .bool false, .ref s.heap.objs.size, rawInt 0, .none, .none] }) (s.heap.objs.size + 1) s.heap.objs.size 0 .none := by
    have := Heap.get?_push_size (s.heap.push o) (o := { cls := .type "enumerate", data := .fields #[.none, .bool false, .ref s.heap.objs.size, rawInt 0, .none, .none] }) rfl
    rw [hz] at this; exact this
  refine ⟨⟨_, he, rfl⟩, h _ he (Heap.get?_push_of_some _ (Heap.get?_push_size _ B.free)) (by rw [Heap.size_push, hz]) fun b o x => Heap.get?_push_of_some _ (Heap.get?_push_of_some _ x)⟩
theorem enumT_end {e it t : Addr} {items : Array Value} {j : Nat} {i : Int} {old : Value} {Q : Option Value → Shared → Prop} (hh : A.handled = none)
    (he : IsEnum s.heap e it i old) (hit : s.heap.IsTupleIter it t j) (ht : s.heap.IsTuple t items) (hj : items[j]? = none)
    (hQ : ∀ h', Heap.ExtBut it s.heap h' → Q none { s with heap := h' }) : wpAny (model prog w) A (pyNext (.ref e)) Q E s := by
  have hT : s.TypeIs (.ref e) "enumerate" := ⟨_, he, rfl⟩
  unfold pyNext
  refine wpAny_bind (wpAny_attempt (wpAny_callSpecial?_slot (name := Str.ofString "__next__") hT F.slot_enumerate_next
    (wpAny_call_entry F.slot_enumerate_next hT F.entry_enumerate_next ?_ (F.args_enumerate_next_1 _))))
  show wpAny _ _ (field (.ref e) 2 >>= _) _ _ _
  refine wpAny_bind (wpAny_field he rfl (x := .ref it) rfl ?_)
  refine wpAny_bind (wpAny_nextOf_tuple_end hh hit ht hj fun h' x he' hx' => ?_)
  obtain ⟨o, ho, hc⟩ := hx'
  refine wpAny_bind (wpAny_isInstance (T := "StopIteration") (b := true) ⟨o, ho, hc⟩ isSubtype_stop ?_)
  exact wpAny_pure (hQ _ he')
end
end PySem
namespace Ev
noncomputable section
open PySem PySem.Spec PyProof.Rows L2
/-- the tuple at a, each item in a new pair -/
def IteT (K : PySem.W.Frag) (a : Addr) : It :=
  ⟨fun i H => ∃ (xs : List V) (x : V), SqT K H a xs ∧ xs[i]? = some x, fun i H v H' => ∃ T x, v = .ref T ∧ H T = none ∧ H' = upd H T (.tup [.int (i : Nat), x]) ∧ ∀ xs, SqT K H a xs → xs[i]? = some x, fun i H => ∃ xs : List V, SqT K H a xs ∧ xs.length ≤ i⟩
theorem turn_enumT {P : Program} {w : World} {K : PySem.W.Frag} {elts : List Expr} {kk : Nat} {tpos : Pos} (a e it : Addr) :
    Turn P w K (.Tuple elts kk tpos) (IteT K a) [e, it] e (fun i h => (∃ old, IsEnum h e it ((i : Nat) : Int) old) ∧ PySem.Heap.IsTupleIter h it a i ∧ e ≠ it ∧ a ≠ it ∧ e ≠ a) where
  mem := by simp
  obj := fun i h st b hb => by
    obtain ⟨⟨old, he⟩, ⟨o, ho, hc, hd⟩, _⟩ := st
    have e' : b = e ∨ b = it := by simpa using hb
    rcases e' with z | z
    · rw [z]; exact ⟨_, he, fun v q => nomatch q⟩
    · rw [z]; exact ⟨o, ho, fun v q => by rw [hd] at q; cases q⟩
  keep := fun i h h' st k => let ⟨⟨old, he⟩, hi, hne⟩ := st; ⟨⟨old, k e (by simp) _ he⟩, hi.at fun o q => k it (by simp) o q, hne⟩
  item := by
    intro X hP hw hK hc i pins s σ H E I hf st hg
    subst hP hw hK
    obtain ⟨⟨old, he⟩, hit, hne, hat, hea⟩ := st
    obtain ⟨xs, x, hq, hx⟩ := hg
    obtain ⟨its, rv, p, hz⟩ := I.tuple hq
    obtain ⟨u, hu, ru⟩ := rv.get hx
    have hel : e < s.heap.objs.size := Heap.lt_size he
    have hil : it < s.heap.objs.size := by obtain ⟨_, q, _⟩ := hit; exact Heap.lt_size q
    have D := Draws.tuple (prog := X.prog) (w := X.w) (A := X.A.in1) (I.ok.hd hc) it a hat its.toArray
    have hlt : i < its.toArray.size := by
      rw [List.size_toArray]
      exact (List.getElem?_eq_some_iff.mp hu).1
    refine wpAny_pyNext_enum_itemC D he ⟨hit, p⟩ hlt hne (by simp; exact ⟨hne, hea⟩) fun x' h' tk hP ho hS hT hsz hk => ?_
    have ex : x' = u := by
      have z : its.toArray[i]? = some x' := hP
      rw [List.getElem?_toArray, hu] at z
      cases z
      rfl
    subst ex
    refine ⟨_, rfl, wpAny_letOwnedTupleGo_enum (s := { s with heap := h', toks := tk + 1 }) ho fun h'' he' sb => ?_⟩
    have hT2 : h''.get? s.heap.objs.size = some { cls := .type "tuple", data := .seq #[.int i tk, x'] } := (sb.2 _ (Nat.ne_of_gt hel)).trans hT
    have new : ObjOk X.prog X.w (upd H s.heap.objs.size (.tup [.int (i : Nat), x])) h'' s.heap.objs.size (.tup [.int (i : Nat), x]) :=
      ⟨by show 2 ≤ sizeLine; exact two_sz, [.int i tk, x'], .cons ⟨_, rfl⟩ (.cons ru .nil), ⟨_, hT2, rfl, _, rfl⟩⟩
    have I1 : Inv X pins σ (upd H s.heap.objs.size (.tup [.int (i : Nat), x])) { s with heap := h'', toks := tk + 1 } :=
      I.turnedNew (ch := [e, it]) (fun b ob hb q => (sb.2 b (fun z => hb (by simp [z]))).trans (hk b ob (fun z => hb (by simp [z])) (fun z => hb (by simp [z])) q)) hf (Nat.le_refl _) new
    refine ⟨.ref s.heap.objs.size, _, I1, rfl, ⟨_, x, rfl, I.hok.fresh (Nat.le_refl _), rfl, fun ys hy => by rw [I.tuple_inj hy hq]; exact hx⟩, ⟨⟨x', ?_⟩, hS.1.at fun o q => (sb.2 it (Ne.symm hne)).trans q, hne, hat, hea⟩, fun b hb => ?_⟩
    · have e1 : ((i + 1 : Nat) : Int) = (i : Int) + 1 := by omega
      rw [e1]; exact he'
    · have hb' : b < s.heap.objs.size := by
        have e' : b = e ∨ b = it := by simpa using hb
        rcases e' with z | z
        · rw [z]; exact hel
        · rw [z]; exact hil
      rw [upd_ne (Nat.ne_of_lt hb')]
      exact (hf b hb).1
  done := by
    intro X hP hw hK hc i pins s σ H E I hf st hg
    subst hP hw hK
    obtain ⟨⟨old, he⟩, hit, hne, hat, hea⟩ := st
    obtain ⟨xs, hq, hx⟩ := hg
    obtain ⟨its, rv, p, hz⟩ := I.tuple hq
    obtain ⟨f0, f1, f2, f3, f4, f5⟩ := hf it (by simp)
    have hl := rv.length
    exact enumT_end (I.ok.hd hc) he hit p (by simp; omega) fun h' eb => ⟨rfl, I.turned (t' := s.toks) (fun b o hb q => eb b o hb q) f0 f1 f3 f4 f5⟩
  self := fun A i s Q E st h => let ⟨⟨_, he⟩, _⟩ := st; wpAny_pyIter_enum he h
def iEnumT (K : PySem.W.Frag) (ta : TA) : TI := fun σ H R => ta σ H fun vs H1 => ∃ a xs, vs = [.ref a] ∧ SqT K H1 a xs ∧ R (IteT K a) H1
theorem pi_enumT {X : Cx} {e : Expr} {ta : TA} {p pos tpos : Pos} {elts : List Expr} {kk : Nat} (hg : Gl X "enumerate") (hm : X.mg "enumerate" = none) (ha : PA X [e] ta) (hs : starEach [e] X.env = [(false, eval e X.env)] := by rfl) :
    PI X (.Tuple elts kk tpos) (.Call (.Name "enumerate" p) [e] [] pos) (iEnumT X.K ta) := by
  refine ⟨fun pins s σ H R I h => ?_⟩
  refine Call_ (ld_blt I hg hm boot_enumerate (PyProof.Rows.callWith_type1 (thn (ha.run pos pins s σ H _ I h) fun us s1 ⟨vs, H1, I1, r1, q1⟩ => ?_) hs rfl))
  obtain ⟨a, xs, ex, hq, q⟩ := q1
  subst ex
  cases r1 with
  | cons r rr =>
    cases rr
    cases r
    obtain ⟨its, rv, p', hz⟩ := I1.tuple hq
    have hal : a < s1.heap.objs.size := by obtain ⟨o, ho, _⟩ := p'; exact Heap.lt_size ho
    refine enum_begins1 (begins_tuple a its.toArray) p' fun h' he hit hsz hk => wpAny_pyIter_enum he ?_
    have I2 : Inv X pins σ H1 { s1 with heap := h' } := I1.kept (t' := s1.toks) hk
    refine ⟨s1.heap.objs.size + 1, [s1.heap.objs.size + 1, s1.heap.objs.size], _, _, H1, rfl, I2, turn_enumT a (s1.heap.objs.size + 1) s1.heap.objs.size, ⟨⟨.none, he⟩, ⟨_, hit, rfl, rfl⟩, Nat.succ_ne_self _, Nat.ne_of_lt hal, Ne.symm (Nat.ne_of_lt (Nat.lt_succ_of_lt hal))⟩, fun b hb => ?_, q⟩
    have e' : b = s1.heap.objs.size + 1 ∨ b = s1.heap.objs.size := by simpa using hb
    have hle : s1.heap.objs.size ≤ b := by
      rcases e' with z | z
      · rw [z]; exact Nat.le_add_right _ _
      · rw [z]; exact Nat.le_refl _
    exact I1.fpOk hle (I1.hok.fresh hle)
def enumTup (t : T) : Option (List T) := (itemsTup t).map (enT 0)
theorem sim_ienumT {X : Cx} {l : Expr} {f : SU} {p pos tpos : Pos} {elts : List Expr} {kk : Nat} (hg : Gl X "enumerate") (hm : X.mg "enumerate" = none) (h : SimU X l f) (hs : starEach [l] X.env = [(false, eval l X.env)] := by rfl) (hs' : starEach [l] X.env = (false, eval l X.env) :: starEach [] X.env := by rfl) :
    SimI X (.Tuple elts kk tpos) (.Call (.Name "enumerate" p) [l] [] pos) (iOf enumTup f) := fun Wx tk =>
  PI.imp (pi_enumT hg hm (pa_cons (h Wx tk) pa_nil hs') hs) fun σ H R q =>
  (items_core q).imp fun v H1 ⟨G, F, S, t, us, w, r, fr, e, k⟩ => by
    unfold enumTup at e
    cases e0 : itemsTup t with
    | none => rw [e0] at e; cases e
    | some ts =>
      rw [e0] at e
      cases e
      obtain ⟨a, vs, h1, c, fl, s⟩ := tup_items w r fr e0
      refine ⟨a, vs, by rw [h1], s H1 fun _ _ => rfl, k _ (fun H2 kk => ?_) (frzL_enT 0 fl)⟩
      have s2 := s H2 kk
      refine ⟨⟨vs, s2, by rw [enT_length, c.length]; exact Nat.le_refl _⟩, fun i t e => ?_⟩
      obtain ⟨u, e1, rfl⟩ := enT_get e
      obtain ⟨x, g1, g2⟩ := c.some kk e1
      refine ⟨⟨vs, x, s2, g1⟩, fun y H3 q => ?_⟩
      obtain ⟨p, x2, rfl, np, rfl, q2⟩ := q
      have e2 := q2 vs s2
      rw [g1] at e2
      cases e2
      rw [Nat.zero_add]
      exact rp_pair (fun a g => by rw [kk a g]; exact w.dG a g) np rfl g2
/-! ### lists and tuples alike -/
/-- the tree decides -/
theorem sim_ior {X : Cx} {tg l : Expr} {f : SU} {p q : T → Option (List T)} (h1 : SimI X tg l (iOf p f)) (h2 : SimI X tg l (iOf q f)) : SimI X tg l (iOf (fun t => (p t).or (q t)) f) := fun Wx tk => ⟨fun pins s σ H R I ⟨G, F, S, st, w, r, z⟩ => by
  unfold iOf at z
  cases e : f st with
  | no => rw [e] at z; exact z.elim
  | ex x s1 =>
    refine (h1 Wx tk).run pins s σ H R I ⟨G, F, S, st, w, r, ?_⟩
    unfold iOf
    rw [e] at z ⊢
    exact z
  | ok u s1 =>
    rw [e] at z
    have z1 : PostI X.K Wx G F H σ R (match u.cool s1 with
      | some (t, st1) => match (p t).or (q t) with
        | some ts => .ok ts st1
        | none => .no
      | none => .no) := z
    cases e1 : u.cool s1 with
    | none => rw [e1] at z1; exact z1.elim
    | some k =>
      obtain ⟨t, st1⟩ := k
      rw [e1] at z1
      have z2 : PostI X.K Wx G F H σ R (match (p t).or (q t) with
        | some ts => .ok ts st1
        | none => .no) := z1
      cases e2 : p t with
      | some ts =>
        rw [e2] at z2
        refine (h1 Wx tk).run pins s σ H R I ⟨G, F, S, st, w, r, ?_⟩
        unfold iOf
        rw [e]
        show PostI X.K Wx G F H σ R (match u.cool s1 with
          | some (t, st1) => match p t with
            | some ts => .ok ts st1
            | none => .no
          | none => .no)
        rw [e1]
        show PostI X.K Wx G F H σ R (match p t with
            | some ts => .ok ts st1
            | none => .no)
        rw [e2]
        exact z2
      | none =>
        rw [e2] at z2
        refine (h2 Wx tk).run pins s σ H R I ⟨G, F, S, st, w, r, ?_⟩
        unfold iOf
        rw [e]
        show PostI X.K Wx G F H σ R (match u.cool s1 with
          | some (t, st1) => match q t with
            | some ts => .ok ts st1
            | none => .no
          | none => .no)
        rw [e1]
        exact z2⟩
def itAny (t : T) : Option (List T) := (itemsOf t).or (itemsTup t)
def enAny (t : T) : Option (List T) := (enumOf t).or (enumTup t)
theorem sim_iany {X : Cx} {tg l : Expr} {f : SU} (h : SimU X l f) : SimI X tg l (iOf itAny f) := sim_ior (sim_ilist h) (sim_ituple h)
theorem sim_ienAny {X : Cx} {l : Expr} {f : SU} {p pos tpos : Pos} {elts : List Expr} {kk : Nat} (hg : Gl X "enumerate") (hm : X.mg "enumerate" = none) (h : SimU X l f) (hs : starEach [l] X.env = [(false, eval l X.env)] := by rfl) (hs' : starEach [l] X.env = (false, eval l X.env) :: starEach [] X.env := by rfl) :
    SimI X (.Tuple elts kk tpos) (.Call (.Name "enumerate" p) [l] [] pos) (iOf enAny f) := sim_ior (sim_ienum hg hm h hs hs') (sim_ienumT hg hm h hs hs')
end
end Ev

/-! EvPure: calls that only look (what is owned is lent frozen, a scalar comes back); what is made is frozen; zip of either. -/
namespace Ev
noncomputable section
open PySem PySem.Spec PyProof.Rows L2

def eCallP (m : FS) (ds : List T) (f : SA) : SE := fun st => (f st).bind fun us st => match getL st us with
  | some ts => match m (fzL ts ++ ds) with
    | .ok r _ => if (scV r).isSome then .ok r st else .no
    | _ => .no
  | none => .no
theorem ops_fz {K : PySem.W.Frag} {G G' S : AS} {H : Hp} (s : ∀ a, S a → G' a) (g : ∀ a, G a → G' a) : ∀ {ts : List T} {vs : List V}, OpsR K G H S ts vs → RpL K G' H (fzL ts) vs NoA
  | [], vs, h => h
  | t :: ts, vs, ⟨v, vr, A, h1, h2, h3, h4⟩ => by
    rw [h1]
    exact ⟨v, vr, NoA, NoA, rfl, Rp.fz t h3 (fun a z => s a (h2 a z)) g, ops_fz s g h4, fun _ z => z.elim, fun _ z => z.elim, fun _ z => z.elim⟩
theorem rpl_sc {K : PySem.W.Frag} {G : AS} {H : Hp} : ∀ {ds : List T} {dv : List V}, Paired (fun t v => scV t = some v) ds dv → RpL K G H ds dv NoA
  | _, _, .nil => rfl
  | _, _, .cons h t => ⟨_, _, NoA, NoA, rfl, rp_sc NoA h, rpl_sc t, fun _ z => z.elim, fun _ z => z.elim, fun _ z => z.elim⟩
theorem rpl_cat {K : PySem.W.Frag} {G : AS} {H : Hp} : ∀ {xs : List T} {zs : List V} {ys : List T} {ws : List V}, RpL K G H xs zs NoA → RpL K G H ys ws NoA → RpL K G H (xs ++ ys) (zs ++ ws) NoA
  | [], zs, ys, ws, h, c => by
    rw [show zs = [] from h]
    exact c
  | x :: xs, _, ys, ws, ⟨v, vr, A, B, h1, h2, h3, h4, h5, h6⟩, c => by
    rw [h1]
    exact ⟨v, vr ++ ws, A, NoA, rfl, h2, rpl_cat (RpL.mono xs h3 fun a z => h5 a z) c, h4, fun _ z => z, fun _ _ z => z⟩
theorem rp_scOf {K : PySem.W.Frag} {G G' : AS} {H H' : Hp} {t : T} {v : V} {S : AS} (h : (scV t).isSome = true) (r : Rp K G H t v S) : Rp K G' H' t v NoA := by
  cases t <;> first | exact r | cases h
theorem callP_core {K : PySem.W.Frag} {Wx : WX} {σ : L2.St} {H : Hp} {Q : VK} {m : FS} {ds : List T} {dv : List V} {f : SA} {n j : Nat} (hd : Paired (fun t v => scV t = some v) ds dv) (hj : LenA f j) (hn : j + dv.length = n) (h : RdU K Wx (uV (eCallP m ds f)) σ H Q) :
    RdA K Wx f σ H fun vs H1 => SpF K n m (vs ++ dv) H1 Q (fun cls d H' => Wx cls d σ H') := by
  obtain ⟨G, F, S, st, w, r, p⟩ := h
  refine ⟨G, F, S, st, w, r, ?_⟩
  have p0 : PostU K Wx G F H σ Q (R.bind ((f st).bind fun us st => match getL st us with
    | some ts => match m (fzL ts ++ ds) with
      | .ok r _ => if (scV r).isSome then .ok r st else .no
      | _ => .no
    | none => .no) fun t st => .ok (.v t) st) := p
  cases e : f st with
  | ex x st1 => rw [e] at p0; exact p0
  | no => rw [e] at p0; exact p0
  | ok us st1 =>
    rw [e] at p0
    intro vs H1 G1 S1 S2 x1 w1 d1 r1 a1
    have p1 : PostU K Wx G F H σ Q (R.bind (match getL st1 us with
      | some ts => match m (fzL ts ++ ds) with
        | .ok r _ => if (scV r).isSome then .ok r st1 else .no
        | _ => .no
      | none => .no) fun t st => .ok (.v t) st) := p0
    cases e2 : getL st1 us with
    | none => rw [e2] at p1; exact p1.elim
    | some ts =>
      rw [e2] at p1
      have p2 : PostU K Wx G F H σ Q (R.bind (match m (fzL ts ++ ds) with
        | .ok r _ => if (scV r).isSome then .ok r st1 else .no
        | _ => .no) fun t st => .ok (.v t) st) := p1
      have ops := ops_of r1 a1 e2
      have hl : vs.length = j := (avs_len a1).symm.trans (hj _ _ _ e)
      refine ⟨by rw [List.length_append, hl, hn], fun a => G1 a ∨ (S1 a ∨ S2 a), F, NoA, fzL ts ++ ds, ⟨fun a g f => g.elim (fun g => w1.gf a g f) fun s => w1.fs a f s, fun _ _ z => z.elim, fun _ _ z => z.elim, fun a g => g.elim (w1.dG a) (w1.dS a), w1.dF, fun _ z => z.elim⟩, rpl_cat (ops_fz (fun _ z => .inr z) (fun _ z => .inl z) ops) (rpl_sc hd), ?_⟩
      cases e3 : m (fzL ts ++ ds) with
      | no => rw [e3] at p2; exact p2.elim
      | ex x as => rw [e3] at p2; exact p2.elim
      | ok r as =>
        rw [e3] at p2
        have p3 : PostU K Wx G F H σ Q (R.bind (if (scV r).isSome then .ok r st1 else .no) fun t st => .ok (.v t) st) := p2
        by_cases hs : (scV r).isSome = true
        · rw [if_pos hs] at p3
          intro v H2 G2 T1 T2 x2 w2 d2 ra rv
          have kp : ∀ a, G1 a ∨ (S1 a ∨ S2 a) → H2 a = H1 a := fun a z => x2.keep a (.inl z)
          refine p3 v H2 G1 S1 NoA ⟨x1.sub, fun a z => ?_⟩ ?_ (fun _ _ z => z.elim) (r1.keep (fun _ z => z) fun a z => kp a (z.imp id .inl)) (rp_scOf hs rv)
          · rw [← x1.keep a z]
            exact z.elim (fun z => kp a (.inl (x1.sub a z))) fun z => x2.keep a (.inr z)
          · exact ⟨w1.gf, fun a g s => s.elim (fun s => w1.gs a g (.inl s)) fun z => z.elim, fun a f s => s.elim (fun s => w1.fs a f (.inl s)) fun z => z.elim, fun a g => by rw [kp a (.inl g)]; exact w1.dG a g, fun a f => by rw [x2.keep a (.inr f)]; exact w1.dF a f, fun a s => s.elim (fun s => by rw [kp a (.inr (.inl s))]; exact w1.dS a (.inl s)) fun z => z.elim⟩
        · rw [if_neg hs] at p3
          exact p3.elim
theorem sim_callP {X : Cx} {x : Str} {p pos : Pos} {e : Expr} {es : List Expr} {f : Addr} {fd : FuncData} {ps : List Str} {k n j : Nat} {m : FS} {ds : List T} {dv : List V} {dd : List Value} {g : SA}
    (F : FnOk X.prog X.w X.K X.mg X.base (L2.CX X.prog X.w) k f fd ps (SpF X.K n m)) (hr : Room k X.A) (hg : Gl X x) (hm : X.mg x = some (.ref f)) (hk : PySem.W.keepIn X.K (.ref f) = true) (hb : Binds X.K fd ps dd) (hdv : Vals dv dd) (hd : Paired (fun t v => scV t = some v) ds dv)
    (ha : SimA X (e :: es) g) (hj : LenA g j) (hn : j + dv.length = n) (hdb : (x == ("__debug__" : Str)) = false := by decide) (he : starEach (e :: es) X.env = (false, eval e X.env) :: starEach es X.env := by rfl) (hpl : (backTo pos (starEach es X.env)).any (·.1) = false := by rfl) :
    SimE X (.Call (.Name x p) (e :: es) [] pos) (eCallP m ds g) := fun Wx tk =>
  PE.imp (pe_callSD (E := WE Wx) F hr hg hm hk hb hdv (fun σ => passAt tk σ) (ha Wx tk) hdb he hpl) fun σ H Q h => callP_core hd hj hn h
/-- what is made is frozen -/
def eCold (f : SE) : SE := fun st => (f st).bind fun t st => .ok (fz t) st
theorem sim_cold {X : Cx} {e : Expr} {f : SE} (h : SimE X e f) : SimE X e (eCold f) := fun Wx tk => PE.imp (h Wx tk) fun σ H Q ⟨G, F, S, st, w, r, p⟩ => by
  refine ⟨G, F, S, st, w, r, ?_⟩
  have p0 : PostU X.K Wx G F H σ Q (R.bind ((f st).bind fun t st => .ok (fz t) st) fun t st => .ok (.v t) st) := p
  unfold uV
  cases e : f st with
  | ex x s => rw [e] at p0; exact p0
  | no => rw [e] at p0; exact p0
  | ok t st1 =>
    rw [e] at p0
    exact fun v H1 G1 S1 S2 x1 w1 d1 r1 rv => p0 v H1 (fun a => G1 a ∨ S2 a) S1 NoA ⟨fun a z => .inl (x1.sub a z), x1.keep⟩ ⟨fun a g f => g.elim (fun g => w1.gf a g f) fun s => w1.fs a f (.inr s), fun a g s => s.elim (fun s => g.elim (fun g => w1.gs a g (.inl s)) fun z => d1 a s z) fun z => z.elim, fun a f s => s.elim (fun s => w1.fs a f (.inl s)) fun z => z.elim, fun a g => g.elim (w1.dG a) fun s => w1.dS a (.inr s), w1.dF, fun a s => s.elim (fun s => w1.dS a (.inl s)) fun z => z.elim⟩ (fun _ _ z => z.elim)
      (r1.keep (fun _ z => .inl z) fun _ _ => rfl) (Rp.fz t rv (fun _ z => .inr z) fun _ z => .inl z)
/-- one or, where it knows no more, the other -/
def siOr (f g : SI) : SI := fun st => match f st with
  | .no => g st
  | r => r
theorem sim_siOr {X : Cx} {tg l : Expr} {f g : SI} (h1 : SimI X tg l f) (h2 : SimI X tg l g) : SimI X tg l (siOr f g) := fun Wx tk => ⟨fun pins s σ H R I ⟨G, F, S, st, w, r, z⟩ => by
  unfold siOr at z
  cases e : f st with
  | no => rw [e] at z; exact (h2 Wx tk).run pins s σ H R I ⟨G, F, S, st, w, r, z⟩
  | ex x s1 => rw [e] at z; exact (h1 Wx tk).run pins s σ H R I ⟨G, F, S, st, w, r, by rw [e]; exact z⟩
  | ok u s1 => rw [e] at z; exact (h1 Wx tk).run pins s σ H R I ⟨G, F, S, st, w, r, by rw [e]; exact z⟩⟩
def iZip (pa : T → Option (List T)) (f g : SE) : SI := fun st => (aCons (uV f) (aCons (uV g) aNil) st).bind fun us st => match vsOf us with
  | some [t, u] => if frz t && frz u then match pa t, pa u with
    | some ts, some us => .ok (zipT ts us) st
    | _, _ => .no
    else .no
  | _ => .no
theorem sim_izipA {X : Cx} {l r : Expr} {f g : SE} {p pos tpos : Pos} {elts : List Expr} {kk : Nat} (hg : Gl X "zip") (hm : X.mg "zip" = none) (h1 : SimE X l f) (h2 : SimE X r g)
    (hs : starEach [l, r] X.env = (false, eval l X.env) :: starEach [r] X.env := by rfl) (hs2 : starEach [r] X.env = (false, eval r X.env) :: starEach [] X.env := by rfl) (hpl : (backTo pos (starEach [r] X.env)).any (·.1) = false := by rfl) :
    SimI X (.Tuple elts kk tpos) (.Call (.Name "zip" p) [l, r] [] pos) (siOr (iZip itemsOf f g) (iZip itemsTup f g)) := sim_siOr (sim_izip hg hm h1 h2 (.inl rfl) hs hs2 hpl) (sim_izip hg hm h1 h2 (.inr rfl) hs hs2 hpl)
end
end Ev

/-! EvEnd: the end of a law's proof; some rules for the printed walks. -/
namespace Ev
noncomputable section
open PySem PySem.Spec PyProof.Rows L2

theorem sim_setLc {X : Cx} {P : Nat → Bool} {i : Nat} {y : Str} {py : Pos} {elt tg iter : Expr} {ifs : List Expr} {scope : Scope} {own : List (Str × Nat)} {pos spos : Pos} {f : SI} {g : TS'} {tt : ST} {te : SE} (hc : X.calm = true) (hN : X.N.Nodup) (hy : X.N[i]? = some y) (hyl : X.env.scope.names.lookup y = some .local)
    (hP : P i = false) (hsw : swapsWith (.ListComp elt [⟨tg, iter, ifs, 0⟩] scope pos) (some (.Name y py)) spos.line X.env = pure true) (hi : SimI X tg iter f) (ok : BlkOk X.N X.env.scope scope own)
    (hg : ∀ (s : Shared) (H : Hp) (C : Addr) (cl : List (Str × Addr)) (fp : List Addr), SimG (X.blk s H scope (compEnvC scope cl C X.env) fp) (fun i => !(own.map (·.2)).contains i) tg g)
    (ht : ∀ (s : Shared) (H : Hp) (C : Addr) (cl : List (Str × Addr)) (fp : List Addr), SimTs (X.blk s H scope (compEnvC scope cl C X.env) fp) ifs tt)
    (he : ∀ (s : Shared) (H : Hp) (C : Addr) (cl : List (Str × Addr)) (fp : List Addr), SimE (X.blk s H scope (compEnvC scope cl C X.env) fp) elt te) (hs : ∀ x, foldedSetIterable iter X.env x = pure x := by intro _; rfl) :
    SimS X P (.Assign [.Name y py] (.ListComp elt [⟨tg, iter, ifs, 0⟩] scope pos) spos) (sAsg (eLc f g tt te (own.map (·.2))) (tgN i)) := fun Wx tk =>
  PS.imp (ps_setLc (g := RdG X.K (fun i => !(own.map (fun (x : Str × Nat) => x.2)).contains i) g) (tt := RdT X.K (fun _ _ _ _ => False) tt) (te := RdU X.K (fun _ _ _ _ => False) (uV te)) hc hN hy hyl hsw (hi Wx tk) ok hg (fun s H C cl fp => ht s H C cl fp _ takes0) (fun s H C cl fp => he s H C cl fp _ takes0) hs) fun D σ H h => by
    refine lc_core' ?_ fun _ _ _ q => q
    exact (RdS.asg h).imp fun v H' ⟨G, F, S, S2, st, t, st', w, d, r, rv, e, k⟩ => by
      cases e
      exact k _ _ w (r.fill rv d) (Pk.set hP)
/-- a def that is never well called -/
def noF : FS := fun _ => .no
theorem fn_no {P : Program} {w : World} {K : PySem.W.Frag} {mg : Str → Option Value} {base : Heap} {CX : CXT} {k n : Nat} {f : Addr} {fd : FuncData} {ps : List Str} : FnOk P w K mg base CX k f fd ps (SpF K n noF) := by
  have no : ∀ vs H Q E, ¬ SpF K n noF vs H Q E := fun vs H Q E ⟨_, _, _, _, _, _, _, q⟩ => q
  constructor
  all_goals first
    | (intro vs H Q E h; exact (no vs H Q E h).elim)
    | (intros; rename_i h; exact (no _ _ _ _ h).elim)
theorem spf_of {K : PySem.W.Frag} {H : Hp} {a : Addr} {ns : List Int} {m : FS} {as : List T} {E : XK} (hO : Only H) (hS : SqL K H a (ns.map V.int)) (hm : m [.scr ns] = .ok (.bl true) as) : SpF K 1 m [.ref a] H (fun v _ => v = .bl true) E := by
  refine ⟨rfl, fun b => H b ≠ none, NoA, NoA, [.scr ns], ⟨fun _ _ z => z, fun _ _ z => z, fun _ z => z.elim, fun _ z => z, fun _ z => z.elim, fun _ z => z.elim⟩, ⟨.ref a, [], NoA, NoA, rfl, ⟨a, rfl, ?_⟩, rfl, fun _ z => z, fun _ z => z, fun _ z => z.elim⟩, ?_⟩
  · rcases hS with (h | ⟨o, h⟩) | h
    · rcases hO a with z | ⟨o, xs, z⟩
      · rw [h] at z; cases z
      · rw [h] at z; cases z
    · exact .inl ⟨(by rw [h]; exact Option.some_ne_none _ : H a ≠ none), o, h⟩
    · exact .inr h
  · rw [hm]
    exact fun v H' G' S1 S2 _ _ _ _ r => r
theorem cx_no {P : Program} {w : World} {H : Hp} {s : Shared} {e : Value} {s' : Shared} (h : L2.CX P w [] H s (fun _ _ _ => False) e s') : False := by
  obtain ⟨a, B, H', cls, d, _, _, _, _, _, _, _, q⟩ := h
  exact q
/-- THE END: the law's def, its function on trees -/
theorem walk_ev {l : PySem.W.OpenLaw} {k : Nat} {q : Program} {loose : List Str} {XP : (Str → Option Value) → Heap → Prop} {YP : World → Heap → Prop} {d : DefRec} {x : Str} {m : FS}
    (hn : l.most = some 63) (hdf : d.params.defaults = []) (hr : Room k callerA)
    (F : ∀ (w : World) (mg : Str → Option Value) (fa : Addr) (h : Heap), YP w h → h.Ns mainGlobals mg → mg d.name = some (.ref fa) →
      ∃ (K : PySem.W.Frag) (fd : FuncData), K.In h ∧ (∀ (s : Shared) (u : Value), BindsTo s fd ⟨[u], []⟩ [(x, u)]) ∧
        ∀ base : Heap, K.In base → base.Ns mainGlobals mg → FnOk l.prog w K mg base (L2.CX l.prog w) k fa fd [x] (SpF K 1 m))
    (hm : ∀ ns : List Int, ns.length ≤ 63 → (∀ z ∈ ns, Builtin.Int.intBits z ≤ 1048576) → ∃ as, m [.scr ns] = .ok (.bl true) as) :
    PySem.W.WalkO q loose XP YP l.row.toRowW d [] (fun f vs => PySem.call f vs) := by
  refine Att.attach_callB hn hdf fun w s₀ s₁ mg mb fa o pm cd doc a vs ns G Y ho hd hcd hmg hobj hints hlen hbits hg => ?_
  obtain ⟨K, fd, KX, hb, hF⟩ := F w mg fa _ Y G.T.g hmg
  obtain ⟨as, hm⟩ := hm ns hlen hbits
  exact law_call KX G.T.g G.T.b G.T.builtins G.T.nolimit hg hobj hints (Nat.le_trans hlen sixty_sz) hr hF hb (fun H hO hS => spf_of hO hS hm) fun H e s' => cx_no
end
end Ev

/-! EvSimp: combinators at work, for simp. -/
namespace Ev
noncomputable section
open PySem PySem.Spec PyProof.Rows L2

@[simp] theorem frz_non : frz .non = true := rfl
@[simp] theorem frz_bl (b : Bool) : frz (.bl b) = true := rfl
@[simp] theorem frz_int (b : Int) : frz (.int b) = true := rfl
@[simp] theorem frz_str (b : Str) : frz (.str b) = true := rfl
@[simp] theorem frz_ty (b : String) : frz (.ty b) = true := rfl
@[simp] theorem frz_cls (b : Str) : frz (.cls b) = true := rfl
@[simp] theorem frz_scr (b : List Int) : frz (.scr b) = true := rfl
@[simp] theorem frz_tup (b : List T) : frz (.tup b) = frzL b := rfl
@[simp] theorem frz_lstt (b : List T) : frz (.lst true b) = false := rfl
@[simp] theorem frz_lstf (b : List T) : frz (.lst false b) = frzL b := rfl
@[simp] theorem frzL_nil : frzL [] = true := rfl
@[simp] theorem frzL_cons (t : T) (b : List T) : frzL (t :: b) = (frz t && frzL b) := rfl
@[simp] theorem fz_non : fz .non = .non := rfl
@[simp] theorem fz_bl (b : Bool) : fz (.bl b) = .bl b := rfl
@[simp] theorem fz_int (b : Int) : fz (.int b) = .int b := rfl
@[simp] theorem fz_str (b : Str) : fz (.str b) = .str b := rfl
@[simp] theorem fz_ty (b : String) : fz (.ty b) = .ty b := rfl
@[simp] theorem fz_cls (b : Str) : fz (.cls b) = .cls b := rfl
@[simp] theorem fz_scr (b : List Int) : fz (.scr b) = .scr b := rfl
@[simp] theorem fz_tup (b : List T) : fz (.tup b) = .tup (fzL b) := rfl
@[simp] theorem fz_lst (o : Bool) (b : List T) : fz (.lst o b) = .lst false (fzL b) := rfl
@[simp] theorem fzL_nil : fzL [] = [] := rfl
@[simp] theorem fzL_cons (t : T) (b : List T) : fzL (t :: b) = fz t :: fzL b := rfl
theorem fzL_map (b : List T) : fzL b = b.map fz := by
  induction b with
  | nil => rfl
  | cons t b ih => rw [fzL_cons, ih]; rfl
theorem frzL_all (b : List T) : frzL b = b.all frz := by
  induction b with
  | nil => rfl
  | cons t b ih => rw [frzL_cons, ih]; rfl
@[simp] theorem scV_int (i : Int) : scV (.int i) = some (.int i) := rfl
@[simp] theorem scV_bl (i : Bool) : scV (.bl i) = some (.bl i) := rfl
@[simp] theorem scV_non : scV .non = some .non := rfl
@[simp] theorem scV_str (i : Str) : scV (.str i) = some (.str i) := rfl
theorem bind_ap {α β : Type} (x : R α) (k : α → SL → R β) : x.bind k = (match x with
    | .ok a s => k a s
    | .ex x s => .ex x s
    | .no => .no) := by cases x <;> rfl
/-- slots that hold something, read -/
@[simp] theorem gv (t : T) (st : SL) : AV.get st (.v t) = some t := rfl
@[simp] theorem gs (i : Nat) (st : SL) : AV.get st (.s i) = (st[i]?).join := rfl
@[simp] theorem getL_nil (st : SL) : getL st [] = some [] := rfl
@[simp] theorem getL_cons (u : AV) (us : List AV) (st : SL) : getL st (u :: us) = (match u.get st, getL st us with
  | some t, some ts => some (t :: ts)
  | _, _ => none) := rfl
@[simp] theorem takeL_nil (st : SL) : takeL [] st = some ([], st) := rfl
@[simp] theorem takeL_v (t : T) (us : List AV) (st : SL) : takeL (.v t :: us) st = (match takeL us st with
    | some (ts, st1) => some (t :: ts, st1)
    | none => none) := rfl
@[simp] theorem takeL_s (i : Nat) (us : List AV) (st : SL) : takeL (.s i :: us) st = (match (st[i]?).join with
    | some t => match takeL us (st.set i none) with
      | some (ts, st1) => some (t :: ts, st1)
      | none => none
    | none => none) := rfl
@[simp] theorem putL_nil (as : List T) (st : SL) : putL [] as st = st := by cases as <;> rfl
@[simp] theorem putL_v (t a : T) (us : List AV) (as : List T) (st : SL) : putL (.v t :: us) (a :: as) st = putL us as st := rfl
@[simp] theorem putL_s (i : Nat) (a : T) (us : List AV) (as : List T) (st : SL) : putL (.s i :: us) (a :: as) st = putL us as (st.set i (some a)) := rfl
@[simp] theorem vsOf_nil : vsOf [] = some [] := rfl
@[simp] theorem outs_nil (P : Nat → Bool) (i : Nat) (st : SL) : outs P i [] st = some [] := rfl
@[simp] theorem outs_cons (P : Nat → Bool) (i : Nat) (t : T) (ts : List T) (x : Option T) (st : SL) : outs P i (t :: ts) (x :: st) = (match (if P i then x else if frz t then some t else none), outs P (i + 1) ts st with
    | some u, some us => some (u :: us)
    | _, _ => none) := rfl
@[simp] theorem retF_nx (P : Nat → Bool) (ts : List T) (st : SL) : retF P ts (.ok .nx st) = (match outs P 0 ts st with
    | some as => .ok .non as
    | none => .no) := rfl
@[simp] theorem retF_rt (P : Nat → Bool) (ts : List T) (t : T) (st : SL) : retF P ts (.ok (.rt t) st) = (match outs P 0 ts st with
    | some as => .ok t as
    | none => .no) := rfl

/-! ### combinators applied -/
@[simp] theorem ap_bind {α β : Type} (x : R α) (k : α → SL → R β) : x.bind k = (match x with
    | .ok a s => k a s
    | .ex x s => .ex x s
    | .no => .no) := by cases x <;> rfl
@[simp] theorem ap_uVar (i : Nat) (st : SL) : uVar i st = (match (st[i]?).join with
  | some t => if frz t then .ok (.v t) st else .ok (.s i) st
  | none => .no) := rfl
@[simp] theorem ap_eC (t : T) (st : SL) : eC t st = .ok t st := rfl
@[simp] theorem ap_uV (f : SE) (st : SL) : uV f st = (f st).bind fun t st => .ok (.v t) st := rfl
@[simp] theorem ap_aNil (st : SL) : aNil st = .ok [] st := rfl
@[simp] theorem ap_aCons (f : SU) (g : SA) (st : SL) : aCons f g st = (f st).bind fun u st => (g st).bind fun us st => .ok (u :: us) st := rfl
@[simp] theorem ap_aApp (f g : SA) (st : SL) : aApp f g st = (f st).bind fun us st => (g st).bind fun zs st => .ok (us ++ zs) st := rfl
@[simp] theorem ap_eP (p : List T → Option T) (f : SA) (st : SL) : eP p f st = (f st).bind fun us st => (match getL st us with
  | some ts => (match p ts with
    | some t => .ok t st
    | none => .no)
  | none => .no) := Eq.trans (b := eP p f st) rfl rfl
@[simp] theorem ap_eOf (f : SU) (st : SL) : eOf f st = (f st).bind fun u st => (match u with
  | .v t => .ok t st
  | .s _ => .no) := rfl
@[simp] theorem ap_eKeep (i : Nat) (st : SL) : eKeep i st = (match (st[i]?).join with
  | some t => if frz t then .ok t st else .ok (fz t) (st.set i (some (fz t)))
  | none => .no) := rfl
@[simp] theorem ap_eMove (i : Nat) (st : SL) : eMove i st = (match (st[i]?).join with
  | some t => .ok t (st.set i none)
  | none => .no) := rfl
@[simp] theorem ap_eLst (f : SA) (st : SL) : eLst f st = (f st).bind fun us st => (match vsOf us with
  | some ts => if decide (ts.length ≤ sizeLine) then .ok (.lst true ts) st else .no
  | none => .no) := rfl
@[simp] theorem ap_eTup (f : SA) (st : SL) : eTup f st = (f st).bind fun us st => (match vsOf us with
  | some ts => if decide (ts.length ≤ sizeLine) then .ok (.tup ts) st else .no
  | none => .no) := rfl
@[simp] theorem ap_vsOf_v (t : T) (us : List AV) : vsOf (.v t :: us) = (match vsOf us with
  | some ts => some (t :: ts)
  | none => none) := rfl
@[simp] theorem ap_eCold (f : SE) (st : SL) : eCold f st = (f st).bind fun t st => .ok (fz t) st := rfl
@[simp] theorem ap_bOf (f : SE) (st : SL) : bOf f st = (f st).bind fun t st => (match t with
  | .bl b => .ok b st
  | _ => .no) := rfl
@[simp] theorem ap_tTru (f : SU) (st : SL) : tTru f st = (f st).bind fun u st => (match u.get st with
  | some t => (match truT t with
    | some b => .ok b st
    | none => .no)
  | none => .no) := rfl
@[simp] theorem truT_bl (b : Bool) : truT (.bl b) = some b := rfl
@[simp] theorem ap_tNotB (f : ST) (st : SL) : tNotB f st = (f st).bind fun b st => .ok (!b) st := rfl
@[simp] theorem ap_tAndB (f g : ST) (st : SL) : tAndB f g st = (f st).bind fun b st => if b then g st else .ok false st := rfl
@[simp] theorem ap_tOrB (f g : ST) (st : SL) : tOrB f g st = (f st).bind fun b st => if b then .ok true st else g st := rfl
@[simp] theorem ap_uIf (c : ST) (f g : SU) (st : SL) : uIf c f g st = (c st).bind fun b st => if b then f st else g st := rfl
@[simp] theorem ap_eAnd (f g : SE) (st : SL) : eAnd f g st = (f st).bind fun t st => (match t with
  | .bl true => g st
  | .bl false => .ok (.bl false) st
  | _ => .no) := rfl
@[simp] theorem ap_eOr (f g : SE) (st : SL) : eOr f g st = (f st).bind fun t st => (match t with
  | .bl true => .ok (.bl true) st
  | .bl false => g st
  | _ => .no) := rfl
@[simp] theorem ap_eNot (f : SE) (st : SL) : eNot f st = (f st).bind fun t st => (match t with
  | .bl b => .ok (.bl (!b)) st
  | _ => .no) := rfl
@[simp] theorem ap_uI (f : SU) (k : Int → SU) (st : SL) : uI f k st = (f st).bind fun u st => (match u.get st with
  | some (.int i) => k i st
  | _ => .no) := rfl
@[simp] theorem ap_uInt (f : SU) (st : SL) : uInt f st = uI f (fun i => uV (eC (.int i))) st := rfl
@[simp] theorem ap_uCh (c1 c2 : Int → Int → Bool) (f g k : SU) (st : SL) : uCh c1 c2 f g k st = uI f (fun x => uI g fun y => if c1 x y then uI k fun z => uV (eC (.bl (c2 y z))) else uV (eC (.bl false))) st := rfl
@[simp] theorem ap_sSeq (f g : SS) (st : SL) : sSeq f g st = (match f st with
  | .ok .nx st1 => g st1
  | r => r) := rfl
@[simp] theorem ap_sNext (st : SL) : sNext st = .ok .nx st := rfl
@[simp] theorem ap_sExpr (f : SU) (st : SL) : sExpr f st = (f st).bind fun _ st => .ok .nx st := rfl
@[simp] theorem ap_sRet (f : SE) (st : SL) : sRet f st = (f st).bind fun t st => .ok (.rt t) st := rfl
@[simp] theorem ap_sIf (c : ST) (f g : SS) (st : SL) : sIf c f g st = (c st).bind fun b st => if b then f st else g st := rfl
@[simp] theorem ap_sAsg (f : SE) (g : TS') (st : SL) : sAsg f g st = (f st).bind fun t st => (match g t st with
  | some st1 => .ok .nx st1
  | none => .no) := rfl
@[simp] theorem ap_sPar (i j : Nat) (f : SA) (st : SL) : sPar i j f st = (f st).bind fun us st => (match vsOf us with
  | some [t, u] => .ok .nx ((st.set i (some t)).set j (some u))
  | _ => .no) := rfl
@[simp] theorem ap_sAugI (i : Nat) (g : Int → Int → Int) (f : SE) (st : SL) : sAugI i g f st = (match (st[i]?).join with
  | some (.int a) => (f st).bind fun t st => (match t with
    | .int b => .ok .nx (st.set i (some (.int (g a b))))
    | _ => .no)
  | _ => .no) := rfl
@[simp] theorem ap_tgN (i : Nat) (t : T) (st : SL) : tgN i t st = some (st.set i (some t)) := rfl
@[simp] theorem ap_tgT (g : TSs) (ts : List T) (st : SL) : tgT g (.tup ts) st = (if frzL ts then g ts st else g ts st) := by
  first | rfl | (unfold tgT; simp)
@[simp] theorem ap_tgNil (st : SL) : tgNil [] st = some st := rfl
@[simp] theorem ap_sSetIx (f : SE) (o g : SU) (st : SL) : sSetIx f o g st = sExpr (uV (eCall mSet [] (aCons (uV f) (aCons o (aCons g aNil))))) st := rfl
@[simp] theorem ap_eCall (m : FS) (ds : List T) (f : SA) (st : SL) : eCall m ds f st = (f st).bind fun us st => doF m (fun us => us ++ ds.map .v) us st := rfl
@[simp] theorem ap_eCallK (m : FS) (ixs : List Nat) (ds : List T) (f : SA) (st : SL) : eCallK m ixs ds f st = (f st).bind fun us st => doF m (fun us => pick ixs (us ++ ds.map .v)) us st := rfl
@[simp] theorem ap_doF (m : FS) (pm : List AV → List AV) (us : List AV) (st : SL) : doF m pm us st = (match takeL (pm us) st with
  | none => .no
  | some (ts, st1) => (match m ts with
    | .ok r as => .ok r (putL (pm us) as st1)
    | .ex x as => .ex x (putL (pm us) as st1)
    | .no => .no)) := Eq.trans (b := doF m pm us st) rfl rfl
@[simp] theorem ap_eCallP (m : FS) (ds : List T) (f : SA) (st : SL) : eCallP m ds f st = (f st).bind fun us st => (match getL st us with
  | some ts => (match m (fzL ts ++ ds) with
    | .ok r _ => if (scV r).isSome then .ok r st else .no
    | _ => .no)
  | none => .no) := rfl
@[simp] theorem ap_uChk (n : String) (f : SU) (st : SL) : uChk n f st = (f st).bind fun u st => (match u.get st with
  | some t => if tyOk n t then .ok u st else .no
  | none => .no) := rfl
@[simp] theorem ap_sFor (f : SI) (g : TS') (b : SS) (st : SL) : sFor f g b st = (f st).bind fun ts st => forL g b ts st := rfl
@[simp] theorem ap_iOf (p : T → Option (List T)) (f : SU) (st : SL) : iOf p f st = (f st).bind fun u st => (match u.cool st with
  | some (t, st1) => (match p t with
    | some ts => .ok ts st1
    | none => .no)
  | none => .no) := rfl
@[simp] theorem cool_v (t : T) (st : SL) : AV.cool st (.v t) = some (fz t, st) := rfl
@[simp] theorem cool_s (i : Nat) (st : SL) : AV.cool st (.s i) = (match (st[i]?).join with
    | some t => some (fz t, st.set i (some (fz t)))
    | none => none) := rfl
@[simp] theorem ap_eLc (f : SI) (g : TS') (tt : ST) (te : SE) (vs : List Nat) (st : SL) : eLc f g tt te vs st = (f st).bind fun ts st => (match lcL g tt te vs ts [] (wipeL st vs) with
  | .ok acc st1 => .ok (.lst true acc) (backL st vs (wipeL st1 vs))
  | _ => .no) := rfl
@[simp] theorem ap_tYesB (st : SL) : tYesB st = .ok true st := rfl
/-! ### operations -/
@[simp] theorem p_lt (a b : Int) : pLtI [.int a, .int b] = some (.bl (decide (a < b))) := rfl
@[simp] theorem p_le (a b : Int) : pLe [.int a, .int b] = some (.bl (decide (a ≤ b))) := rfl
@[simp] theorem p_gt (a b : Int) : pGt [.int a, .int b] = some (.bl (decide (b < a))) := rfl
@[simp] theorem p_ge (a b : Int) : pGe [.int a, .int b] = some (.bl (decide (b ≤ a))) := rfl
@[simp] theorem p_add (a b : Int) : pAdd [.int a, .int b] = some (.int (a + b)) := rfl
@[simp] theorem p_sub (a b : Int) : pSub [.int a, .int b] = some (.int (a - b)) := rfl
@[simp] theorem p_mul (a b : Int) : pMul [.int a, .int b] = if mulOk a b then some (.int (a * b)) else none := rfl
@[simp] theorem p_mod (a b : Int) : pMod [.int a, .int b] = if decide (0 < b) then some (.int (a % b)) else none := rfl
@[simp] theorem p_div (a b : Int) : pDiv [.int a, .int b] = if divOk a b then some (.int (a / b)) else none := rfl
@[simp] theorem p_pow (a b : Int) : pPow [.int a, .int b] = if powOk a b then some (.int (a ^ b.toNat)) else none := rfl
@[simp] theorem p_neg (a : Int) : pNeg [.int a] = some (.int (-a)) := rfl
@[simp] theorem p_abs (i : Int) : pAbs [.int i] = some (.int (if i < 0 then -i else i)) := rfl
@[simp] theorem p_intI (i : Int) : pInt [.int i] = some (.int i) := rfl
@[simp] theorem p_intB (b : Bool) : pInt [.bl b] = some (.int (if b then 1 else 0)) := rfl
@[simp] theorem p_max2 (i j : Int) : pMax2 [.int i, .int j] = some (.int (if j > i then j else i)) := rfl
@[simp] theorem p_min2 (i j : Int) : pMin2 [.int i, .int j] = some (.int (if j < i then j else i)) := rfl
@[simp] theorem p_ix (t : T) (i : Int) : pIx [t, .int i] = atT t i := rfl
@[simp] theorem p_len (t : T) : pLen [t] = (lenT t).map fun n => .int (n : Nat) := rfl
@[simp] theorem lenT_lst (o : Bool) (xs : List T) : lenT (.lst o xs) = some xs.length := rfl
@[simp] theorem lenT_tup (xs : List T) : lenT (.tup xs) = some xs.length := rfl
@[simp] theorem lenT_scr (xs : List Int) : lenT (.scr xs) = some xs.length := rfl
@[simp] theorem p_isN (t : T) : pIsN [t, .non] = some (.bl (isNon t)) := rfl
@[simp] theorem p_notN (t : T) : pNotN [t, .non] = some (.bl (!isNon t)) := rfl
@[simp] theorem p_sl01 (t : T) (i : Int) : pSl01 [t, .int i] = slT t none (some i) := rfl
@[simp] theorem p_sl10 (t : T) (i : Int) : pSl10 [t, .int i] = slT t (some i) none := rfl
@[simp] theorem p_sl11 (t : T) (i j : Int) : pSl11 [t, .int i, .int j] = slT t (some i) (some j) := rfl
@[simp] theorem p_set (t : T) (xs : List T) (i : Int) : mSet [t, .lst true xs, .int i] = (if frz t then (match ixN xs.length i with
    | some j => .ok .non [t, .lst true (xs.set j t), .int i]
    | none => .no) else .no) := rfl
@[simp] theorem p_app (t : T) (xs : List T) : mApp [.lst true xs, t] = (if frz t && decide (xs.length < sizeLine) then .ok .non [.lst true (xs ++ [t]), t] else .no) := rfl
@[simp] theorem tyOk_lst (o : Bool) (xs : List T) : tyOk "list" (.lst o xs) = true := rfl
theorem ixN_nat (n i : Nat) (h : i < n) : ixN n (i : Int) = some i := by
  unfold ixN
  rw [if_pos (by omega), if_pos (by omega)]
  simp
theorem atT_lst {o : Bool} {xs : List T} {i : Int} {t : T} (h : atI xs i = some t) (f : frz t = true) : atT (.lst o xs) i = some t := by
  unfold atT
  simp only [h, f, if_true]
theorem atT_tup {xs : List T} {i : Int} {t : T} (h : atI xs i = some t) (f : frz t = true) : atT (.tup xs) i = some t := by
  unfold atT
  simp only [h, f, if_true]
@[simp] theorem atT_0 (o : Bool) (t : T) (xs : List T) : atT (.lst o (t :: xs)) 0 = if frz t then some t else none := by
  show (match atI (t :: xs) 0 with
    | some u => if frz u then some u else none
    | none => none) = _
  rw [show atI (t :: xs) 0 = some t from atI_nat (j := 0) rfl]
@[simp] theorem atT_1 (o : Bool) (s t : T) (xs : List T) : atT (.lst o (s :: t :: xs)) 1 = if frz t then some t else none := by
  show (match atI (s :: t :: xs) 1 with
    | some u => if frz u then some u else none
    | none => none) = _
  rw [show atI (s :: t :: xs) 1 = some t from atI_nat (j := 1) rfl]
@[simp] theorem atT_2 (o : Bool) (r s t : T) (xs : List T) : atT (.lst o (r :: s :: t :: xs)) 2 = if frz t then some t else none := by
  show (match atI (r :: s :: t :: xs) 2 with
    | some u => if frz u then some u else none
    | none => none) = _
  rw [show atI (r :: s :: t :: xs) 2 = some t from atI_nat (j := 2) rfl]
@[simp] theorem atT_3 (o : Bool) (q r s t : T) (xs : List T) : atT (.lst o (q :: r :: s :: t :: xs)) 3 = if frz t then some t else none := by
  show (match atI (q :: r :: s :: t :: xs) 3 with
    | some u => if frz u then some u else none
    | none => none) = _
  rw [show atI (q :: r :: s :: t :: xs) 3 = some t from atI_nat (j := 3) rfl]
@[simp] theorem atT_0t (t : T) (xs : List T) : atT (.tup (t :: xs)) 0 = if frz t then some t else none := by
  show (match atI (t :: xs) 0 with
    | some u => if frz u then some u else none
    | none => none) = _
  rw [show atI (t :: xs) 0 = some t from atI_nat (j := 0) rfl]
@[simp] theorem atT_1t (s t : T) (xs : List T) : atT (.tup (s :: t :: xs)) 1 = if frz t then some t else none := by
  show (match atI (s :: t :: xs) 1 with
    | some u => if frz u then some u else none
    | none => none) = _
  rw [show atI (s :: t :: xs) 1 = some t from atI_nat (j := 1) rfl]
end
end Ev

/-! EvEval: loops and comprehensions at work. -/
namespace Ev
noncomputable section
open PySem PySem.Spec PyProof.Rows L2

@[simp] theorem wipeL_nil (st : SL) : wipeL st [] = st := rfl
@[simp] theorem wipeL_cons (st : SL) (v : Nat) (vs : List Nat) : wipeL st (v :: vs) = wipeL (st.set v none) vs := rfl
theorem forL_inv {g : TS'} {b : SS} (I : Nat → SL → Prop) : ∀ {ts : List T} {k : Nat} {st : SL}, I k st →
    (∀ i t st, ts[i]? = some t → I (k + i) st → ∃ st1 st2, g t st = some st1 ∧ b st1 = .ok .nx st2 ∧ I (k + i + 1) st2) → ∃ st', forL g b ts st = .ok .nx st' ∧ I (k + ts.length) st'
  | [], k, st, h0, _ => ⟨st, rfl, h0⟩
  | t :: ts, k, st, h0, h => by
    obtain ⟨st1, st2, e1, e2, h1⟩ := h 0 t st rfl h0
    obtain ⟨st', e3, h2⟩ := forL_inv I (ts := ts) (k := k + 1) (st := st2) h1 fun i t st hi h3 => by
      have e : k + 1 + i = k + (i + 1) := by omega
      rw [e] at h3 ⊢
      exact h (i + 1) t st (by simpa using hi) h3
    refine ⟨st', ?_, by rw [List.length_cons, show k + (ts.length + 1) = k + 1 + ts.length by omega]; exact h2⟩
    show (match g t st with
      | none => R.no
      | some st1 => match b st1 with
        | .ok .nx st2 => forL g b ts st2
        | .ok .ct st2 => forL g b ts st2
        | .ok .bk st2 => R.ok .nx st2
        | r => r) = _
    rw [e1]
    show (match b st1 with
        | .ok .nx st2 => forL g b ts st2
        | .ok .ct st2 => forL g b ts st2
        | .ok .bk st2 => R.ok .nx st2
        | r => r) = _
    rw [e2]
    exact e3
theorem forL_fold {α β : Type} {g : TS'} {b : SS} (dec : α → T) (enc : β → SL) (f : β → α → β) (P : β → Prop) : ∀ {l : List α} {s : β}, P s →
    (∀ s a, a ∈ l → P s → P (f s a) ∧ ∃ st1, g (dec a) (enc s) = some st1 ∧ b st1 = .ok .nx (enc (f s a))) → forL g b (l.map dec) (enc s) = .ok .nx (enc (l.foldl f s)) ∧ P (l.foldl f s)
  | [], s, h0, _ => ⟨rfl, h0⟩
  | a :: l, s, h0, h => by
    obtain ⟨h1, st1, e1, e2⟩ := h s a (List.mem_cons_self ..) h0
    obtain ⟨e3, h3⟩ := forL_fold dec enc f P (l := l) (s := f s a) h1 fun s x hx => h s x (List.mem_cons_of_mem _ hx)
    refine ⟨?_, h3⟩
    show (match g (dec a) (enc s) with
      | none => R.no
      | some st1 => match b st1 with
        | .ok .nx st2 => forL g b (l.map dec) st2
        | .ok .ct st2 => forL g b (l.map dec) st2
        | .ok .bk st2 => R.ok .nx st2
        | r => r) = _
    rw [e1]
    show (match b st1 with
        | .ok .nx st2 => forL g b (l.map dec) st2
        | .ok .ct st2 => forL g b (l.map dec) st2
        | .ok .bk st2 => R.ok .nx st2
        | r => r) = _
    rw [e2]
    exact e3
theorem lcL_eq {α : Type} {g : TS'} {tt : ST} {te : SE} {vs : List Nat} (dec : α → T) (p : α → Bool) (f : α → T) {st : SL} : ∀ {l : List α} {acc : List T}, acc.length + l.length ≤ sizeLine →
    (∀ a, a ∈ l → ∃ st1 st2, g (dec a) st = some st1 ∧ tt st1 = .ok (p a) st2 ∧ wipeL st2 vs = st ∧ (p a = true → ∃ st3, te st2 = .ok (f a) st3 ∧ wipeL st3 vs = st)) → lcL g tt te vs (l.map dec) acc st = .ok (acc ++ (l.filter p).map f) st
  | [], acc, _, _ => by
    show R.ok acc st = _
    simp
  | a :: l, acc, hl, h => by
    obtain ⟨st1, st2, e1, e2, e3, e4⟩ := h a (List.mem_cons_self ..)
    have ih : ∀ {acc : List T}, acc.length + l.length ≤ sizeLine → lcL g tt te vs (l.map dec) acc st = .ok (acc ++ (l.filter p).map f) st := fun hl => lcL_eq dec p f hl fun x hx => h x (List.mem_cons_of_mem _ hx)
    rw [List.length_cons] at hl
    show (match g (dec a) st with
      | none => R.no
      | some st1 => match tt st1 with
        | .ok true st2 => match te st2 with
          | .ok y st3 => if decide (acc.length < sizeLine) then lcL g tt te vs (l.map dec) (acc ++ [y]) (wipeL st3 vs) else R.no
          | _ => R.no
        | .ok false st2 => lcL g tt te vs (l.map dec) acc (wipeL st2 vs)
        | _ => R.no) = _
    rw [e1]
    show (match tt st1 with
        | .ok true st2 => match te st2 with
          | .ok y st3 => if decide (acc.length < sizeLine) then lcL g tt te vs (l.map dec) (acc ++ [y]) (wipeL st3 vs) else R.no
          | _ => R.no
        | .ok false st2 => lcL g tt te vs (l.map dec) acc (wipeL st2 vs)
        | _ => R.no) = _
    rw [e2]
    cases hp : p a with
    | false =>
      show lcL g tt te vs (l.map dec) acc (wipeL st2 vs) = _
      rw [e3, ih (by omega), List.filter_cons_of_neg (by rw [hp]; decide)]
    | true =>
      obtain ⟨st3, e5, e6⟩ := e4 hp
      show (match te st2 with
          | .ok y st3 => if decide (acc.length < sizeLine) then lcL g tt te vs (l.map dec) (acc ++ [y]) (wipeL st3 vs) else R.no
          | _ => R.no) = _
      rw [e5]
      show (if decide (acc.length < sizeLine) = true then lcL g tt te vs (l.map dec) (acc ++ [f a]) (wipeL st3 vs) else R.no) = _
      rw [if_pos (decide_eq_true (by omega)), e6, ih (by rw [List.length_append, List.length_singleton]; omega), List.filter_cons_of_pos hp, List.map_cons, List.append_assoc]
      rfl
theorem lcL_all {α : Type} {g : TS'} {te : SE} {vs : List Nat} (dec : α → T) (f : α → T) {st : SL} {l : List α} (hl : l.length ≤ sizeLine)
    (h : ∀ a, a ∈ l → ∃ st1 st3, g (dec a) st = some st1 ∧ wipeL st1 vs = st ∧ te st1 = .ok (f a) st3 ∧ wipeL st3 vs = st) : lcL g tYesB te vs (l.map dec) [] st = .ok (l.map f) st := by
  have q := lcL_eq (tt := tYesB) dec (fun _ => true) f (st := st) (l := l) (acc := []) (by simpa using hl) fun a ha => by
    obtain ⟨st1, st3, e1, e2, e3, e4⟩ := h a ha
    exact ⟨st1, st1, e1, rfl, e2, fun _ => ⟨st3, e3, e4⟩⟩
  rw [q, List.filter_eq_self.mpr fun _ _ => rfl]
  rfl
/-- .. where nothing is changed -/
theorem lcL_all1 {α : Type} {g : TS'} {te : SE} {vs : List Nat} (dec : α → T) (f : α → T) {st : SL} {l : List α} (hl : l.length ≤ sizeLine)
    (h : ∀ a, a ∈ l → ∃ st1, g (dec a) st = some st1 ∧ wipeL st1 vs = st ∧ te st1 = .ok (f a) st1) : lcL g tYesB te vs (l.map dec) [] st = .ok (l.map f) st :=
  lcL_all dec f hl fun a ha => let ⟨st1, e1, e2, e3⟩ := h a ha; ⟨st1, st1, e1, e2, e3, e2⟩
theorem lcL_eq1 {α : Type} {g : TS'} {tt : ST} {te : SE} {vs : List Nat} (dec : α → T) (p : α → Bool) (f : α → T) {st : SL} {l : List α} (hl : l.length ≤ sizeLine)
    (h : ∀ a, a ∈ l → ∃ st1, g (dec a) st = some st1 ∧ wipeL st1 vs = st ∧ tt st1 = .ok (p a) st1 ∧ te st1 = .ok (f a) st1) : lcL g tt te vs (l.map dec) [] st = .ok ((l.filter p).map f) st := by
  have q := lcL_eq (tt := tt) dec p f (st := st) (l := l) (acc := []) (by simpa using hl) fun a ha => by
    obtain ⟨st1, e1, e2, e3, e4⟩ := h a ha
    exact ⟨st1, st1, e1, e3, e2, fun _ => ⟨st1, e4, e2⟩⟩
  rw [q]
  rfl
@[simp] theorem intsMap_frz (ns : List Int) : frzL (ns.map .int) = true := frzL_ints ns
@[simp] theorem fzL_ints (ns : List Int) : fzL (ns.map .int) = ns.map .int := fzL_frz (frzL_ints ns)
theorem frzL_of {α : Type} {f : α → T} (h : ∀ a, frz (f a) = true) (l : List α) : frzL (l.map f) = true := by
  induction l with
  | nil => rfl
  | cons a l ih => rw [List.map_cons, frzL_cons, h, ih]; rfl
@[simp] theorem frz_pairT (p : Int × Int) : frz (pairT p) = true := rfl
@[simp] theorem frzL_pairs (l : List (Int × Int)) : frzL (l.map pairT) = true := frzL_of (fun _ => rfl) l
@[simp] theorem fzL_pairs (l : List (Int × Int)) : fzL (l.map pairT) = l.map pairT := fzL_frz (frzL_pairs l)
@[simp] theorem fz_pairT (p : Int × Int) : fz (pairT p) = pairT p := rfl
@[simp] theorem itAny_lst (o : Bool) (xs : List T) : itAny (.lst o xs) = some (fzL xs) := rfl
@[simp] theorem itAny_tup (xs : List T) : itAny (.tup xs) = some (fzL xs) := rfl
@[simp] theorem enAny_lst (o : Bool) (xs : List T) : enAny (.lst o xs) = some (enT 0 (fzL xs)) := rfl
@[simp] theorem enAny_tup (xs : List T) : enAny (.tup xs) = some (enT 0 (fzL xs)) := rfl
@[simp] theorem itAny_scr (xs : List Int) : itAny (.scr xs) = some (xs.map .int) := rfl
@[simp] theorem enAny_scr (xs : List Int) : enAny (.scr xs) = some (enT 0 (xs.map .int)) := rfl
theorem enT_zip {α : Type} (f : α → T) : ∀ (l : List α) (n : Nat), enT n (l.map f) = (l.zipIdx n).map fun p => T.tup [.int (p.2 : Nat), f p.1]
  | [], _ => rfl
  | a :: l, n => by
    rw [List.map_cons, List.zipIdx_cons, List.map_cons, ← enT_zip f l (n + 1)]
    rfl
@[simp] theorem ap_iInts1 (f : SA) (st : SL) : iInts rg1 f st = (f st).bind fun us st => (match vsOf us with
  | some ts => (match rg1 ts with
    | some ns => .ok (ns.map .int) st
    | none => .no)
  | none => .no) := rfl
end
end Ev

/-! EvEq: == of lists of like items. -/
namespace Ev
noncomputable section
open PySem PySem.Spec PyProof.Rows L2
/-- an item's data -/
structure Dt {α : Type} (f : α → T) (d : α → PyData) (k : Nat) : Prop where
  pd : ∀ a, pd (f a) = some (d a)
  can : ∀ a, (d a).canLay0 = true
  dep : ∀ a, (d a).depth ≤ k
theorem pdL_map {α : Type} {f : α → T} {d : α → PyData} {k : Nat} (h : Dt f d k) : ∀ l : List α, pdL (l.map f) = some (l.map d)
  | [] => rfl
  | a :: l => by
    show (match pd (f a), pdL (l.map f) with
      | some d, some ds => some (d :: ds)
      | _, _ => none) = _
    rw [h.pd, pdL_map h l]
    rfl
theorem can_map {α : Type} {f : α → T} {d : α → PyData} {k : Nat} (h : Dt f d k) : ∀ l : List α, PyData.canLayAll0 (l.map d) = true
  | [] => rfl
  | a :: l => by
    rw [List.map_cons]
    show ((d a).canLay0 && PyData.canLayAll0 (l.map d)) = true
    rw [h.can, can_map h l]
    rfl
theorem dep_map {α : Type} {f : α → T} {d : α → PyData} {k : Nat} (h : Dt f d k) : ∀ l : List α, PyData.depthAll (l.map d) ≤ k
  | [] => Nat.zero_le _
  | a :: l => by
    rw [List.map_cons]
    show max (d a).depth (PyData.depthAll (l.map d)) ≤ k
    have h1 := h.dep a
    have h2 := dep_map h l
    omega
theorem shaped_map {α : Type} {f : α → T} {d : α → PyData} {k : Nat} (h : Dt f d k) (hk : k < 64) (l : List α) : SeqAt.shaped (.list (l.map d)) = true := by
  refine Bool.and_eq_true_iff.mpr ⟨can_map h l, decide_eq_true ?_⟩
  show PyData.depthAll (l.map d) + 1 ≤ 64
  have := dep_map h l
  omega
theorem eqT_nil {α : Type} {f : α → T} {d : α → PyData} {k : Nat} (h : Dt f d k) (hk : k < 64) (o o' : Bool) (l : List α) : eqT (.lst o (l.map f)) (.lst o' []) = some l.isEmpty := by
  unfold eqT
  rw [show pd (.lst o (l.map f)) = some (.list (l.map d)) from by
    show (match pdL (l.map f) with
      | some ds => some (PyData.list ds)
      | none => none) = _
    rw [pdL_map h l], show pd (.lst o' []) = some (.list []) from rfl]
  show (if (SeqAt.shaped (.list (l.map d)) && SeqAt.shaped (.list [])) = true then some (PyData.eqv (.list (l.map d)) (.list [])) else none) = _
  rw [shaped_map h hk l, show SeqAt.shaped (.list []) = true from rfl, Bool.and_true, if_pos rfl]
  cases l <;> rfl
theorem eqT_self {α : Type} {f : α → T} {d : α → PyData} {k : Nat} (h : Dt f d k) (hk : k < 64) (o o' : Bool) (l : List α) : eqT (.lst o (l.map f)) (.lst o' (l.map f)) = some true := by
  have e : ∀ o, pd (.lst o (l.map f)) = some (.list (l.map d)) := fun o => by
    show (match pdL (l.map f) with
      | some ds => some (PyData.list ds)
      | none => none) = _
    rw [pdL_map h l]
  unfold eqT
  rw [e, e]
  show (if (SeqAt.shaped (.list (l.map d)) && SeqAt.shaped (.list (l.map d))) = true then some (PyData.eqv (.list (l.map d)) (.list (l.map d))) else none) = _
  rw [shaped_map h hk l, Bool.and_true, if_pos rfl, SeqAt.eqv_refl _ (show PyData.canLay0 (.list (l.map d)) = true from can_map h l)]
theorem dt_int {α : Type} (g : α → Int) : Dt (fun a => T.int (g a)) (fun a => PyData.int (g a)) 0 := ⟨fun _ => rfl, fun _ => rfl, fun _ => Nat.le_refl _⟩
theorem dt_pair : Dt pairT (fun p => PyData.tuple [.int p.1, .int p.2]) 1 := ⟨fun _ => rfl, fun _ => rfl, fun _ => Nat.le_refl _⟩
@[simp] theorem p_ne (a b : T) : pNe [a, b] = (match eqT a b with
    | some k => some (.bl (!k))
    | none => none) := rfl
@[simp] theorem p_eq (a b : T) : pEq [a, b] = (match eqT a b with
    | some k => some (.bl k)
    | none => none) := rfl
theorem eqT_int (a b : Int) : eqT (.int a) (.int b) = some (a == b) := rfl
theorem eqT_bl (a b : Bool) : eqT (.bl a) (.bl b) = some (a == b) := rfl
theorem whN_go {c : ST} {b : SS} {n : Nat} {st st1 st2 : SL} (h1 : c st = .ok true st1) (h2 : b st1 = .ok .nx st2) : whN c b (n + 1) st = whN c b n st2 := by
  show (c st).bind _ = _
  rw [h1]
  show (match b st1 with
      | .ok .nx st1 => whN c b n st1
      | .ok .ct st1 => whN c b n st1
      | .ok .bk st1 => .ok .nx st1
      | r => r) = _
  rw [h2]
theorem whN_stop {c : ST} {b : SS} {n : Nat} {st st1 : SL} (h1 : c st = .ok false st1) : whN c b (n + 1) st = .ok .nx st1 := by
  show (c st).bind _ = _
  rw [h1]
  rfl
end
end Ev

/-! EvObj: instances of own classes: made, fields, methods. -/
namespace Ev
noncomputable section
open PySem PySem.Spec PyProof.Rows L2

instance cdDec : DecidableEq Cd := fun a b => decidable_of_iff (a.nm = b.nm ∧ a.fl = b.fl) ⟨fun h => by
  obtain ⟨an, al⟩ := a
  obtain ⟨bn, bl⟩ := b
  obtain ⟨h1, h2⟩ := h
  simp only at h1 h2
  rw [h1, h2], fun h => by rw [h]; exact ⟨rfl, rfl⟩⟩
/-- a class's facts -/
structure ClsOk (K : PySem.W.Frag) (c : Cd) : Prop where
  cl : Cls K (He.ga K c.nm)
  no : ∀ f ∈ c.fl, NoAttr K (He.ga K c.nm) f
theorem lookup_zip : ∀ {fl : List Str} {vs : List V} {j : Nat} {f : Str} {v : V}, fl.Nodup → fl[j]? = some f → vs[j]? = some v → (fl.zip vs).lookup f = some v
  | [], _, _, _, _, _, h, _ => by simp at h
  | g :: fl, [], _, _, _, _, _, h => by simp at h
  | g :: fl, u :: vs, 0, f, v, n, h1, h2 => by
    have e1 : g = f := by simpa using h1
    have e2 : u = v := by simpa using h2
    subst e1 e2
    show (match g == g with | true => some u | false => (fl.zip vs).lookup g) = some u
    rw [beq_self_eq_true]
  | g :: fl, u :: vs, j + 1, f, v, n, h1, h2 => by
    obtain ⟨n1, n2⟩ := List.nodup_cons.mp n
    have h1' : fl[j]? = some f := by simpa using h1
    have hne : (f == g) = false := by
      rw [beq_eq_false_iff_ne]
      intro e
      subst e
      exact n1 (List.mem_of_getElem? h1')
    show (match f == g with | true => some u | false => (fl.zip vs).lookup f) = some v
    rw [hne]
    exact lookup_zip n2 h1' (by simpa using h2)
theorem lookup_zip_none : ∀ {fl : List Str} {vs : List V} {f : Str}, f ∉ fl → (fl.zip vs).lookup f = none
  | [], _, _, _ => rfl
  | g :: fl, [], _, _ => rfl
  | g :: fl, u :: vs, f, h => by
    have hne : (f == g) = false := by
      rw [beq_eq_false_iff_ne]
      intro e
      subst e
      exact h (List.mem_cons_self ..)
    show (match f == g with | true => some u | false => (fl.zip vs).lookup f) = none
    rw [hne]
    exact lookup_zip_none fun z => h (List.mem_cons_of_mem _ z)
/-- what a store to the field j leaves -/
def setA {α : Type} (xs : List α) (j : Nat) (t : α) : List α := xs.take j ++ t :: xs.drop (j + 1)
theorem putF_zip : ∀ {fl : List Str} {vs : List V} {j : Nat} {f : Str} {v : V}, fl.Nodup → fl[j]? = some f → j ≤ vs.length → putF f v (fl.zip vs) = fl.zip (setA vs j v)
  | [], _, _, _, _, _, h, _ => by simp at h
  | g :: fl, [], 0, f, v, n, h1, h2 => by
    have e1 : g = f := by simpa using h1
    subst e1
    show [(g, v)] = (g :: fl).zip [v]
    simp
  | g :: fl, [], j + 1, f, v, n, h1, h2 => by simp at h2
  | g :: fl, u :: vs, 0, f, v, n, h1, h2 => by
    have e1 : g = f := by simpa using h1
    subst e1
    show (if g = g then (g, v) :: fl.zip vs else (g, u) :: putF g v (fl.zip vs)) = _
    rw [if_pos rfl]
    simp [setA]
  | g :: fl, u :: vs, j + 1, f, v, n, h1, h2 => by
    obtain ⟨n1, n2⟩ := List.nodup_cons.mp n
    have h1' : fl[j]? = some f := by simpa using h1
    have hne : ¬ g = f := by
      intro e
      subst e
      exact n1 (List.mem_of_getElem? h1')
    show (if g = f then (g, v) :: fl.zip vs else (g, u) :: putF f v (fl.zip vs)) = _
    rw [if_neg hne, putF_zip n2 h1' (by simpa using h2)]
    simp [setA]
section
variable {K : PySem.W.Frag} {G F S : AS} {H : Hp}
theorem obj_at {o : Bool} {c : Cd} {ts : List T} {v : V} {S : AS} (r : Rp K G H (.obj o c ts) v S) : ∃ a dx vs, v = .ref a ∧ H a = some (.ins (He.ga K c.nm) dx (c.fl.zip vs)) ∧ ts.length ≤ c.fl.length ∧ RpL K G H ts vs S := by
  cases o with
  | false =>
    obtain ⟨a, dx, vs, h1, h2, h3, _, h4⟩ := r
    exact ⟨a, dx, vs, h1, h2, h3, h4⟩
  | true =>
    obtain ⟨a, dx, vs, h1, h2, h3, _, h4⟩ := r
    exact ⟨a, dx, vs, h1, h2, h3, RpL.mono ts h4 fun _ z => z.1⟩
/-- e.f, the field j of the class c -/
def pFld (c : Cd) (j : Nat) : List T → Option T
  | [.obj _ c' xs] => if c' = c then (match xs[j]? with
    | some t => if frz t then some t else none
    | none => none) else none
  | _ => none
theorem pr_fld {c : Cd} {j : Nat} {f : Str} (C : ClsOk K c) (n : c.fl.Nodup) (hj : c.fl[j]? = some f) :
    Pr K (on1 fun x H Q => ∃ a C dx fs v, x = .ref a ∧ H a = some (.ins C dx fs) ∧ Cls K C ∧ NoAttr K C f ∧ fs.lookup f = some v ∧ Q v H) (pFld c j) := fun G F S H ts vs t Q w o e k => by
  unfold pFld at e
  split at e
  · rename_i ob c' xs
    split at e
    · rename_i hc
      subst hc
      split at e
      · rename_i u hu
        split at e
        · rename_i hf
          cases e
          obtain ⟨v, S1, rfl, _, r1⟩ := ops1 o
          obtain ⟨a, dx, ws, rfl, h1, _, h2⟩ := obj_at r1
          obtain ⟨y, S2, k1, k2, _⟩ := rpl_get h2 hu
          exact ⟨a, _, dx, _, y, rfl, h1, C.cl, C.no f (List.mem_of_getElem? hj), lookup_zip n hj k1, old w (Rp.cold _ NoA hf k2) k⟩
        · cases e
      · cases e
    · cases e
  · cases e
end
section
variable {X : Cx} {e o : Expr} {f : Str} {pos : Pos} {g : SU} {c : Cd} {j : Nat}
theorem sim_fld (C : ClsOk X.K c) (n : c.fl.Nodup) (hj : c.fl[j]? = some f) (h : SimU X e g) (hb : attributeBase e f X.env (eval e X.env) = eval e X.env := by rfl) : SimE X (.Attribute e f pos) (eP (pFld c j) (aCons g aNil)) :=
  sim_p1 (r := fun x H Q => ∃ a C dx fs v, x = .ref a ∧ H a = some (.ins C dx fs) ∧ Cls X.K C ∧ NoAttr X.K C f ∧ fs.lookup f = some v ∧ Q v H) (pr_fld C n hj) h fun _ p => pe_fld p hb
end

/-! ### stores to fields -/
/-- name.f = e: the name in slot i, f the field j of the class c -/
def sSetF (i : Nat) (c : Cd) (j : Nat) (f : SE) : SS := fun st => (f st).bind fun t st => match (st[i]?).join with
  | some (.obj true c' xs) => if c' = c ∧ j ≤ xs.length then .ok .nx (st.set i (some (.obj true c (setA xs j t)))) else .no
  | _ => .no
theorem rpl_setA {K : PySem.W.Frag} {G : AS} {H : Hp} {t : T} {v : V} {St : AS} (ht : Rp K G H t v St) : ∀ {xs : List T} {zs : List V} {S : AS} (j : Nat), RpL K G H xs zs S → j ≤ xs.length → (∀ a, S a → St a → False) → RpL K G H (setA xs j t) (setA zs j v) (fun a => S a ∨ St a)
  | [], zs, S, j, h, hj, _ => by
    rw [show zs = [] from h]
    rw [show j = 0 by simpa using hj]
    exact ⟨v, [], St, NoA, rfl, ht, rfl, fun _ z => .inr z, fun _ z => z.elim, fun _ _ z => z.elim⟩
  | x :: xs, _, S, 0, ⟨w, wr, A, B, h1, h2, h3, h4, h5, h6⟩, hj, d => by
    rw [h1]
    exact ⟨v, wr, St, B, rfl, ht, h3, fun _ z => .inr z, fun a z => .inl (h5 a z), fun a z1 z2 => d a (h5 a z2) z1⟩
  | x :: xs, _, S, j + 1, ⟨w, wr, A, B, h1, h2, h3, h4, h5, h6⟩, hj, d => by
    rw [h1]
    exact ⟨w, setA wr j v, A, fun a => B a ∨ St a, rfl, h2, rpl_setA ht j h3 (by simpa using hj) fun a z1 z2 => d a (h5 a z1) z2, fun a z => .inl (h4 a z), fun a z => z.imp (h5 a) id, fun a z1 z2 => z2.elim (h6 a z1) fun z => d a (h4 a z1) z⟩
theorem setA_length {α : Type} {xs : List α} {j : Nat} {t : α} (n : Nat) (h1 : xs.length ≤ n) (h2 : j < n) (h3 : j ≤ xs.length) : (setA xs j t).length ≤ n := by
  unfold setA
  rw [List.length_append, List.length_take, List.length_cons, List.length_drop]
  omega
/-- the store itself: what stands in slot i is an owned instance -/
theorem setf_core {X : Cx} {P : Nat → Bool} {Wx : WX} {i j : Nat} {c : Cd} {f : Str} {t : T} {xs : List T} {st : SL} {σ : L2.St} {H : Hp} {G F S1 S2 : AS} {y : V} {D : Ends} (C : ClsOk X.K c) (n : c.fl.Nodup) (hj : c.fl[j]? = some f) (few : c.fl.length < 1000)
    (w : Wd G F (fun a => S1 a ∨ S2 a) H) (d : ∀ a, S1 a → S2 a → False) (r : StR X.K G H st σ S1) (ry : Rp X.K G H t y S2) (e : (st[i]?).join = some (.obj true c xs)) (hl : j ≤ xs.length)
    (p : PostS X.K P Wx G F H σ D (.ok .nx (st.set i (some (.obj true c (setA xs j t)))))) :
    ∃ v, σ[i]? = some (some v) ∧ ∃ a C dx fs, v = .ref a ∧ H a = some (.ins C dx fs) ∧ Cls X.K C ∧ NoAttr X.K C f ∧ fs.length < 1000 ∧ D.nx σ (upd H a (.ins C dx (putF f y fs))) := by
  obtain ⟨v, A, B, h1, h2, h3, h4, h5, h6⟩ := r.get (join_some e)
  obtain ⟨a, dx, vs, rfl, k1, k2, k3, k4⟩ := h2
  have lv := rpl_len k4
  refine ⟨.ref a, h1, a, _, dx, _, rfl, k1, C.cl, C.no f (List.mem_of_getElem? hj), ?_, ?_⟩
  · rw [List.length_zip]; omega
  · rw [putF_zip n hj (by rw [← lv]; exact hl)]
    have sa : S1 a := h3 a k3
    have dA : ∀ b, A b ∧ b ≠ a → S2 b → False := fun b z1 z2 => d b (h3 b z1.1) z2
    have jlt : j < c.fl.length := (List.getElem?_eq_some_iff.mp hj).1
    have r2 : RpL X.K G (upd H a (.ins (He.ga X.K c.nm) dx (c.fl.zip (setA vs j y)))) (setA xs j t) (setA vs j y) (fun b => (A b ∧ b ≠ a) ∨ S2 b) := by
      refine rpl_setA (Rp.keep t ry (fun _ z => z) fun b z => upd_ne fun q => ?_) j (RpL.keep xs k4 (fun _ z => z) fun b z => upd_ne fun q => ?_) hl dA
      · subst q
        exact z.elim (fun z => w.gs _ z (.inl sa)) fun z => d _ sa z
      · subst q
        exact z.elim (fun z => w.gs _ z (.inl sa)) fun z => z.2 rfl
    have ro : Rp X.K G (upd H a (.ins (He.ga X.K c.nm) dx (c.fl.zip (setA vs j y)))) (.obj true c (setA xs j t)) (.ref a) (fun b => A b ∨ S2 b) :=
      ⟨a, dx, setA vs j y, rfl, upd_same, setA_length _ k2 jlt hl, .inl k3, RpL.mono _ r2 fun b z => z.elim (fun z => ⟨.inl z.1, z.2⟩) fun z2 => ⟨.inr z2, fun q => d a sa (q ▸ z2)⟩⟩
    have r6 := h6.keep (G' := G) (H' := upd H a (.ins (He.ga X.K c.nm) dx (c.fl.zip (setA vs j y)))) (fun _ z => z) fun b z => upd_ne fun q => by
      subst q
      exact z.elim (fun z => w.gs _ z (.inl sa)) fun z => h5 _ k3 z
    have q := StR.fit (i := i) r6 h1 ro fun b z1 z2 => z2.elim (fun z => h5 b z z1) fun z => d b (h4 b z1) z
    rw [set_some_none] at q
    refine p σ _ G _ ⟨fun _ z => z, fun b z => upd_ne fun q => ?_⟩ ?_ q Pk.refl
    · subst q
      exact z.elim (fun z => w.gs _ z (.inl sa)) fun z => w.fs _ z (.inl sa)
    · exact (own_wd w).less (fun _ z => z) fun b z => z.elim (fun z => .inl (h4 b z)) fun z => z.elim (fun z => .inl (h3 b z)) .inr
theorem sim_setF {X : Cx} {P : Nat → Bool} {e : Expr} {f : Str} {pos p' : Pos} {g : SE} {c : Cd} {i j : Nat} {x : Str} {px : Pos} (C : ClsOk X.K c) (n : c.fl.Nodup) (hj : c.fl[j]? = some f) (few : c.fl.length < 1000) (h : SimE X e g)
    (hN : X.N[i]? = some x := by rfl) (hv : Vis X.env.scope x := by first | exact Or.inl rfl | exact Or.inr (Or.inl rfl) | exact Or.inr (Or.inr rfl)) (hd : (x == ("__debug__" : Str)) = false := by decide)
    (hcd : (x == ("__classdict__" : Str)) = false := by decide) (hs : swapsWith e (some (.Attribute (.Name x px) f p')) pos.line X.env = pure false := by rfl) : SimS X P (.Assign [.Attribute (.Name x px) f p'] e pos) (sSetF i c j g) := fun Wx tk =>
  PS.imp (ps_fld (pe_var hN hv hd hcd) (h Wx tk) hs) fun D σ H ⟨G, F, S, st, w, r, p⟩ => by
    refine ⟨G, F, S, st, w, r, ?_⟩
    have p1 : PostS X.K P Wx G F H σ D ((g st).bind fun t st => match (st[i]?).join with
      | some (.obj true c' xs) => if c' = c ∧ j ≤ xs.length then .ok .nx (st.set i (some (.obj true c (setA xs j t)))) else .no
      | _ => .no) := p
    unfold uV
    cases e1 : g st with
    | ok t st1 =>
      rw [e1] at p1
      have p2 : PostS X.K P Wx G F H σ D (match (st1[i]?).join with
        | some (.obj true c' xs) => if c' = c ∧ j ≤ xs.length then .ok .nx (st1.set i (some (.obj true c (setA xs j t)))) else .no
        | _ => .no) := p1
      intro v H1 G1 S1 S2 x1 w1 d1 r1 a1
      split at p2
      · rename_i c' xs e2
        by_cases hc : c' = c ∧ j ≤ xs.length
        · rw [if_pos hc] at p2
          obtain ⟨hc, hl⟩ := hc
          subst hc
          exact setf_core C n hj few w1 d1 r1 a1 e2 hl (PostS.shift x1 Pk.refl p2)
        · rw [if_neg hc] at p2
          exact p2.elim
      · exact p2.elim
    | ex x st1 =>
      rw [e1] at p1
      exact fun cls d H1 G1 S1 x1 w1 r1 q => p1 cls d σ H1 G1 S1 x1 w1 r1 q Pk.refl
    | no => rw [e1] at p1; exact p1
end
end Ev

/-! EvMake: C(..), o.m(..) by places and by names; what is never reached. -/
namespace Ev
noncomputable section
open PySem PySem.Spec PyProof.Rows L2

/-! ### making -/
section
variable {X : Cx} {CX : CXT} {k n : Nat} {f C : Addr} {fd : FuncData} {ps ks : List Str} {sp : Sp} {E : L2.St → XK} {dvs : List V} {ds : List Value} {g : List Value → List Value → List Value} {gV : List V → List V → List V}
theorem run_makeS {pins : List (Addr × Obj)} {σ : L2.St} {H : Hp} {s : Shared} {Q : VK} {us : List Value} {vs : List V} (M : Mk X.K C f) (F : FnOk X.prog X.w X.K X.mg X.base CX k f fd ps sp) (hr : Room (k + 1) X.A) (hb : Binds X.K fd ps ds) (hd : Vals dvs ds)
    (hx : PassesAt CX X σ (E σ)) (I : Inv X pins σ H s) (r : Vals vs us)
    (h : ∀ x dx, H x = none → H dx = none → dx ≠ x → sp (.ref x :: (vs ++ dvs)) (upd (upd H dx (.own x)) x (.ins C dx [])) (fun v H2 => v = .non ∧ Q (.ref x) H2) (E σ)) :
    wpAny (model X.prog X.w) X.A (call (.ref C) us) (EP X pins σ Q) X.xe s := by
  have hq := h (s.heap.objs.size + 1) s.heap.objs.size (I.hok.fresh (Nat.le_succ _)) (I.hok.fresh (Nat.le_refl _)) (Nat.ne_of_lt (Nat.lt_succ_self _))
  have I2 := Inv.made (C := C) I
  have r2 : Vals (V.ref (s.heap.objs.size + 1) :: (vs ++ dvs)) (Value.ref (s.heap.objs.size + 1) :: (us ++ ds)) := .cons rfl (r.append hd)
  have hl : (Value.ref (s.heap.objs.size + 1) :: us ++ ds).length = ps.length := by
    have e := r2.length
    rw [F.len _ _ _ _ hq] at e
    exact e.symm
  refine wpAny_call (make_map (f := f) I.kIn M.makes M.init (beq_iff_eq.mp M.fn) (codeAny_mono (F.run _ X.stack _ _ ⟨Value.ref (s.heap.objs.size + 1) :: us, []⟩ (Value.ref (s.heap.objs.size + 1) :: (us ++ ds)) _ _ (E σ) (hr.make C us [])
    (I2.env0.make C us []) (hb _ (Value.ref (s.heap.objs.size + 1) :: us) I2.kIn hl) r2 hq) fun r s' hq' => ?_))
  cases r with
  | error e => exact hx pins _ _ e s' I2 hq'
  | ok fl =>
    cases fl with
    | ret u =>
      obtain ⟨v, H', I3, rv, ev, q3⟩ := I2.after hq'
      subst ev
      exact ⟨rv, ⟨V.ref (s.heap.objs.size + 1), H', I3, rfl, q3⟩⟩
    | next => exact False.elim hq'
    | brk => exact False.elim hq'
    | cont => exact False.elim hq'
theorem run_makeKS {pins : List (Addr × Obj)} {σ : L2.St} {H : Hp} {s : Shared} {Q : VK} {us ws : List Value} {vs zs : List V} (M : Mk X.K C f) (F : FnOk X.prog X.w X.K X.mg X.base CX k f fd ps sp) (hr : Room (k + 1) X.A) (hb : KBn X.K fd ps (n + 1) ks g gV) (hx : PassesAt CX X σ (E σ))
    (I : Inv X pins σ H s) (r : Vals vs us) (rz : Vals zs ws) (l1 : vs.length = n) (l2 : zs.length = ks.length)
    (h : ∀ x dx, H x = none → H dx = none → dx ≠ x → sp (gV (.ref x :: vs) zs) (upd (upd H dx (.own x)) x (.ins C dx [])) (fun v H2 => v = .non ∧ Q (.ref x) H2) (E σ)) :
    wpAny (model X.prog X.w) X.A (call (.ref C) us (ks.zip ws)) (EP X pins σ Q) X.xe s := by
  have hq := h (s.heap.objs.size + 1) s.heap.objs.size (I.hok.fresh (Nat.le_succ _)) (I.hok.fresh (Nat.le_refl _)) (Nat.ne_of_lt (Nat.lt_succ_self _))
  have I2 := Inv.made (C := C) I
  have r1 : Vals (V.ref (s.heap.objs.size + 1) :: vs) (Value.ref (s.heap.objs.size + 1) :: us) := .cons rfl r
  have r2 := hb.rel r1 rz
  have n1 : (Value.ref (s.heap.objs.size + 1) :: us).length = n + 1 := by
    rw [List.length_cons, ← r.length, l1]
  refine wpAny_call (make_map (f := f) I.kIn M.makes M.init (beq_iff_eq.mp M.fn) (codeAny_mono (F.run _ X.stack _ _ ⟨Value.ref (s.heap.objs.size + 1) :: us, ks.zip ws⟩ (g (Value.ref (s.heap.objs.size + 1) :: us) ws) _ _ (E σ) (hr.make C us (ks.zip ws))
    (I2.env0.make C us (ks.zip ws)) (hb.to _ (Value.ref (s.heap.objs.size + 1) :: us) ws I2.kIn n1 (rz.length.symm.trans l2)) r2 hq) fun r s' hq' => ?_))
  cases r with
  | error e => exact hx pins _ _ e s' I2 hq'
  | ok fl =>
    cases fl with
    | ret u =>
      obtain ⟨v, H', I3, rv, ev, q3⟩ := I2.after hq'
      subst ev
      exact ⟨rv, ⟨V.ref (s.heap.objs.size + 1), H', I3, rfl, q3⟩⟩
    | next => exact False.elim hq'
    | brk => exact False.elim hq'
    | cont => exact False.elim hq'
end
/-- a call of a class: pm puts the operands in the order of __init__'s parameters behind self -/
def doM (m : FS) (c : Cd) (pm : List AV → List AV) : List AV → SL → R T := fun us st => match takeL (pm us) st with
  | none => .no
  | some (ts, st1) => match m (.obj true c [] :: ts) with
    | .ok .non (o :: as) => .ok o (putL (pm us) as st1)
    | .ex x (_ :: as) => .ex x (putL (pm us) as st1)
    | _ => .no
def eMake (m : FS) (c : Cd) (ds : List T) (f : SA) : SE := fun st => (f st).bind fun us st => doM m c (fun us => us ++ ds.map .v) us st
def eMakeK (m : FS) (c : Cd) (ixs : List Nat) (ds : List T) (f : SA) : SE := fun st => (f st).bind fun us st => doM m c (fun us => pick ixs (us ++ ds.map .v)) us st
theorem domake_core {K : PySem.W.Frag} {Wx : WX} {G F S1 S2 : AS} {H : Hp} {σ : L2.St} {st : SL} {us : List AV} {vs : List V} {Q : VK} {m : FS} {c : Cd} {pm : List AV → List AV} {n : Nat} (w : Wd G F (fun a => S1 a ∨ S2 a) H) (d : ∀ a, S1 a → S2 a → False) (r : StR K G H st σ S1) (a : AvsR K G H σ (pm us) vs S2) (hl : vs.length = n)
    (p : PostU K Wx G F H σ Q ((doM m c pm us st).bind fun t st => .ok (.v t) st)) :
    ∀ x dx, H x = none → H dx = none → dx ≠ x → SpF K (n + 1) m (.ref x :: vs) (upd (upd H dx (.own x)) x (.ins (He.ga K c.nm) dx [])) (fun v H2 => v = .non ∧ Q (.ref x) H2) (fun cls d H' => Wx cls d σ H') := by
  intro x dx nx ndx nex
  have p1 : PostU K Wx G F H σ Q (R.bind (match takeL (pm us) st with
    | none => .no
    | some (ts, st1) => match m (.obj true c [] :: ts) with
      | .ok .non (o :: as) => .ok o (putL (pm us) as st1)
      | .ex x (_ :: as) => .ex x (putL (pm us) as st1)
      | _ => .no) fun t st => .ok (.v t) st) := p
  have up : ∀ b, H b ≠ none → upd (upd H dx (.own x)) x (.ins (He.ga K c.nm) dx []) b = H b := fun b hb => by
    rw [upd_ne fun e => hb (by rw [e]; exact nx), upd_ne fun e => hb (by rw [e]; exact ndx)]
  have ud : ∀ b, H b ≠ none → upd (upd H dx (.own x)) x (.ins (He.ga K c.nm) dx []) b ≠ none := fun b hb => by rw [up b hb]; exact hb
  cases e : takeL (pm us) st with
  | none => rw [e] at p1; exact p1.elim
  | some z =>
    obtain ⟨ts, st1⟩ := z
    rw [e] at p1
    obtain ⟨A, B, k1, k2, k3, k4, k5⟩ := take_rp r a d e
    have ss := avsS a
    have hk : ∀ b, G b ∨ (S1 b ∨ S2 b) → H b ≠ none := fun b z => z.elim (w.dG b) (w.dS b)
    have x0 : Ext G F H G (upd (upd H dx (.own x)) x (.ins (He.ga K c.nm) dx [])) := ⟨fun _ z => z, fun b z => up b (z.elim (w.dG b) (w.dF b))⟩
    refine ⟨by rw [List.length_cons, hl], G, fun b => F b ∨ A b, fun b => B b ∨ b = x, .obj true c [] :: ts, ?_, ?_, ?_⟩
    · refine ⟨fun b g f => f.elim (w.gf b g) fun z => w.gs b g (.inl (k3 b z)), fun b g s => s.elim (fun s => w.gs b g (k4 b s)) fun s => w.dG b g (by rw [s]; exact nx), fun b f s => ?_, fun b g => ud b (w.dG b g), fun b f => ud b (f.elim (w.dF b) fun z => w.dS b (.inl (k3 b z))), fun b s => ?_⟩
      · rcases s with s | s
        · exact f.elim (fun f => w.fs b f (k4 b s)) fun z => k5 b z s
        · exact f.elim (fun f => w.dF b f (by rw [s]; exact nx)) fun z => w.dS b (.inl (k3 b z)) (by rw [s]; exact nx)
      · rcases s with s | s
        · exact ud b (w.dS b (k4 b s))
        · rw [s, upd_same]; exact Option.some_ne_none _
    · refine ⟨.ref x, vs, fun b => b = x, B, rfl, ⟨x, dx, [], rfl, ?_, Nat.zero_le _, rfl, rfl⟩, RpL.keep ts k2 (fun _ z => z) fun b z => up b (z.elim (w.dG b) fun z => w.dS b (k4 b z)), fun _ z => .inr z, fun _ z => .inl z, fun b z1 z2 => w.dS b (k4 b z2) (by rw [z1]; exact nx)⟩
      have e0 : c.fl.zip ([] : List V) = [] := by cases c.fl <;> rfl
      rw [e0]
      exact upd_same
    · have p2 : PostU K Wx G F H σ Q (R.bind (match m (.obj true c [] :: ts) with
        | .ok .non (o :: as) => .ok o (putL (pm us) as st1)
        | .ex x (_ :: as) => .ex x (putL (pm us) as st1)
        | _ => .no) fun t st => .ok (.v t) st) := p1
      have dFA : ∀ b, F b → A b → False := fun b f z => w.fs b f (.inl (k3 b z))
      have k0 := k1.keep (G' := G) (H' := upd (upd H dx (.own x)) x (.ins (He.ga K c.nm) dx [])) (fun _ z => z) fun b z => up b (z.elim (w.dG b) fun z => w.dS b (.inl (k3 b z)))
      cases em : m (.obj true c [] :: ts) with
      | no => rw [em] at p2; exact p2.elim
      | ok r as =>
        rw [em] at p2
        cases r with
        | non =>
          cases as with
          | nil => exact p2.elim
          | cons o as =>
            intro v H' G' T1 T2 x1 w1 d1 ra rv
            obtain ⟨v', vr, A1, A2, q1, q2, q3, q4, q5, q6⟩ := ra
            cases q1
            refine ⟨rv, p2 (.ref x) H' G' (fun b => A b ∨ A2 b) A1 (x0.trans (x1.less fun _ z => .inl z)) ?_ (fun b z1 z2 => z1.elim (fun z => w1.fs b (.inr z) (.inl (q4 b z2))) fun z => q6 b z2 z) ?_ q2⟩
            · refine (w1.back dFA).less (fun _ z => z) fun b z => ?_
              rcases z with (z | z) | z
              · exact .inr z
              · exact .inl (.inl (q5 b z))
              · exact .inl (.inl (q4 b z))
            · exact put_rp (k0.keep x1.sub fun b z => x1.keep b (z.imp id .inr)) ss q3 fun b z1 z2 => w1.fs b (.inr z1) (.inl (q5 b z2))
        | _ => exact p2.elim
      | ex xv as =>
        rw [em] at p2
        cases as with
        | nil => exact p2.elim
        | cons o as =>
          intro cls d H' G' T1 x1 w1 ra xc
          obtain ⟨v', vr, A1, A2, q1, q2, q3, q4, q5, q6⟩ := ra
          cases q1
          refine p2 cls d H' G' (fun b => A b ∨ A2 b) (x0.trans (x1.less fun _ z => .inl z)) ?_ ?_ xc
          · refine (w1.back dFA).less (fun _ z => z) fun b z => z.elim .inr fun z => .inl (q5 b z)
          · exact put_rp (k0.keep x1.sub fun b z => x1.keep b (z.imp id .inr)) ss q3 fun b z1 z2 => w1.fs b (.inr z1) (q5 b z2)
theorem make_core {K : PySem.W.Frag} {Wx : WX} {σ : L2.St} {H : Hp} {Q : VK} {m : FS} {c : Cd} {ds : List T} {dv : List V} {f : SA} {n j : Nat} (hd : Paired (fun t v => scV t = some v) ds dv) (hj : LenA f j) (hn : j + dv.length = n) (h : RdU K Wx (uV (eMake m c ds f)) σ H Q) :
    RdA K Wx f σ H fun vs H1 => ∀ x dx, H1 x = none → H1 dx = none → dx ≠ x → SpF K (n + 1) m (.ref x :: (vs ++ dv)) (upd (upd H1 dx (.own x)) x (.ins (He.ga K c.nm) dx [])) (fun v H2 => v = .non ∧ Q (.ref x) H2) (fun cls d H' => Wx cls d σ H') := by
  obtain ⟨G, F, S, st, w, r, p⟩ := h
  refine ⟨G, F, S, st, w, r, ?_⟩
  have p0 : PostU K Wx G F H σ Q (R.bind ((f st).bind fun us st => doM m c (fun us => us ++ ds.map .v) us st) fun t st => .ok (.v t) st) := p
  cases e : f st with
  | ok us st1 =>
    rw [e] at p0
    intro vs H1 G1 S1 S2 x1 w1 d1 r1 a1
    have hl : vs.length = us.length := (avs_len a1).symm
    have p1 : PostU K Wx G F H σ Q ((doM m c (fun us => us ++ ds.map .v) us st1).bind fun t st => .ok (.v t) st) := p0
    refine domake_core w1 d1 r1 (pm := fun us => us ++ ds.map .v) (us := us) (avs_app a1 hd) (by rw [List.length_append, hl, hj _ _ _ e, hn]) ?_
    cases q : (doM m c (fun us => us ++ ds.map .v) us st1) with
    | no => rw [q] at p1; exact p1
    | ok t st2 => rw [q] at p1; exact fun v H2 G2 A B x2 => p1 v H2 G2 A B (x1.trans x2)
    | ex x st2 => rw [q] at p1; exact fun cls d H2 G2 A x2 => p1 cls d H2 G2 A (x1.trans x2)
  | ex x st1 => rw [e] at p0; exact p0
  | no => rw [e] at p0; exact p0
theorem makeK_core {K : PySem.W.Frag} {Wx : WX} {σ : L2.St} {H : Hp} {Q : VK} {m : FS} {c : Cd} {ixs : List Nat} {ds : List T} {dv : List V} {f g : SA} {n n1 n2 : Nat} (hd : Paired (fun t v => scV t = some v) ds dv) (hf : LenA f n1) (hg : LenA g n2)
    (hn : ixs.Nodup) (hi : ixs.all (fun i => decide (i < n1 + n2 + dv.length)) = true) (hl : ixs.length = n) (h : RdU K Wx (uV (eMakeK m c ixs ds (aApp f g))) σ H Q) :
    RdA K Wx f σ H fun vs H1 => RdA K Wx g σ H1 fun zs H2 => vs.length = n1 ∧ zs.length = n2 ∧ ∀ x dx, H2 x = none → H2 dx = none → dx ≠ x → SpF K (n + 1) m (.ref x :: pick ixs ((vs ++ zs) ++ dv)) (upd (upd H2 dx (.own x)) x (.ins (He.ga K c.nm) dx [])) (fun v H2 => v = .non ∧ Q (.ref x) H2) (fun cls d H' => Wx cls d σ H') := by
  have hf2 : LenA (aApp f g) (n1 + n2) := lenA_app hf hg
  have hdl : ds.length = dv.length := by
    clear hi h
    induction hd with
    | nil => rfl
    | cons _ _ ih => rw [List.length_cons, List.length_cons, ih]
  have key : RdA K Wx (aApp f g) σ H fun vs H2 => ∀ x dx, H2 x = none → H2 dx = none → dx ≠ x → SpF K (n + 1) m (.ref x :: pick ixs (vs ++ dv)) (upd (upd H2 dx (.own x)) x (.ins (He.ga K c.nm) dx [])) (fun v H2 => v = .non ∧ Q (.ref x) H2) (fun cls d H' => Wx cls d σ H') := by
    obtain ⟨G, F, S, st, w, r, p⟩ := h
    refine ⟨G, F, S, st, w, r, ?_⟩
    have p0 : PostU K Wx G F H σ Q (R.bind (((aApp f g) st).bind fun us st => doM m c (fun us => pick ixs (us ++ ds.map .v)) us st) fun t st => .ok (.v t) st) := p
    cases e : (aApp f g) st with
    | ex x st1 => rw [e] at p0; exact p0
    | no => rw [e] at p0; exact p0
    | ok us st1 =>
      rw [e] at p0
      intro vs H1 G1 S1 S2 x1 w1 d1 r1 a1
      have p1 : PostU K Wx G F H σ Q ((doM m c (fun us => pick ixs (us ++ ds.map .v)) us st1).bind fun t st => .ok (.v t) st) := p0
      have hu : us.length = n1 + n2 := hf2 _ _ _ e
      have hv : vs.length = n1 + n2 := (avs_len a1).symm.trans hu
      have a2 := avs_app a1 hd
      have hall := pick_lt hi
      have a3 := avs_pick (ixs := ixs) a2 hn fun i z => by
        rw [List.length_append, List.length_map, hu, hdl]
        exact hall i z
      refine domake_core w1 d1 r1 (pm := fun us => pick ixs (us ++ ds.map .v)) (us := us) a3 ?_ ?_
      · rw [pick_length fun i z => by rw [List.length_append, hv]; exact hall i z]
        exact hl
      · cases q : (doM m c (fun us => pick ixs (us ++ ds.map .v)) us st1) with
        | no => rw [q] at p1; exact p1
        | ok t st2 => rw [q] at p1; exact fun v H2 G2 A B x2 => p1 v H2 G2 A B (x1.trans x2)
        | ex x st2 => rw [q] at p1; exact fun cls d H2 G2 A x2 => p1 cls d H2 G2 A (x1.trans x2)
  exact RdA.imp (RdA.len hf (app_core key)) fun vs H1 ⟨l1, q⟩ => RdA.imp (RdA.len hg q) fun zs H2 ⟨l2, q⟩ => ⟨l1, l2, q⟩
theorem pick_succ {α : Type} (x : α) (l : List α) : ∀ ixs : List Nat, pick (ixs.map (· + 1)) (x :: l) = pick ixs l
  | [] => rfl
  | i :: ixs => by
    have ih := pick_succ x l ixs
    unfold pick at ih ⊢
    rw [List.map_cons, List.filterMap_cons, List.filterMap_cons, ih]
    rfl
theorem pick_zero {α : Type} (x : α) (l : List α) (ixs : List Nat) : pick (0 :: ixs.map (· + 1)) (x :: l) = x :: pick ixs l := by
  rw [← pick_succ x l ixs]
  rfl
section
variable {X : Cx} {x : Str} {p pos : Pos} {e : Expr} {es : List Expr} {kws : List Keyword} {f : Addr} {fd : FuncData} {ps ks : List Str} {k n n1 j : Nat} {m : FS} {ixs : List Nat} {ds : List T} {dv : List V} {dd : List Value} {fa ga g : SA} {its : List Value} {c : Cd}
theorem sim_make (M : Mk X.K (He.ga X.K c.nm) f) (F : FnOk X.prog X.w X.K X.mg X.base (L2.CX X.prog X.w) k f fd ps (SpF X.K (n + 1) m)) (hr : Room (k + 1) X.A) (hg : Gl X x) (hm : X.mg x = some (.ref (He.ga X.K c.nm))) (hb : Binds X.K fd ps dd) (hdv : Vals dv dd) (hd : Paired (fun t v => scV t = some v) ds dv)
    (ha : SimA X (e :: es) g) (hj : LenA g j) (hn : j + dv.length = n) (hdb : (x == ("__debug__" : Str)) = false := by decide) (he : starEach (e :: es) X.env = (false, eval e X.env) :: starEach es X.env := by rfl) (hpl : (backTo pos (starEach es X.env)).any (·.1) = false := by rfl) :
    SimE X (.Call (.Name x p) (e :: es) [] pos) (eMake m c ds g) := fun Wx tk => by
  refine ⟨fun pins s σ H Q I h => ?_⟩
  have h1 := make_core hd hj hn h
  refine wpAny_Call_Name_kw (ld_glob I hg hm ?_ hdb)
  refine PySem.W.callWith_K (h₀ := X.base) I.ok.mod.kin M.kp (thn ((ha Wx tk).run pos pins s σ H _ I h1) fun us s1 ⟨vs, H1, I1, r, q⟩ => ⟨I1.kIn, ?_⟩) he hpl
  exact run_makeS (E := WE Wx) M F hr hb hdv (passAt tk σ) I1 r q
theorem sim_makeK (M : Mk X.K (He.ga X.K c.nm) f) (F : FnOk X.prog X.w X.K X.mg X.base (L2.CX X.prog X.w) k f fd ps (SpF X.K (n + 1) m)) (hr : Room (k + 1) X.A) (hg : Gl X x) (hm : X.mg x = some (.ref (He.ga X.K c.nm)))
    (hb : KBn X.K fd ps (n1 + 1) ks (fun us ws => pick (0 :: ixs.map (· + 1)) ((us ++ ws) ++ its)) (fun vs zs => pick (0 :: ixs.map (· + 1)) ((vs ++ zs) ++ dv))) (hd : Paired (fun t v => scV t = some v) ds dv)
    (ha : SimA X (e :: es) fa) (hkw : SimK X kws ga) (la : LenA fa n1) (lg : LenA ga ks.length) (hn : ixs.Nodup) (hi : ixs.all (fun i => decide (i < n1 + ks.length + dv.length)) = true) (hl : ixs.length = n)
    (hall : (backToKw pos (keywordEach kws X.env)).all (·.1.isSome) = true := by rfl) (hks : (backToKw pos (keywordEach kws X.env)).filterMap (·.1) = ks := by rfl)
    (hdb : (x == ("__debug__" : Str)) = false := by decide) (he : starEach (e :: es) X.env = (false, eval e X.env) :: starEach es X.env := by rfl)
    (hpl : ((backTo pos (starEach (e :: es) X.env)).any (·.1) || (backToKw pos (keywordEach kws X.env)).any (·.1.isNone)) = false := by rfl) : SimE X (.Call (.Name x p) (e :: es) kws pos) (eMakeK m c ixs ds (aApp fa ga)) := fun Wx tk => by
  refine ⟨fun pins s σ H Q I h => ?_⟩
  have h1 := makeK_core hd la lg hn hi hl h
  refine wpAny_Call_Name_kw (ld_glob I hg hm ?_ hdb)
  refine PySem.W.callWith_KW (h₀ := X.base) I.ok.mod.kin M.kp hall (thn ((ha Wx tk).run pos pins s σ H _ I h1) fun us s1 ⟨vs, H1, I1, r, q⟩ => ?_) hpl he
  refine thn ((hkw Wx tk).run pos pins s1 σ H1 _ I1 q) fun ws s2 ⟨zs, H2, I2, rz, l1, l2, q2⟩ => ⟨I2.kIn, ?_⟩
  rw [hks]
  refine run_makeKS (E := WE Wx) M F hr hb (passAt tk σ) I2 r rz l1 l2 fun x dx a b cc => ?_
  have e0 : pick (0 :: ixs.map (· + 1)) ((V.ref x :: vs ++ zs) ++ dv) = V.ref x :: pick ixs ((vs ++ zs) ++ dv) := by
    rw [List.cons_append, List.cons_append, pick_zero]
  show SpF X.K (n + 1) m (pick (0 :: ixs.map (· + 1)) ((V.ref x :: vs ++ zs) ++ dv)) _ _ _
  rw [e0]
  exact q2 x dx a b cc
theorem sim_makeK0 (M : Mk X.K (He.ga X.K c.nm) f) (F : FnOk X.prog X.w X.K X.mg X.base (L2.CX X.prog X.w) k f fd ps (SpF X.K (n + 1) m)) (hr : Room (k + 1) X.A) (hg : Gl X x) (hm : X.mg x = some (.ref (He.ga X.K c.nm)))
    (hb : KBn X.K fd ps 1 ks (fun us ws => pick (0 :: ixs.map (· + 1)) ((us ++ ws) ++ its)) (fun vs zs => pick (0 :: ixs.map (· + 1)) ((vs ++ zs) ++ dv))) (hd : Paired (fun t v => scV t = some v) ds dv)
    (hkw : SimK X kws ga) (lg : LenA ga ks.length) (hn : ixs.Nodup) (hi : ixs.all (fun i => decide (i < 0 + ks.length + dv.length)) = true) (hl : ixs.length = n)
    (hall : (backToKw pos (keywordEach kws X.env)).all (·.1.isSome) = true := by rfl) (hks : (backToKw pos (keywordEach kws X.env)).filterMap (·.1) = ks := by rfl)
    (hdb : (x == ("__debug__" : Str)) = false := by decide)
    (hpl : ((backTo pos (starEach [] X.env)).any (·.1) || (backToKw pos (keywordEach kws X.env)).any (·.1.isNone)) = false := by rfl) : SimE X (.Call (.Name x p) [] kws pos) (eMakeK m c ixs ds (aApp aNil ga)) := fun Wx tk => by
  refine ⟨fun pins s σ H Q I h => ?_⟩
  have h1 := nil_core (makeK_core hd lenA_nil lg hn hi hl h)
  refine wpAny_Call_Name_kw (ld_glob I hg hm ?_ hdb)
  refine PySem.W.callWith_KW0 (h₀ := X.base) I.ok.mod.kin M.kp hall ?_ hpl
  refine thn ((hkw Wx tk).run pos pins s σ H _ I h1) fun ws s2 ⟨zs, H2, I2, rz, l1, l2, q2⟩ => ⟨I2.kIn, ?_⟩
  rw [hks]
  refine run_makeKS (E := WE Wx) (us := []) (vs := []) M F hr hb (passAt tk σ) I2 .nil rz rfl l2 fun x dx a b cc => ?_
  have e0 : pick (0 :: ixs.map (· + 1)) ((V.ref x :: [] ++ zs) ++ dv) = V.ref x :: pick ixs (([] ++ zs) ++ dv) := by
    rw [List.cons_append, List.cons_append, pick_zero]
  show SpF X.K (n + 1) m (pick (0 :: ixs.map (· + 1)) ((V.ref x :: [] ++ zs) ++ dv)) _ _ _
  rw [e0]
  exact q2 x dx a b cc
end

/-! ### methods -/
/-- an operand that is an instance of the class -/
def uObj (c : Cd) (f : SU) : SU := fun st => (f st).bind fun u st => match u.get st with
  | some (.obj _ c' _) => if c' = c then .ok u st else .no
  | _ => .no
theorem obj_core {K : PySem.W.Frag} {Wx : WX} {f : SU} {c : Cd} {σ : L2.St} {H : Hp} {Q : VK} (h : RdU K Wx (uObj c f) σ H Q) : RdU K Wx f σ H fun v H1 => (∃ a dx fs, v = .ref a ∧ H1 a = some (.ins (He.ga K c.nm) dx fs) ∧ ∀ m, m ∉ c.fl → fs.lookup m = none) ∧ Q v H1 := by
  obtain ⟨G, F, S, st, w, r, p⟩ := h
  unfold uObj at p
  refine step_u w r (fun u st1 e1 v H1 G1 S1 S2 x1 w1 d1 r1 a1 => ?_) (fun x st1 e1 => ?_) (fun e1 => ?_)
  · rw [e1] at p
    have p1 : PostU K Wx G F H σ Q (match u.get st1 with
      | some (.obj _ c' _) => if c' = c then .ok u st1 else .no
      | _ => .no) := p
    have hv : ∀ t, u.get st1 = some t → ∃ A, Rp K G1 H1 t v A := fun t e => by
      cases u with
      | v t' => cases e; exact ⟨S2, a1⟩
      | s i =>
        obtain ⟨v', C, D, k1, k2, k3, _⟩ := r1.get (join_some e)
        have k4 : σ[i]? = some (some v) := a1
        rw [k4] at k1
        cases k1
        exact ⟨C, k2⟩
    split at p1
    · rename_i o c' xs e2
      by_cases hc : c' = c
      · rw [if_pos hc] at p1
        subst hc
        obtain ⟨A, ra⟩ := hv _ e2
        obtain ⟨a, dx, vs, k1, k2, _⟩ := obj_at ra
        exact ⟨⟨a, dx, _, k1, k2, fun m hm => lookup_zip_none hm⟩, p1 v H1 G1 S1 S2 x1 w1 d1 r1 a1⟩
      · rw [if_neg hc] at p1
        exact p1.elim
    · exact p1.elim
  · rw [e1] at p
    exact p
  · rw [e1] at p
    exact p
section
variable {X : Cx} {o e : Expr} {es : List Expr} {kws : List Keyword} {mn : Str} {apos pos : Pos} {f : Addr} {fd : FuncData} {ps ks : List Str} {k n j n1 : Nat} {m : FS} {ixs : List Nat} {ds : List T} {dv : List V} {dd : List Value} {fo : SU} {fa ga : SA} {its : List Value} {c : Cd}
theorem sim_meth {pl : Sem Bool} (C : ClsOk X.K c) (hmm : Meth X.K (He.ga X.K c.nm) mn f) (hnf : mn ∉ c.fl) (F : FnOk X.prog X.w X.K X.mg X.base (L2.CX X.prog X.w) k f fd ps (SpF X.K n m)) (hr : Room k X.A) (hb : Binds X.K fd ps dd) (hdv : Vals dv dd) (hd : Paired (fun t v => scV t = some v) ds dv)
    (ho : SimU X o fo) (ha : SimA X (e :: es) fa) (hj : LenA fa j) (hn : j + 1 + dv.length = n)
    (hst : starEach (e :: es) X.env = (false, eval e X.env) :: starEach es X.env := by rfl) (hpl : (backTo pos (starEach es X.env)).any (·.1) = false := by rfl)
    (ht : eval (.Call (.Attribute o mn apos) (e :: es) [] pos) X.env = (do
      let ov ← eval o X.env
      standAt apos.atName
      let (f, first) ← holding [ov] (getMethod ov mn pl)
      callWith pos f first (backTo pos (starEach (e :: es) X.env)) (backToKw pos (keywordEach [] X.env))) := by rfl) :
    SimE X (.Call (.Attribute o mn apos) (e :: es) [] pos) (eCall m ds (aCons (uObj c fo) fa)) := fun Wx tk => by
  refine ⟨fun pins s σ H Q I h => ?_⟩
  have h1 := obj_core (cons_core (call_core (n := n) hd (fun vs us st st' e1 e2 => by rw [List.length_append, e2, lenA_cons hj st us st' e1, hn]) h))
  refine PySem.W.methodCall_KW (pl := pl) (thn ((ho Wx tk).run pins s σ H _ I h1) fun u s1 ⟨x, H1, I1, rx, ⟨a, dx, fs, ex, ea, l⟩, q⟩ => ?_) ht
  subst ex
  obtain rfl : u = Value.ref a := rx
  refine getmeth_ok I1 ea C.cl hmm (l mn hnf) ?_
  refine PySem.W.callWith_K (first := [.ref a]) (h₀ := X.base) I.ok.mod.kin hmm.kp (thn ((ha Wx tk).run pos pins s1 σ H1 _ I1 q) fun us s2 ⟨vs, H2, I2, r, q2⟩ => ⟨I2.kIn, ?_⟩) hst hpl
  exact run_fnSD (us := .ref a :: us) (vs := .ref a :: vs) (E := WE Wx) F hr hb hdv (passAt tk σ) I2 (.cons rfl r) q2
theorem sim_meth0 {pl : Sem Bool} (C : ClsOk X.K c) (hmm : Meth X.K (He.ga X.K c.nm) mn f) (hnf : mn ∉ c.fl) (F : FnOk X.prog X.w X.K X.mg X.base (L2.CX X.prog X.w) k f fd ps (SpF X.K n m)) (hr : Room k X.A) (hb : Binds X.K fd ps dd) (hdv : Vals dv dd) (hd : Paired (fun t v => scV t = some v) ds dv)
    (ho : SimU X o fo) (hn : 1 + dv.length = n)
    (ht : eval (.Call (.Attribute o mn apos) [] [] pos) X.env = (do
      let ov ← eval o X.env
      standAt apos.atName
      let (f, first) ← holding [ov] (getMethod ov mn pl)
      callWith pos f first (backTo pos (starEach [] X.env)) (backToKw pos (keywordEach [] X.env))) := by rfl) :
    SimE X (.Call (.Attribute o mn apos) [] [] pos) (eCall m ds (aCons (uObj c fo) aNil)) := fun Wx tk => by
  refine ⟨fun pins s σ H Q I h => ?_⟩
  have h1 := obj_core (one_core (call_core (n := n) hd (fun vs us st st' e1 e2 => by rw [List.length_append, e2, lenA_cons lenA_nil st us st' e1, hn]) h))
  refine PySem.W.methodCall_KW (pl := pl) (thn ((ho Wx tk).run pins s σ H _ I h1) fun u s1 ⟨x, H1, I1, rx, ⟨a, dx, fs, ex, ea, l⟩, q⟩ => ?_) ht
  subst ex
  obtain rfl : u = Value.ref a := rx
  refine getmeth_ok I1 ea C.cl hmm (l mn hnf) ?_
  exact PySem.W.callWith_K0 (first := [.ref a]) I1.kIn hmm.kp (run_fnSD (us := [.ref a]) (vs := [.ref a]) (E := WE Wx) F hr hb hdv (passAt tk σ) I1 (.cons rfl .nil) q)
/-- o.m(k = v, ..) -/
theorem sim_methK0 {pl : Sem Bool} (C : ClsOk X.K c) (hmm : Meth X.K (He.ga X.K c.nm) mn f) (hnf : mn ∉ c.fl) (F : FnOk X.prog X.w X.K X.mg X.base (L2.CX X.prog X.w) k f fd ps (SpF X.K n m)) (hr : Room k X.A)
    (hb : KBn X.K fd ps 1 ks (fun us ws => pick ixs ((us ++ ws) ++ its)) (fun vs zs => pick ixs ((vs ++ zs) ++ dv))) (hd : Paired (fun t v => scV t = some v) ds dv)
    (ho : SimU X o fo) (hkw : SimK X kws ga) (lg : LenA ga ks.length) (hn : ixs.Nodup) (hi : ixs.all (fun i => decide (i < 1 + ks.length + dv.length)) = true) (hl : ixs.length = n)
    (hall : (backToKw pos (keywordEach kws X.env)).all (·.1.isSome) = true := by rfl) (hks : (backToKw pos (keywordEach kws X.env)).filterMap (·.1) = ks := by rfl)
    (hpl : ((backTo pos (starEach [] X.env)).any (·.1) || (backToKw pos (keywordEach kws X.env)).any (·.1.isNone)) = false := by rfl)
    (ht : eval (.Call (.Attribute o mn apos) [] kws pos) X.env = (do
      let ov ← eval o X.env
      standAt apos.atName
      let (f, first) ← holding [ov] (getMethod ov mn pl)
      callWith pos f first (backTo pos (starEach [] X.env)) (backToKw pos (keywordEach kws X.env))) := by rfl) :
    SimE X (.Call (.Attribute o mn apos) [] kws pos) (eCallK m ixs ds (aApp (aCons (uObj c fo) aNil) ga)) := fun Wx tk => by
  refine ⟨fun pins s σ H Q I h => ?_⟩
  have h1 := obj_core (one_core (callK_core hd (lenA_cons lenA_nil) lg hn hi hl h))
  refine PySem.W.methodCall_KW (pl := pl) (thn ((ho Wx tk).run pins s σ H _ I h1) fun u s1 ⟨x, H1, I1, rx, ⟨a, dx, fs, ex, ea, l⟩, q⟩ => ?_) ht
  subst ex
  obtain rfl : u = Value.ref a := rx
  refine getmeth_ok I1 ea C.cl hmm (l mn hnf) ?_
  refine PySem.W.callWith_KW0 (first := [.ref a]) (h₀ := X.base) I.ok.mod.kin hmm.kp hall ?_ hpl
  refine thn ((hkw Wx tk).run pos pins s1 σ H1 _ I1 q) fun ws s2 ⟨zs, H2, I2, rz, l1, l2, q2⟩ => ⟨I2.kIn, ?_⟩
  rw [hks]
  exact run_fnK (us := [.ref a]) (vs := [.ref a]) (E := WE Wx) F hr hb (passAt tk σ) I2 (.cons rfl .nil) rz l1 l2 q2
/-- o.m(e, .., k = v, ..) -/
theorem sim_methK {pl : Sem Bool} (C : ClsOk X.K c) (hmm : Meth X.K (He.ga X.K c.nm) mn f) (hnf : mn ∉ c.fl) (F : FnOk X.prog X.w X.K X.mg X.base (L2.CX X.prog X.w) k f fd ps (SpF X.K n m)) (hr : Room k X.A)
    (hb : KBn X.K fd ps (n1 + 1) ks (fun us ws => pick ixs ((us ++ ws) ++ its)) (fun vs zs => pick ixs ((vs ++ zs) ++ dv))) (hd : Paired (fun t v => scV t = some v) ds dv)
    (ho : SimU X o fo) (ha : SimA X (e :: es) fa) (hkw : SimK X kws ga) (la : LenA fa n1) (lg : LenA ga ks.length) (hn : ixs.Nodup) (hi : ixs.all (fun i => decide (i < n1 + 1 + ks.length + dv.length)) = true) (hl : ixs.length = n)
    (hall : (backToKw pos (keywordEach kws X.env)).all (·.1.isSome) = true := by rfl) (hks : (backToKw pos (keywordEach kws X.env)).filterMap (·.1) = ks := by rfl)
    (he : starEach (e :: es) X.env = (false, eval e X.env) :: starEach es X.env := by rfl)
    (hpl : ((backTo pos (starEach (e :: es) X.env)).any (·.1) || (backToKw pos (keywordEach kws X.env)).any (·.1.isNone)) = false := by rfl)
    (ht : eval (.Call (.Attribute o mn apos) (e :: es) kws pos) X.env = (do
      let ov ← eval o X.env
      standAt apos.atName
      let (f, first) ← holding [ov] (getMethod ov mn pl)
      callWith pos f first (backTo pos (starEach (e :: es) X.env)) (backToKw pos (keywordEach kws X.env))) := by rfl) :
    SimE X (.Call (.Attribute o mn apos) (e :: es) kws pos) (eCallK m ixs ds (aApp (aCons (uObj c fo) fa) ga)) := fun Wx tk => by
  refine ⟨fun pins s σ H Q I h => ?_⟩
  have h1 := obj_core (cons_core (callK_core hd (lenA_cons la) lg hn hi hl h))
  refine PySem.W.methodCall_KW (pl := pl) (thn ((ho Wx tk).run pins s σ H _ I h1) fun u s1 ⟨x, H1, I1, rx, ⟨a, dx, fs, ex, ea, l⟩, q⟩ => ?_) ht
  subst ex
  obtain rfl : u = Value.ref a := rx
  refine getmeth_ok I1 ea C.cl hmm (l mn hnf) ?_
  refine PySem.W.callWith_KW (first := [.ref a]) (h₀ := X.base) I.ok.mod.kin hmm.kp hall (thn ((ha Wx tk).run pos pins s1 σ H1 _ I1 q) fun us s2 ⟨vs, H2, I2, r, q⟩ => ?_) hpl he
  refine thn ((hkw Wx tk).run pos pins s2 σ H2 _ I2 q) fun ws s3 ⟨zs, H3, I3, rz, l1, l2, q2⟩ => ⟨I3.kIn, ?_⟩
  rw [hks]
  exact run_fnK (us := .ref a :: us) (vs := .ref a :: vs) (E := WE Wx) F hr hb (passAt tk σ) I3 (.cons rfl r) rz l1 l2 q2
end
/-! ### never reached -/
def sNo : SS := fun _ => .no
theorem sim_no {X : Cx} {P : Nat → Bool} {s : Stmt} : SimS X P s sNo := fun Wx tk => PS.imp ps_never fun D σ H ⟨G, F, S, st, w, r, p⟩ => p
end
end Ev
namespace Ev
noncomputable section
open PySem PySem.Spec PyProof.Rows L2
/-- a, b, c = e1, e2, e3 -/
def sPar3 (i j l : Nat) (f : SA) : SS := fun st => (f st).bind fun us st => match vsOf us with
  | some [t, u, z] => .ok .nx (((st.set i (some t)).set j (some u)).set l (some z))
  | _ => .no
theorem sim_par3 {X : Cx} {P : Nat → Bool} {pos : Pos} {i j l : Nat} {x y z : Str} {a b c : Expr} {f : SA} {px py pz pt : Pos} {kt k2 pt2} (hPi : P i = false) (hPj : P j = false) (hPl : P l = false) (ha : SimA X [a, b, c] f)
    (hps : ∀ t : TA, PA X [a, b, c] t → PS X (.Assign [.Tuple [.Name x px, .Name y py, .Name z pz] kt pt] (.Tuple [a, b, c] k2 pt2) pos) (tPar3 i j l t)) : SimS X P (.Assign [.Tuple [.Name x px, .Name y py, .Name z pz] kt pt] (.Tuple [a, b, c] k2 pt2) pos) (sPar3 i j l f) := fun Wx tk =>
  PS.imp (hps _ (ha Wx tk)) fun D σ H ⟨G, F, S, st, w, r, p⟩ => by
    refine ⟨G, F, S, st, w, r, ?_⟩
    have p1 : PostS X.K P Wx G F H σ D ((f st).bind fun us st => match vsOf us with
      | some [t, u, z] => .ok .nx (((st.set i (some t)).set j (some u)).set l (some z))
      | _ => .no) := p
    cases e : f st with
    | ok us st1 =>
      rw [e] at p1
      have p2 : PostS X.K P Wx G F H σ D (match vsOf us with
        | some [t, u, z] => .ok .nx (((st1.set i (some t)).set j (some u)).set l (some z))
        | _ => .no) := p1
      intro vs H1 G1 S1 S2 x1 w1 d1 r1 a1
      split at p2
      · rename_i t u z e2
        obtain ⟨v, vr, A, B, h1, h2, h3, h4, h5, h6⟩ := vs_rp a1 e2
        obtain ⟨v2, vr2, A2, B2, k1, k2, k3, k4, k5, k6⟩ := h3
        obtain ⟨v3, vr3, A3, B3, m1, m2, m3, m4, m5, m6⟩ := k3
        subst h1 k1 m1
        rw [show vr3 = [] from m3]
        refine ⟨v, v2, v3, rfl, ?_⟩
        have q1 := r1.fill (i := i) h2 fun a z1 z2 => d1 a z1 (h4 a z2)
        have q2 := q1.fill (i := j) k2 fun a z1 z2 => z1.elim (fun z => d1 a z (h5 a (k4 a z2))) fun z => h6 a z (k4 a z2)
        have q3 := q2.fill (i := l) m2 fun a z1 z2 => z1.elim (fun z => z.elim (fun z => d1 a z (h5 a (k5 a (m4 a z2)))) fun z => h6 a z (k5 a (m4 a z2))) fun z => k6 a z (m4 a z2)
        refine p2 _ H1 G1 _ x1 (w1.less (fun _ z => z) ?_) q3 (((Pk.set hPi).trans (Pk.set hPj)).trans (Pk.set hPl))
        intro a z
        rcases z with ((z | z) | z) | z
        · exact .inl z
        · exact .inr (h4 a z)
        · exact .inr (h5 a (k4 a z))
        · exact .inr (h5 a (k5 a (m4 a z)))
      · exact p2.elim
    | ex x st1 =>
      rw [e] at p1
      exact fun cls d H1 G1 S1 x1 w1 r1 q => p1 cls d σ H1 G1 S1 x1 w1 r1 q Pk.refl
    | no => rw [e] at p1; exact p1
end
end Ev

/-! EvWp: dead slots wiped; results by what is wanted of them. -/
namespace Ev
noncomputable section
open PySem PySem.Spec PyProof.Rows L2

/-! ### dead slots -/
theorem StR.wipes {K : PySem.W.Frag} {G : AS} {H : Hp} {σ : L2.St} {S : AS} : ∀ {vs : List Nat} {st : SL}, StR K G H st σ S → StR K G H (wipeL st vs) σ S
  | [], _, h => h
  | v :: vs, st, h => StR.wipes (vs := vs) (h.drop v)
/-- what is dead behind it is wiped -/
def sWp (vs : List Nat) (b : SS) : SS := fun st => match b st with
  | .ok a st1 => .ok a (wipeL st1 vs)
  | r => r
/-- what is dead ahead of it is wiped -/
def sDp (vs : List Nat) (b : SS) : SS := fun st => b (wipeL st vs)
theorem RdS.wp {K : PySem.W.Frag} {P : Nat → Bool} {Wx : WX} {vs : List Nat} {f : SS} {D : Ends} {σ : L2.St} {H : Hp} (h : RdS K P Wx (sWp vs f) D σ H) : RdS K P Wx f D σ H := by
  obtain ⟨G, F, S, st, w, r, p⟩ := h
  refine ⟨G, F, S, st, w, r, ?_⟩
  have p1 : PostS K P Wx G F H σ D (match f st with
    | .ok a st1 => .ok a (wipeL st1 vs)
    | r => r) := p
  cases e : f st with
  | ok a st1 =>
    rw [e] at p1
    cases a with
    | nx => exact fun s2 H2 G2 S2 x2 w2 r2 k => p1 s2 H2 G2 S2 x2 w2 r2.wipes k
    | rt t => exact fun v s2 H2 G2 S2 S3 x2 w2 d2 r2 rv k => p1 v s2 H2 G2 S2 S3 x2 w2 d2 r2.wipes rv k
    | bk => exact fun s2 H2 G2 S2 x2 w2 r2 k => p1 s2 H2 G2 S2 x2 w2 r2.wipes k
    | ct => exact fun s2 H2 G2 S2 x2 w2 r2 k => p1 s2 H2 G2 S2 x2 w2 r2.wipes k
  | ex x st1 => rw [e] at p1; exact p1
  | no => rw [e] at p1; exact p1
theorem RdS.dp {K : PySem.W.Frag} {P : Nat → Bool} {Wx : WX} {vs : List Nat} {f : SS} {D : Ends} {σ : L2.St} {H : Hp} (h : RdS K P Wx (sDp vs f) D σ H) : RdS K P Wx f D σ H := by
  obtain ⟨G, F, S, st, w, r, p⟩ := h
  exact ⟨G, F, S, wipeL st vs, w, r.wipes, p⟩
section
variable {X : Cx} {P : Nat → Bool} {s : Stmt} {ss : List Stmt} {f : SS} {vs : List Nat}
theorem sim_wp (h : SimB X P ss f) : SimB X P ss (sWp vs f) := fun Wx tk => PSs.imp (h Wx tk) fun D σ H q => RdS.wp q
theorem sim_dp (h : SimS X P s f) : SimS X P s (sDp vs f) := fun Wx tk => PS.imp (h Wx tk) fun D σ H q => RdS.dp q
end

/-! ### results -/
/-- it comes to an end, of which K holds -/
def Ok {α : Type} (r : R α) (K : α → SL → Prop) : Prop := match r with
  | .ok a st => K a st
  | _ => False
@[simp] theorem ok_ok {α : Type} (a : α) (st : SL) (K : α → SL → Prop) : Ok (R.ok a st) K = K a st := rfl
theorem ok_eq {α : Type} {r : R α} {K : α → SL → Prop} (h : Ok r K) : ∃ a st, r = .ok a st ∧ K a st := by
  cases r with
  | ok a st => exact ⟨a, st, rfl, h⟩
  | ex _ _ => exact h.elim
  | no => exact h.elim
theorem ok_imp {α : Type} {r : R α} {K K' : α → SL → Prop} (h : Ok r K) (i : ∀ a st, K a st → K' a st) : Ok r K' := by
  obtain ⟨a, st, rfl, q⟩ := ok_eq h
  exact i a st q
/-- one statement, what follows sealed -/
theorem ok_seq {f g : SS} {st : SL} {K : Fl → SL → Prop} (h : ∀ K' : Fl → SL → Prop, (∀ st1, Ok (g st1) K → K' .nx st1) → (∀ t st1, K (.rt t) st1 → K' (.rt t) st1) → Ok (f st) K') : Ok (sSeq f g st) K := by
  have q := h (fun a st1 => match a with
    | .nx => Ok (g st1) K
    | a => K a st1) (fun _ h => h) (fun _ _ h => h)
  obtain ⟨a, st1, e, q⟩ := ok_eq q
  show Ok (match f st with
    | .ok .nx st1 => g st1
    | r => r) K
  rw [e]
  cases a <;> exact q
/-- .. of which only what it leaves is known -/
theorem ok_nx {f g : SS} {st st1 : SL} {K : Fl → SL → Prop} (h : f st = .ok .nx st1) (q : Ok (g st1) K) : Ok (sSeq f g st) K := by
  show Ok (match f st with
    | .ok .nx st1 => g st1
    | r => r) K
  rw [h]
  exact q
theorem ok_wp {vs : List Nat} {b : SS} {st : SL} {K : Fl → SL → Prop} (h : Ok (b st) fun a st1 => K a (wipeL st1 vs)) : Ok (sWp vs b st) K := by
  obtain ⟨a, st1, e, q⟩ := ok_eq h
  show Ok (match b st with
    | .ok a st1 => .ok a (wipeL st1 vs)
    | r => r) K
  rw [e]
  exact q
theorem ok_dp {vs : List Nat} {b : SS} {st : SL} {K : Fl → SL → Prop} (h : Ok (b (wipeL st vs)) K) : Ok (sDp vs b st) K := h
@[simp] theorem ap_sDp (vs : List Nat) (b : SS) (st : SL) : sDp vs b st = b (wipeL st vs) := rfl
/-- a for, by an invariant; early ends are handed on -/
theorem ok_forL {g : TS'} {b : SS} {K : Fl → SL → Prop} (I : Nat → SL → Prop) : ∀ {ts : List T} {k : Nat} {st : SL}, I k st →
    (∀ i t st, ts[i]? = some t → I (k + i) st → ∃ st1, g t st = some st1 ∧ ∀ K' : Fl → SL → Prop, (∀ st2, I (k + i + 1) st2 → K' .nx st2) → (∀ st2, I (k + i + 1) st2 → K' .ct st2) → (∀ u st2, K (.rt u) st2 → K' (.rt u) st2) → (∀ st2, K .nx st2 → K' .bk st2) → Ok (b st1) K') →
    (∀ st, I (k + ts.length) st → K .nx st) → Ok (forL g b ts st) K
  | [], k, st, h0, _, hd => hd st h0
  | t :: ts, k, st, h0, h, hd => by
    obtain ⟨st1, e1, q⟩ := h 0 t st rfl h0
    have q2 := q (fun a st2 => match a with
      | .nx => I (k + 1) st2
      | .ct => I (k + 1) st2
      | .bk => K .nx st2
      | .rt u => K (.rt u) st2) (fun _ h => h) (fun _ h => h) (fun _ _ h => h) (fun _ h => h)
    obtain ⟨a, st2, e2, q3⟩ := ok_eq q2
    have next : ∀ st2, I (k + 1) st2 → Ok (forL g b ts st2) K := fun st2 h2 => ok_forL I (ts := ts) (k := k + 1) h2 (fun i t st hi h3 => by
      have e : k + 1 + i = k + (i + 1) := by omega
      rw [e] at h3 ⊢
      exact h (i + 1) t st (by simpa using hi) h3) (fun st h3 => hd st (by rw [List.length_cons, show k + (ts.length + 1) = k + 1 + ts.length by omega]; exact h3))
    show Ok (match g t st with
      | none => R.no
      | some st1 => match b st1 with
        | .ok .nx st2 => forL g b ts st2
        | .ok .ct st2 => forL g b ts st2
        | .ok .bk st2 => R.ok .nx st2
        | r => r) K
    rw [e1]
    show Ok (match b st1 with
        | .ok .nx st2 => forL g b ts st2
        | .ok .ct st2 => forL g b ts st2
        | .ok .bk st2 => R.ok .nx st2
        | r => r) K
    rw [e2]
    cases a with
    | nx => exact next st2 q3
    | ct => exact next st2 q3
    | bk => exact q3
    | rt u => exact q3
theorem ok_for {f : SI} {g : TS'} {b : SS} {st st1 : SL} {ts : List T} {K : Fl → SL → Prop} (hf : f st = .ok ts st1) (I : Nat → SL → Prop) (h0 : I 0 st1)
    (hs : ∀ i t st, ts[i]? = some t → I i st → ∃ st1, g t st = some st1 ∧ ∀ K' : Fl → SL → Prop, (∀ st2, I (i + 1) st2 → K' .nx st2) → (∀ st2, I (i + 1) st2 → K' .ct st2) → (∀ u st2, K (.rt u) st2 → K' (.rt u) st2) → (∀ st2, K .nx st2 → K' .bk st2) → Ok (b st1) K')
    (hd : ∀ st, I ts.length st → K .nx st) : Ok (sFor f g b st) K := by
  show Ok ((f st).bind fun ts st => forL g b ts st) K
  rw [hf]
  refine ok_forL I (k := 0) h0 (fun i t st hi h => ?_) (fun st h => hd st (by rw [Nat.zero_add] at h; exact h))
  rw [Nat.zero_add] at h ⊢
  exact hs i t st hi h
/-- .. over decoded items -/
theorem ok_forD {α : Type} {f : SI} {g : TS'} {b : SS} {st st1 : SL} {l : List α} (dec : α → T) {K : Fl → SL → Prop} (hf : f st = .ok (l.map dec) st1) (I : Nat → SL → Prop) (h0 : I 0 st1)
    (hs : ∀ i a st, l[i]? = some a → I i st → ∃ st1, g (dec a) st = some st1 ∧ ∀ K' : Fl → SL → Prop, (∀ st2, I (i + 1) st2 → K' .nx st2) → (∀ st2, I (i + 1) st2 → K' .ct st2) → (∀ u st2, K (.rt u) st2 → K' (.rt u) st2) → (∀ st2, K .nx st2 → K' .bk st2) → Ok (b st1) K')
    (hd : ∀ st, I l.length st → K .nx st) : Ok (sFor f g b st) K := by
  refine ok_for hf I h0 (fun i t st hi h => ?_) (fun st h => hd st (by rw [List.length_map] at h; exact h))
  rw [List.getElem?_map] at hi
  cases e : l[i]? with
  | none => rw [e] at hi; cases hi
  | some a =>
    rw [e] at hi
    cases hi
    exact hs i a st e h
/-- .. as a fold -/
theorem ok_fold {α β : Type} {f : SI} {g : TS'} {b : SS} {st : SL} {l : List α} (dec : α → T) {K : Fl → SL → Prop} (enc : β → SL) (step : β → α → β) (P : β → Prop) {s0 : β} (hf : f st = .ok (l.map dec) (enc s0)) (h0 : P s0)
    (hs : ∀ s a, a ∈ l → P s → P (step s a) ∧ ∃ st1, g (dec a) (enc s) = some st1 ∧ b st1 = .ok .nx (enc (step s a)))
    (hd : P (l.foldl step s0) → K .nx (enc (l.foldl step s0))) : Ok (sFor f g b st) K := by
  show Ok ((f st).bind fun ts st => forL g b ts st) K
  rw [hf]
  obtain ⟨e, q⟩ := forL_fold dec enc step P h0 hs
  show Ok (forL g b (l.map dec) (enc s0)) K
  rw [e]
  exact hd q
/-- a while, by an invariant and a measure -/
theorem ok_while {c : ST} {b : SS} {K : Fl → SL → Prop} (I : Nat → SL → Prop) {n : Nat} {st : SL} (h0 : I n st)
    (hs : ∀ n st, I n st → ∃ k st1, c st = .ok k st1 ∧ (k = false → K .nx st1) ∧ (k = true → ∀ K' : Fl → SL → Prop, (∀ m st2, m < n → I m st2 → K' .nx st2) → (∀ m st2, m < n → I m st2 → K' .ct st2) → (∀ u st2, K (.rt u) st2 → K' (.rt u) st2) → (∀ st2, K .nx st2 → K' .bk st2) → Ok (b st1) K')) : Ok (sWh c b st) K := by
  have key : ∀ n st, I n st → Ok (whN c b (n + 1) st) K := by
    intro n
    induction n using Nat.strongRecOn with
    | ind n ih =>
      intro st h
      obtain ⟨k, st1, e1, hf, ht⟩ := hs n st h
      show Ok ((c st).bind fun k st => if k then
        match b st with
        | .ok .nx st1 => whN c b n st1
        | .ok .ct st1 => whN c b n st1
        | .ok .bk st1 => .ok .nx st1
        | r => r
      else .ok .nx st) K
      rw [e1]
      cases k with
      | false => exact hf rfl
      | true =>
        have q2 := ht rfl (fun a st2 => match a with
          | .nx => ∃ m, m < n ∧ I m st2
          | .ct => ∃ m, m < n ∧ I m st2
          | .bk => K .nx st2
          | .rt u => K (.rt u) st2) (fun m _ l h => ⟨m, l, h⟩) (fun m _ l h => ⟨m, l, h⟩) (fun _ _ h => h) (fun _ h => h)
        obtain ⟨a, st2, e2, q3⟩ := ok_eq q2
        have go : ∀ m st2, m < n → I m st2 → Ok (whN c b n st2) K := fun m st2 l h => by
          obtain ⟨a, st3, e, q⟩ := ok_eq (ih m l st2 h)
          obtain ⟨d, hd⟩ : ∃ d, n = (m + 1) + d := ⟨n - (m + 1), by omega⟩
          rw [hd, whN_mono (by rw [e]; exact fun z => by cases z) d, e]
          exact q
        show Ok (if true = true then
          match b st1 with
          | .ok .nx st1 => whN c b n st1
          | .ok .ct st1 => whN c b n st1
          | .ok .bk st1 => .ok .nx st1
          | r => r
        else .ok .nx st1) K
        rw [if_pos rfl, e2]
        cases a with
        | nx =>
          obtain ⟨m, l, h⟩ := q3
          exact go m st2 l h
        | ct =>
          obtain ⟨m, l, h⟩ := q3
          exact go m st2 l h
        | bk => exact q3
        | rt u => exact q3
  obtain ⟨a, st1, e, q⟩ := ok_eq (key n st h0)
  rw [sWh_eq (n := n + 1) (by rw [e]; exact fun z => by cases z), e]
  exact q
/-- a def's answer, by its body -/
theorem def_ok {n k : Nat} {P : Nat → Bool} {b : SS} {ts : List T} {Q : T → List T → Prop} (hl : ts.length = n) (h : Ok (b (ts.map some ++ List.replicate (k - n) none)) fun a st => ∃ r as, retF P ts (.ok a st) = .ok r as ∧ Q r as) : ∃ r as, defF n k P b ts = .ok r as ∧ Q r as := by
  obtain ⟨a, st, e, r, as, h1, h2⟩ := ok_eq h
  refine ⟨r, as, ?_, h2⟩
  show (if ts.length = n then retF P ts (b (ts.map some ++ List.replicate (k - n) none)) else .no) = _
  rw [if_pos hl, e, h1]

/-! ### numbers -/
theorem mulOk_sm {i j : Int} (a : -(2 ^ 64) < i) (b : i < 2 ^ 64) (c : -(2 ^ 64) < j) (d : j < 2 ^ 64) : mulOk i j = true := mulOk_of (a := 64) (b := 64) (by omega) (by omega) (by decide)
theorem p_mulS {i j : Int} (a : -(2 ^ 64) < i) (b : i < 2 ^ 64) (c : -(2 ^ 64) < j) (d : j < 2 ^ 64) : pMul [.int i, .int j] = some (.int (i * j)) := by rw [p_mul, if_pos (mulOk_sm a b c d)]
theorem p_divS {i j : Int} (a : 0 < j) (b : j < 2 ^ 64) : pDiv [.int i, .int j] = some (.int (i / j)) := by rw [p_div, if_pos (divOk_of (b := 64) a (by omega) (by decide) (by decide))]
theorem p_modS {i j : Int} (a : 0 < j) : pMod [.int i, .int j] = some (.int (i % j)) := by rw [p_mod, if_pos (decide_eq_true a)]
theorem p_pow_lit (a b : Int) (h : powOk a b = true) : pPow [.int a, .int b] = some (.int (a ^ b.toNat)) := by rw [p_pow, if_pos h]
theorem szN (n : Nat) (h : n ≤ 16777216) : n ≤ sizeLine := by rw [sizeLine_eq]; exact h
theorem szL (n : Nat) (h : n < 16777216) : n < sizeLine := by rw [sizeLine_eq]; exact h
/-! ### places -/
theorem atT_ofNat (o : Bool) (xs : List T) (n : Nat) : atT (.lst o xs) ((n : Nat) : Int) = (match xs[n]? with
    | some u => if frz u then some u else none
    | none => none) := by
  show (match atI xs (n : Int) with
    | some u => if frz u then some u else none
    | none => none) = _
  congr 1
  unfold atI
  by_cases h : n < xs.length
  · rw [ixN_nat _ _ h]
    rfl
  · have e : ixN xs.length (n : Int) = none := by
      unfold ixN
      rw [if_pos (by omega), if_neg (by omega)]
    rw [e, List.getElem?_eq_none (by omega)]
    rfl
theorem atT_ofNatT (xs : List T) (n : Nat) : atT (.tup xs) ((n : Nat) : Int) = (match xs[n]? with
    | some u => if frz u then some u else none
    | none => none) := by
  have q := atT_ofNat true xs n
  exact q
@[simp] theorem atT_lit (o : Bool) (xs : List T) (n : Nat) : atT (.lst o xs) (@OfNat.ofNat Int n _) = (match xs[n]? with
    | some u => if frz u then some u else none
    | none => none) := atT_ofNat o xs n
@[simp] theorem atT_litT (xs : List T) (n : Nat) : atT (.tup xs) (@OfNat.ofNat Int n _) = (match xs[n]? with
    | some u => if frz u then some u else none
    | none => none) := atT_ofNatT xs n
theorem atI_neg1 {α : Type} (xs : List α) : atI xs (-1) = xs.getLast? := by
  unfold atI ixN
  cases xs with
  | nil => rfl
  | cons x xs =>
    rw [if_neg (by decide)]
    have e : -((x :: xs).length : Int) ≤ -1 := by rw [List.length_cons]; omega
    rw [if_pos e, List.getLast?_eq_getElem?]
    have e2 : (-1 + ((x :: xs).length : Int)).toNat = (x :: xs).length - 1 := by rw [List.length_cons]; omega
    show (x :: xs)[(-1 + ((x :: xs).length : Int)).toNat]? = _
    rw [e2]
theorem atT_neg1 (o : Bool) (xs : List T) : atT (.lst o xs) (-1) = (match xs.getLast? with
    | some u => if frz u then some u else none
    | none => none) := by
  show (match atI xs (-1) with
    | some u => if frz u then some u else none
    | none => none) = _
  rw [atI_neg1]
theorem atT_neg1T (xs : List T) : atT (.tup xs) (-1) = (match xs.getLast? with
    | some u => if frz u then some u else none
    | none => none) := by
  show (match atI xs (-1) with
    | some u => if frz u then some u else none
    | none => none) = _
  rw [atI_neg1]
theorem at_mapI {α : Type} {f : α → T} {l : List α} {n : Nat} {x : α} (o : Bool) (h : l[n]? = some x) (hf : frz (f x) = true) : atT (.lst o (l.map f)) ((n : Nat) : Int) = some (f x) :=
  atT_lst (atI_nat (by rw [List.getElem?_map, h]; rfl)) hf
theorem at_mapT {α : Type} {f : α → T} {l : List α} {n : Nat} {x : α} (h : l[n]? = some x) (hf : frz (f x) = true) : atT (.tup (l.map f)) ((n : Nat) : Int) = some (f x) :=
  atT_tup (atI_nat (by rw [List.getElem?_map, h]; rfl)) hf
/-! ### range -/
theorem rg1_ap (j : Int) : rg1 [.int j] = if (leC (-(2 ^ 62)) j && ltC j (2 ^ 62)) = true then some (rgI 0 j) else none := by
  unfold rg1
  rfl
theorem rg1_nat (n : Nat) (h : n ≤ 16777216) : rg1 [.int (n : Nat)] = some ((List.range n).map fun i => ((i : Nat) : Int)) := by
  have h1 : -(2 ^ 62 : Int) ≤ ((n : Nat) : Int) := by omega
  have h2 : ((n : Nat) : Int) < 2 ^ 62 := by omega
  rw [rg1_ap, leC_of h1, ltC_of h2, if_pos (show (true && true) = true from rfl)]
  congr 1
  unfold rgI
  rw [Int.sub_zero, Int.toNat_natCast]
  exact List.map_congr_left fun i _ => Int.zero_add _
theorem iInts_ok {p : List T → Option (List Int)} {f : SA} {st st1 : SL} {us : List AV} {ts : List T} {ns : List Int} (h1 : f st = .ok us st1) (h2 : vsOf us = some ts) (h3 : p ts = some ns) : Ev.iInts p f st = .ok (ns.map .int) st1 := by
  unfold Ev.iInts
  rw [h1]
  show (match vsOf us with
    | some ts => (match p ts with
      | some ns => R.ok (ns.map T.int) st1
      | none => R.no)
    | none => R.no) = _
  rw [h2]
  show (match p ts with
      | some ns => R.ok (ns.map T.int) st1
      | none => R.no) = _
  rw [h3]
theorem range_ok {f : SA} {st st1 : SL} {n : Nat} (h : n ≤ 16777216) (h1 : f st = .ok [.v (.int (n : Nat))] st1) : Ev.iInts rg1 f st = .ok ((List.range n).map fun i : Nat => T.int (i : Nat)) st1 := by
  rw [iInts_ok h1 rfl (rg1_nat n h), List.map_map]
  rfl
/-! ### isinstance -/
theorem btN_list : btN "list" = some .lst := by unfold btN; simp
theorem btN_tuple : btN "tuple" = some .tup := by unfold btN; simp
theorem btN_str : btN "str" = some .str := by unfold btN; simp
theorem btN_bool : btN "bool" = some .bl := by unfold btN; simp
theorem btN_int : btN "int" = some .int := by unfold btN; simp
theorem p_isi1 (t : T) (n : String) : pIsi [t, .ty n] = (match btT t, btN n with
    | some a, some b => some (.bl (isBT a b))
    | _, _ => none) := rfl
theorem p_isi2 (t : T) (us : List T) : pIsi [t, .tup us] = (match btT t, tysT us with
    | some a, some bs => some (.bl (bs.any (isBT a)))
    | _, _ => none) := rfl
theorem tys_lt : tysT [.ty "list", .ty "tuple"] = some [.lst, .tup] := by simp [tysT, btN_list, btN_tuple]
theorem tys_sb : tysT [.ty "str", .ty "bool"] = some [.str, .bl] := by simp [tysT, btN_str, btN_bool]
theorem eqT_non : eqT .non .non = some true := rfl
end
end Ev
namespace Ev
noncomputable section
open PySem PySem.Spec PyProof.Rows L2
/-- [e for x in xs] -/
theorem lc_all {α : Type} {f : SI} {g : TS'} {te : SE} {vs : List Nat} {st st1 : SL} {l : List α} (dec : α → T) (F : α → T) (hf : f st = .ok (l.map dec) st1) (hl : l.length ≤ 16777216)
    (h : ∀ a, a ∈ l → ∃ st2, g (dec a) (wipeL st1 vs) = some st2 ∧ wipeL st2 vs = wipeL st1 vs ∧ te st2 = .ok (F a) st2) {st9 : SL} (hb : backL st1 vs (wipeL (wipeL st1 vs) vs) = st9) : eLc f g tYesB te vs st = .ok (.lst true (l.map F)) st9 := by
  rw [ap_eLc, hf]
  show (match lcL g tYesB te vs (l.map dec) [] (wipeL st1 vs) with
    | .ok acc st1' => R.ok (T.lst true acc) (backL st1 vs (wipeL st1' vs))
    | _ => R.no) = _
  rw [lcL_all1 dec F (szN _ hl) h, ← hb]
/-- [e for x in xs if t] -/
theorem lc_flt {α : Type} {f : SI} {g : TS'} {tt : ST} {te : SE} {vs : List Nat} {st st1 : SL} {l : List α} (dec : α → T) (p : α → Bool) (F : α → T) (hf : f st = .ok (l.map dec) st1) (hl : l.length ≤ 16777216)
    (h : ∀ a, a ∈ l → ∃ st2, g (dec a) (wipeL st1 vs) = some st2 ∧ wipeL st2 vs = wipeL st1 vs ∧ tt st2 = .ok (p a) st2 ∧ te st2 = .ok (F a) st2) {st9 : SL} (hb : backL st1 vs (wipeL (wipeL st1 vs) vs) = st9) : eLc f g tt te vs st = .ok (.lst true ((l.filter p).map F)) st9 := by
  rw [ap_eLc, hf]
  show (match lcL g tt te vs (l.map dec) [] (wipeL st1 vs) with
    | .ok acc st1' => R.ok (T.lst true acc) (backL st1 vs (wipeL st1' vs))
    | _ => R.no) = _
  rw [lcL_eq1 dec p F (szN _ hl) h, ← hb]
/-- .. that draws as it goes -/
theorem lc_inv {f : SI} {g : TS'} {te : SE} {vs : List Nat} {st st1 : SL} {ts : List T} (I : List T → SL → Prop) (hf : f st = .ok ts st1) (hl : ts.length ≤ 16777216) (h0 : I [] (wipeL st1 vs))
    (h : ∀ i t acc st, ts[i]? = some t → acc.length = i → I acc st → ∃ st2 y st3, g t st = some st2 ∧ te st2 = .ok y st3 ∧ I (acc ++ [y]) (wipeL st3 vs)) :
    ∃ acc st2, I acc st2 ∧ acc.length = ts.length ∧ eLc f g tYesB te vs st = .ok (.lst true acc) (backL st1 vs (wipeL st2 vs)) := by
  have key : ∀ (us : List T) (acc : List T) (st : SL), (∀ i t, us[i]? = some t → ts[acc.length + i]? = some t) → acc.length + us.length = ts.length → I acc st → ∃ acc2 st2, I acc2 st2 ∧ acc2.length = ts.length ∧ lcL g tYesB te vs us acc st = .ok acc2 st2 := by
    intro us
    induction us with
    | nil => exact fun acc st _ hn hI => ⟨acc, st, hI, by simpa using hn, rfl⟩
    | cons t us ih =>
      intro acc st hg hn hI
      obtain ⟨st2, y, st3, e1, e2, h3⟩ := h acc.length t acc st (by simpa using hg 0 t rfl) rfl hI
      obtain ⟨acc2, st4, q1, q2, q3⟩ := ih (acc ++ [y]) (wipeL st3 vs) (fun i t hi => by
        have z := hg (i + 1) t (by simpa using hi)
        rw [List.length_append, List.length_singleton, show acc.length + 1 + i = acc.length + (i + 1) by omega]
        exact z) (by rw [List.length_append, List.length_singleton]; rw [List.length_cons] at hn; omega) h3
      refine ⟨acc2, st4, q1, q2, ?_⟩
      show (match g t st with
        | none => R.no
        | some st1 => match tYesB st1 with
          | .ok true st2 => match te st2 with
            | .ok y st3 => if decide (acc.length < sizeLine) then lcL g tYesB te vs us (acc ++ [y]) (wipeL st3 vs) else R.no
            | _ => R.no
          | .ok false st2 => lcL g tYesB te vs us acc (wipeL st2 vs)
          | _ => R.no) = _
      rw [e1]
      show (match te st2 with
            | .ok y st3 => if decide (acc.length < sizeLine) then lcL g tYesB te vs us (acc ++ [y]) (wipeL st3 vs) else R.no
            | _ => R.no) = _
      rw [e2]
      show (if decide (acc.length < sizeLine) = true then lcL g tYesB te vs us (acc ++ [y]) (wipeL st3 vs) else R.no) = _
      rw [List.length_cons] at hn
      rw [if_pos (decide_eq_true (szL _ (by omega)))]
      exact q3
  obtain ⟨acc, st2, q1, q2, q3⟩ := key ts [] (wipeL st1 vs) (fun i t hi => by simpa using hi) (by simp) h0
  refine ⟨acc, st2, q1, q2, ?_⟩
  rw [ap_eLc, hf]
  show (match lcL g tYesB te vs ts [] (wipeL st1 vs) with
    | .ok acc st1' => R.ok (T.lst true acc) (backL st1 vs (wipeL st1' vs))
    | _ => R.no) = _
  rw [q3]
end
end Ev
namespace Ev
noncomputable section
open PySem PySem.Spec PyProof.Rows L2
@[simp] theorem frzL_app (a b : List T) : frzL (a ++ b) = (frzL a && frzL b) := frzL_append a b
@[simp] theorem fzL_app (a b : List T) : fzL (a ++ b) = fzL a ++ fzL b := by rw [fzL_map, fzL_map, fzL_map, List.map_append]
/-- .. where the walked thing is frozen -/
theorem lc_all0 {α : Type} {f : SI} {g : TS'} {te : SE} {vs : List Nat} {st : SL} {l : List α} (dec : α → T) (F : α → T) (hf : f st = .ok (l.map dec) st) (hl : l.length ≤ 16777216)
    (h : ∀ a, a ∈ l → match g (dec a) (wipeL st vs) with
      | some st2 => wipeL st2 vs = wipeL st vs ∧ te st2 = .ok (F a) st2
      | none => False) {st9 : SL} (hb : backL st vs (wipeL (wipeL st vs) vs) = st9) : eLc f g tYesB te vs st = .ok (.lst true (l.map F)) st9 := lc_all dec F hf hl (fun a ha => by
  have q := h a ha
  cases e : g (dec a) (wipeL st vs) with
  | none => rw [e] at q; exact q.elim
  | some st2 => rw [e] at q; exact ⟨st2, rfl, q.1, q.2⟩) hb
theorem lc_flt0 {α : Type} {f : SI} {g : TS'} {tt : ST} {te : SE} {vs : List Nat} {st : SL} {l : List α} (dec : α → T) (p : α → Bool) (F : α → T) (hf : f st = .ok (l.map dec) st) (hl : l.length ≤ 16777216)
    (h : ∀ a, a ∈ l → match g (dec a) (wipeL st vs) with
      | some st2 => wipeL st2 vs = wipeL st vs ∧ tt st2 = .ok (p a) st2 ∧ te st2 = .ok (F a) st2
      | none => False) {st9 : SL} (hb : backL st vs (wipeL (wipeL st vs) vs) = st9) : eLc f g tt te vs st = .ok (.lst true ((l.filter p).map F)) st9 := lc_flt dec p F hf hl (fun a ha => by
  have q := h a ha
  cases e : g (dec a) (wipeL st vs) with
  | none => rw [e] at q; exact q.elim
  | some st2 => rw [e] at q; exact ⟨st2, rfl, q.1, q.2⟩) hb
end
end Ev

/-! EvStr: texts walked, told over, joined, times a number; a sign in a text; tuples of the module's top. -/
namespace Ev
noncomputable section
open PySem PySem.Spec PyProof.Rows L2

/-! ### signs of a text -/
def sgT (c : Nat) : T := .str ⟨#[c]⟩
def itStr : T → Option (List T)
  | .str x => some (x.cps.toList.map sgT)
  | _ => none
theorem frzL_sgs (cs : List Nat) : frzL (cs.map sgT) = true := by
  induction cs with
  | nil => rfl
  | cons c cs ih => exact ih
theorem it_str {K : PySem.W.Frag} {G : AS} {H : Hp} (x : Str) : ItOk K G H (Its x) (x.cps.toList.map sgT) := fun H2 k => by
  refine ⟨show x.cps.size ≤ (x.cps.toList.map sgT).length by simp, fun i t e => ?_⟩
  rw [List.getElem?_map] at e
  cases q : x.cps.toList[i]? with
  | none => rw [q] at e; cases e
  | some c =>
    rw [q] at e
    cases e
    have q2 : x.cps[i]? = some c := by simpa using q
    refine ⟨show i < x.cps.size from (Array.getElem?_eq_some_iff.mp q2).1, fun y H3 z => ?_⟩
    obtain ⟨rfl, c', hc', rfl⟩ := z
    rw [q2] at hc'
    cases hc'
    exact ⟨fun _ _ => rfl, NoA, fun _ z => z.elim, rfl⟩
theorem sim_istr {X : Cx} {tg l : Expr} {f : SU} (h : SimU X l f) : SimI X tg l (iOf itStr f) := fun Wx tk => PI.imp (pi_str (h Wx tk)) fun σ H R q =>
  (items_core q).imp fun v H1 ⟨G, F, S, t, ts, w, r, fr, e, k⟩ => by
    cases t with
    | str x =>
      cases e
      exact ⟨x, r, k _ (it_str x) (frzL_sgs _)⟩
    | _ => cases e
def itAll (t : T) : Option (List T) := (itAny t).or (itStr t)
theorem sim_iall {X : Cx} {tg l : Expr} {f : SU} (h : SimU X l f) : SimI X tg l (iOf itAll f) := sim_ior (sim_iany h) (sim_istr h)
@[simp] theorem itAll_lst (o : Bool) (xs : List T) : itAll (.lst o xs) = some (fzL xs) := rfl
@[simp] theorem itAll_tup (xs : List T) : itAll (.tup xs) = some (fzL xs) := rfl
@[simp] theorem itAll_scr (xs : List Int) : itAll (.scr xs) = some (xs.map .int) := rfl
@[simp] theorem itAll_str (x : Str) : itAll (.str x) = some (x.cps.toList.map sgT) := rfl

/-! ### in -/
/-- in a list; a sign in a text -/
def pInX (neg : Bool) : List T → Option T
  | [.str ⟨⟨[c]⟩⟩, .str z] => some (.bl (if neg then !decide (c ∈ z.cps.toList) else decide (c ∈ z.cps.toList)))
  | ts => pIn neg ts
def rSgn (neg : Bool) : R2 := fun x y H Q => ∃ (c : Nat) (z : Str), x = .str ⟨#[c]⟩ ∧ y = .str z ∧ Q (.bl (if neg then !decide (c ∈ z.cps.toList) else decide (c ∈ z.cps.toList))) H
theorem op_inX {X : Cx} (hu : X.A.units + 65 < cLine) : OpR X (compareOp .In) (fun x y H Q => rInD X.K x y H Q ∨ rSgn false x y H Q) := OpR.or (op_inD hu) op_in_sign
theorem op_notInX {X : Cx} (hu : X.A.units + 65 < cLine) : OpR X (compareOp .NotIn) (fun x y H Q => rNotInD X.K x y H Q ∨ rSgn true x y H Q) := OpR.or (op_notInD hu) op_notIn_sign
theorem pr_inX {K : PySem.W.Frag} : Pr K (on2 fun x y H Q => rInD K x y H Q ∨ rSgn false x y H Q) (pInX false) := fun G F S H ts vs t Q w o e k => by
  unfold pInX at e
  split at e
  · rename_i c z
    cases e
    obtain ⟨v, u, S1, S2, rfl, _, _, r1, r2⟩ := ops2 o
    exact .inr ⟨c, z, r1, r2, old w (t := .bl _) rfl k⟩
  · have q := pr_in G F S H ts vs t Q w o e k
    unfold on2 at q ⊢
    split at q
    · exact .inl q
    · exact q.elim
theorem pr_notInX {K : PySem.W.Frag} : Pr K (on2 fun x y H Q => rNotInD K x y H Q ∨ rSgn true x y H Q) (pInX true) := fun G F S H ts vs t Q w o e k => by
  unfold pInX at e
  split at e
  · rename_i c z
    cases e
    obtain ⟨v, u, S1, S2, rfl, _, _, r1, r2⟩ := ops2 o
    exact .inr ⟨c, z, r1, r2, old w (t := .bl _) rfl k⟩
  · have q := pr_notIn G F S H ts vs t Q w o e k
    unfold on2 at q ⊢
    split at q
    · exact .inl q
    · exact q.elim
@[simp] theorem p_inSg (neg : Bool) (c : Nat) (z : Str) : pInX neg [sgT c, .str z] = some (.bl (if neg then !decide (c ∈ z.cps.toList) else decide (c ∈ z.cps.toList))) := rfl
theorem p_inXL (neg : Bool) (t : T) (o : Bool) (xs : List T) : pInX neg [t, .lst o xs] = pIn neg [t, .lst o xs] := by
  unfold pInX
  split
  · rename_i h
    cases h
  · rfl

/-! ### a text times a number -/
def timesS (x : Str) (k : Int) : Str := if k < 1 then Str.empty else if (k == 1 || x.length == 0) = true then x else ⟨(List.replicate k.toNat x.cps).foldl (· ++ ·) #[]⟩
def pMulX : List T → Option T
  | [.str x, .int k] => if leC (-(2 ^ 62)) k && (ltC k (2 ^ 31) && (leC ((x.length : Int) * k) 16777216 && leC ((x.length : Int)) 16777216)) then some (.str (timesS x k)) else none
  | ts => pMul ts
def rMulS : R2 := fun x y H Q => ∃ z k, x = .str z ∧ y = .int k ∧ -(2 ^ 62) ≤ k ∧ k < 2 ^ 31 ∧ (z.length : Int) * k ≤ 16777216 ∧ (z.length : Int) ≤ 16777216 ∧ Q (.str (timesS z k)) H
theorem cat_size (a : Array Nat) : ∀ (n : Nat) (b : Array Nat), ((List.replicate n a).foldl (· ++ ·) b).size = b.size + n * a.size
  | 0, b => by simp
  | n + 1, b => by
    rw [List.replicate_succ, List.foldl_cons, cat_size a n (b ++ a), Array.size_append, Nat.add_mul, Nat.one_mul]
    omega
theorem empty_sz : Str.empty.length ≤ sizeLine := by rw [sizeLine_eq]; exact Nat.zero_le _
theorem op_mulS {X : Cx} : OpR X (binaryOp .Mult) rMulS := by
  intro pins s σ H x y v u Q I rx ry h
  obtain ⟨z, k, rfl, rfl, k0, k1, hl, hz, q⟩ := h
  obtain ⟨t, rfl⟩ := rx
  obtain ⟨t', rfl⟩ := ry
  have hn : ¬ k < 1 → z.length * k.toNat ≤ 16777216 := fun h1 => by
    have : ((z.length * k.toNat : Nat) : Int) = (z.length : Int) * k := by
      rw [Int.natCast_mul, Int.toNat_of_nonneg (by omega)]
    omega
  refine PySem.P.mul_str ?_ (fun h1 h2 => ?_) (fun h1 h2 => ?_) ?_
  · rw [decide_eq_false (by omega), decide_eq_false (by omega)]
    rfl
  · have kp : 0 < k := by omega
    intro hc
    have e : (z.length : Int) ≤ (2 ^ 63 - 1) / k := (Int.le_ediv_iff_mul_le kp).mpr (by omega)
    omega
  · have := hn h1
    show decide _ = false
    refine decide_eq_false ?_
    rw [sizeLine_eq]
    omega
  · unfold timesS at q
    by_cases c1 : k < 1
    · rw [if_pos c1] at q ⊢
      exact ⟨empty_sz, ⟨.str Str.empty, H, I.tok _, ⟨_, rfl⟩, q⟩⟩
    · rw [if_neg c1] at q ⊢
      by_cases c2 : (k == 1 || z.length == 0) = true
      · rw [if_pos c2] at q ⊢
        exact ⟨.str z, H, I, ⟨t, rfl⟩, q⟩
      · rw [if_neg c2] at q ⊢
        refine ⟨?_, ⟨.str _, H, I.tok _, ⟨_, rfl⟩, q⟩⟩
        show ((List.replicate k.toNat z.cps).foldl (· ++ ·) #[]).size ≤ sizeLine
        rw [cat_size, sizeLine_eq]
        have := hn c1
        have e : k.toNat * z.cps.size = z.length * k.toNat := Nat.mul_comm ..
        simp
        omega
theorem op_mulAX {X : Cx} : OpR X (binaryOp .Mult) (fun x y H Q => rMulA x y H Q ∨ rMulS x y H Q) := OpR.or op_mulA op_mulS
theorem pr_mulX {K : PySem.W.Frag} : Pr K (on2 fun x y H Q => rMulA x y H Q ∨ rMulS x y H Q) pMulX := fun G F S H ts vs t Q w o e k => by
  unfold pMulX at e
  split at e
  · rename_i z i
    split at e
    · rename_i hc
      cases e
      obtain ⟨h1, hc⟩ := Bool.and_eq_true_iff.mp hc
      obtain ⟨h2, hc⟩ := Bool.and_eq_true_iff.mp hc
      obtain ⟨h3, h4⟩ := Bool.and_eq_true_iff.mp hc
      obtain ⟨v, u, S1, S2, rfl, _, _, r1, r2⟩ := ops2 o
      exact .inr ⟨z, i, r1, r2, of_leC h1, of_ltC h2, of_leC h3, of_leC h4, old w (t := .str (timesS z i)) rfl k⟩
    · cases e
  · have q := pr_mul G F S H ts vs t Q w o e k
    unfold on2 at q ⊢
    split at q
    · exact .inl q
    · exact q.elim
theorem sim_mulX {X : Cx} {a b : Expr} {f g : SU} {pos : Pos} (h1 : SimU X a f) (h2 : SimU X b g) : SimE X (.BinOp a .Mult b pos) (eP pMulX (aCons f (aCons g aNil))) := sim_p2 pr_mulX h1 h2 fun _ _ p q => pe_op op_mulAX p q
theorem p_mulXI (a b : Int) : pMulX [.int a, .int b] = pMul [.int a, .int b] := rfl
theorem p_mulXL (o : Bool) (xs : List T) (b : T) : pMulX [.lst o xs, b] = pMul [.lst o xs, b] := by
  unfold pMulX
  split
  · rename_i h; cases h
  · rfl
theorem p_mul0 (x : Str) (h : x.length ≤ 100) : pMulX [.str x, .int 0] = some (.str Str.empty) := by
  have e : pMulX [.str x, .int 0] = if (leC (-(2 ^ 62)) 0 && (ltC 0 (2 ^ 31) && (leC ((x.length : Int) * 0) 16777216 && leC ((x.length : Int)) 16777216))) = true then some (.str (timesS x 0)) else none := by
    unfold pMulX
    rfl
  rw [e, leC_of (by decide), ltC_of (by decide), leC_of (by omega), leC_of (by omega)]
  rfl
theorem p_mul1 (x : Str) (h : x.length ≤ 100) : pMulX [.str x, .int 1] = some (.str x) := by
  have e : pMulX [.str x, .int 1] = if (leC (-(2 ^ 62)) 1 && (ltC 1 (2 ^ 31) && (leC ((x.length : Int) * 1) 16777216 && leC ((x.length : Int)) 16777216))) = true then some (.str (timesS x 1)) else none := by
    unfold pMulX
    rfl
  rw [e, leC_of (by decide), ltC_of (by decide), leC_of (by omega), leC_of (by omega)]
  rfl

/-! ### join -/
def uStr (f : SU) : SU := fun st => (f st).bind fun u st => match u.get st with
  | some (.str _) => .ok u st
  | _ => .no
theorem str_core {K : PySem.W.Frag} {Wx : WX} {f : SU} {σ : L2.St} {H : Hp} {Q : VK} (h : RdU K Wx (uStr f) σ H Q) : RdU K Wx f σ H fun v H1 => (∃ a, v = .str a) ∧ Q v H1 := by
  obtain ⟨G, F, S, st, w, r, p⟩ := h
  unfold uStr at p
  refine step_u w r (fun u st1 e1 v H1 G1 S1 S2 x1 w1 d1 r1 a1 => ?_) (fun x st1 e1 => ?_) (fun e1 => ?_)
  · rw [e1] at p
    have p1 : PostU K Wx G F H σ Q (match u.get st1 with
      | some (.str _) => .ok u st1
      | _ => .no) := p
    have hv : ∀ t, u.get st1 = some t → ∃ A, Rp K G1 H1 t v A := fun t e => by
      cases u with
      | v t' => cases e; exact ⟨S2, a1⟩
      | s i =>
        obtain ⟨v', C, D, k1, k2, k3, _⟩ := r1.get (join_some e)
        have k4 : σ[i]? = some (some v) := a1
        rw [k4] at k1
        cases k1
        exact ⟨C, k2⟩
    split at p1
    · rename_i z e2
      obtain ⟨A, ra⟩ := hv _ e2
      exact ⟨⟨z, ra⟩, p1 v H1 G1 S1 S2 x1 w1 d1 r1 a1⟩
    · exact p1.elim
  · rw [e1] at p
    exact p
  · rw [e1] at p
    exact p
def strsT : List T → Option (List Str)
  | [] => some []
  | .str x :: ts => (strsT ts).map (x :: ·)
  | _ => none
theorem strsT_map : ∀ ys : List Str, strsT (ys.map .str) = some ys
  | [] => rfl
  | y :: ys => by
    show (strsT (ys.map .str)).map (y :: ·) = _
    rw [strsT_map ys]
    rfl
theorem strsT_rp {K : PySem.W.Frag} {G : AS} {H : Hp} : ∀ {ts : List T} {ys : List Str} {vs : List V} {S : AS}, strsT ts = some ys → RpL K G H ts vs S → vs = ys.map V.str
  | [], ys, vs, _, e, r => by cases e; exact r
  | .str x :: ts, ys, vs, _, e, ⟨v, vr, S1, S2, h1, h2, h3, _⟩ => by
    have e' : (strsT ts).map (x :: ·) = some ys := e
    cases q : strsT ts with
    | none => rw [q] at e'; cases e'
    | some zs =>
      rw [q] at e'
      cases e'
      rw [h1, strsT_rp q h3, show v = .str x from h2]
      rfl
  | .non :: _, _, _, _, e, _ | .bl _ :: _, _, _, _, e, _ | .int _ :: _, _, _, _, e, _ | .ty _ :: _, _, _, _, e, _ | .cls _ :: _, _, _, _, e, _ | .scr _ :: _, _, _, _, e, _ | .tup _ :: _, _, _, _, e, _ | .lst _ _ :: _, _, _, _, e, _ | .obj _ _ _ :: _, _, _, _, e, _ | .dic _ _ _ :: _, _, _, _, e, _ | .dit _ _ _ :: _, _, _, _, e, _ => by cases e
def joinOk (a : Str) (ys : List Str) : Bool := leN ((ys.map (·.length)).sum + ys.length * a.length) 16777216
def pJoin : List T → Option T
  | [.str a, .lst _ ts] => (match strsT ts with
    | some ys => if joinOk a ys then some (.str (Txt.join a ys)) else none
    | none => none)
  | [.str a, .tup ts] => (match strsT ts with
    | some ys => if joinOk a ys then some (.str (Txt.join a ys)) else none
    | none => none)
  | _ => none
def rJoinS (K : PySem.W.Frag) : R2 := fun x y H Q => ∃ a p, ∃ ys : List Str, x = .str a ∧ [y] = [V.ref p] ∧ (SqL K H p (ys.map V.str) ∨ SqT K H p (ys.map V.str)) ∧ (ys.map (·.length)).sum + ys.length * a.length ≤ 16777216 ∧ Q (.str (Txt.join a ys)) H
theorem pr_join {K : PySem.W.Frag} : Pr K (on2 (rJoinS K)) pJoin := fun G F S H ts vs t Q w o e k => by
  unfold pJoin at e
  split at e
  · rename_i a ob us
    split at e
    · rename_i ys q
      split at e
      · rename_i hc
        cases e
        obtain ⟨v, u, S1, S2, rfl, _, _, r1, r2⟩ := ops2 o
        obtain ⟨p, zs, rfl, hp, q1⟩ := lst_at r2
        rw [strsT_rp q q1] at hp
        exact ⟨a, p, ys, r1, rfl, .inl (.of hp), of_leN hc, old w (t := .str _) rfl k⟩
      · cases e
    · cases e
  · rename_i a us
    split at e
    · rename_i ys q
      split at e
      · rename_i hc
        cases e
        obtain ⟨v, u, S1, S2, rfl, _, _, r1, r2⟩ := ops2 o
        obtain ⟨p, zs, rfl, hp, q1⟩ := r2
        rw [strsT_rp q q1] at hp
        exact ⟨a, p, ys, r1, rfl, .inr hp.seq, of_leN hc, old w (t := .str _) rfl k⟩
      · cases e
    · cases e
  · cases e
theorem sim_join {X : Cx} {o e : Expr} {f g : SU} {apos pos : Pos} (ho : SimU X o f) (he : SimU X e g) (hs : starEach [e] X.env = [(false, eval e X.env)] := by rfl) (hbase : attributeBase o "join" X.env (eval o X.env) = eval o X.env := by rfl) (hline : (apos.endLine == pos.line) = true := by rfl) :
    SimE X (.Call (.Attribute o "join" apos) [e] [] pos) (eP pJoin (aCons (uStr f) (aCons g aNil))) := fun Wx tk => PE.imp (pe_join (ho Wx tk) (he Wx tk) hs hbase hline) fun σ H Q q =>
  (str_core (two_core (prim_core (r := on2 (rJoinS X.K)) pr_join q))).imp fun v H1 ⟨h1, h2⟩ => ⟨h1, h2⟩
theorem p_joinL (a : Str) (o : Bool) (ys : List Str) (h : (ys.map (·.length)).sum + ys.length * a.length ≤ 16777216) : pJoin [.str a, .lst o (ys.map .str)] = some (.str (Txt.join a ys)) := by
  unfold pJoin
  show (match strsT (ys.map .str) with
    | some ys => if joinOk a ys then some (T.str (Txt.join a ys)) else none
    | none => none) = _
  rw [strsT_map]
  show (if joinOk a ys = true then some (T.str (Txt.join a ys)) else none) = _
  rw [if_pos (show joinOk a ys = true from leN_of h)]

/-! ### tuples of the module's top -/
/-- a tree's value at the top -/
def dvT : He.Dv → Option T
  | .non => some .non
  | .bl b => some (.bl b)
  | .int i => some (.int i)
  | .str x => some (.str x)
  | .ty n => some (.ty n)
  | _ => none
theorem rp_glo {K : PySem.W.Frag} {G : AS} {H : Hp} {ts : List T} {ds : List He.Dv} {a : Addr} (h : SqT K (fun _ => none) a (ds.map (He.Dv.v K))) (e : ds.mapM dvT = some ts) : Rp K G H (.tup ts) (.ref a) NoA := by
  have key : ∀ {ds : List He.Dv} {ts : List T}, ds.mapM dvT = some ts → RpL K G H ts (ds.map (He.Dv.v K)) NoA := by
    intro ds
    induction ds with
    | nil =>
      intro ts e
      rw [List.mapM_nil] at e
      cases e
      rfl
    | cons d ds ih =>
      intro ts e
      rw [List.mapM_cons] at e
      cases q : dvT d with
      | none => rw [q] at e; cases e
      | some t =>
        cases q2 : ds.mapM dvT with
        | none => rw [q, q2] at e; cases e
        | some tr =>
          rw [q, q2] at e
          cases e
          refine ⟨_, _, NoA, NoA, rfl, ?_, ih q2, fun _ z => z, fun _ z => z, fun _ z => z.elim⟩
          cases d <;> first | (cases q; rfl) | cases q
  rcases h with h | h
  · rcases h with h | ⟨_, h⟩ <;> cases h
  · exact ⟨a, _, rfl, .inr h, key e⟩
theorem sim_globT {X : Cx} {x : Str} {pos : Pos} {ts : List T} {ds : List He.Dv} (hg : Gl X x) (hm : X.mg x = some (.ref (He.ga X.K x))) (h : He.tupB X.K x ds = true) (e : ds.mapM dvT = some ts) (hd : (x == ("__debug__" : Str)) = false := by decide) : SimE X (.Name x pos) (eC (.tup ts)) := fun Wx _ =>
  PE.imp (pe_glob (v := .ref (He.ga X.K x)) hg hm rfl hd) fun σ H Q ⟨G, F, S, st, w, r, p⟩ =>
    p _ H G S NoA Ext.refl (w.less (fun _ z => z) fun _ z => z.elim id fun z => z.elim) (fun _ _ z => z.elim) r (rp_glo (He.tupB_ok h _) e)
/-- the head's facts, and one more test -/
def hookY (n : Nat) (fa : List He.Fa) (fn : List He.DefD) (ex : PySem.W.Frag → Bool) : PySem.W.Hook where
  α := He.AlD × Bool
  obs := fun s => (He.obsD fa fn (He.frG s.heap.get? (He.asD s.heap.get? n)), ex (He.frG s.heap.get? (He.asD s.heap.get? n)))
  val := fun _ => (He.valD fn, true)
  says := fun _ h => ∃ K : PySem.W.Frag, K.In h ∧ He.SaysD fa fn K ∧ ex K = true
  of := fun _ _ e => ⟨_, He.frG_in, congrArg Prod.fst e, congrArg Prod.snd e⟩
  keeps := fun _ _ _ ⟨K, hK, c⟩ k => ⟨K, PySem.W.Frag.In.keeps hK k, c⟩
def obsYG (n : Nat) (fa : List He.Fa) (fn : List He.DefD) (ex : PySem.W.Frag → Bool) (g : Addr → Option Obj) : He.AlD × Bool := (He.obsD fa fn (He.frG g (He.asD g n)), ex (He.frG g (He.asD g n)))
theorem obsYG_eq {n : Nat} {fa : List He.Fa} {fn : List He.DefD} {ex : PySem.W.Frag → Bool} {g : Addr → Option Obj} {s : Shared} (h : ∀ a, g a = s.heap.get? a) : obsYG n fa fn ex g = (hookY n fa fn ex).obs s := by
  have e : g = s.heap.get? := funext h
  rw [e] <;> rfl
end
end Ev

/-! EvDict: dicts of ints and texts as keys, what they hold frozen. -/
namespace Ev
noncomputable section
open PySem PySem.Spec PyProof.Rows L2

def keyT : T → Option Key
  | .int i => some (.inl i)
  | .str s => some (.inr s)
  | _ => none
def kT : Key → T
  | .inl i => .int i
  | .inr s => .str s
section
variable {K : PySem.W.Frag} {G F S : AS} {H : Hp}
theorem keyT_v {t : T} {k : Key} {v : V} {S : AS} (h : keyT t = some k) (r : Rp K G H t v S) : v = kV k := by
  cases t <;> first | cases h | skip
  · exact r
  · exact r
theorem rp_kT (k : Key) (S : AS) : Rp K G H (kT k) (kV k) S := by cases k <;> exact rfl
end
/-! ### tables -/
def getG {β : Type} : List (Key × β) → Key → Option β
  | [], _ => none
  | p :: l, k => if p.1 = k then some p.2 else getG l k
/-- in its place, or at the end -/
def putG {β : Type} : List (Key × β) → Key → β → List (Key × β)
  | [], k, x => [(k, x)]
  | p :: l, k, x => if p.1 = k then (p.1, x) :: l.map (fun q => if q.1 = k then (q.1, x) else q) else p :: putG l k x
theorem valV_get : ∀ (l : List (Key × V)) (k : Key), valV l k = getG l k
  | [], _ => rfl
  | p :: l, k => by
    unfold getG
    by_cases e : p.1 = k
    · rw [if_pos e, valV_pos e]
    · rw [if_neg e, valV_neg e, valV_get l k]
theorem putK_put : ∀ (l : List (Key × V)) (k : Key) (x : V), putK l k x = putG l k x
  | [], _, _ => rfl
  | p :: l, k, x => by
    have ih := putK_put l k x
    unfold putG
    by_cases e : p.1 = k
    · rw [if_pos e]
      unfold putK
      rw [if_pos (by rw [List.any_cons, decide_eq_true e]; rfl), List.map_cons, if_pos e]
    · rw [if_neg e, ← ih]
      unfold putK
      rw [List.any_cons, decide_eq_false e, Bool.false_or]
      by_cases c : (l.any fun kv => decide (kv.1 = k)) = true
      · rw [if_pos c, if_pos c, List.map_cons, if_neg e]
      · rw [if_neg c, if_neg c]
        rfl
theorem zip_fs {α β : Type} : ∀ l : List (α × β), (l.map (·.1)).zip (l.map (·.2)) = l
  | [] => rfl
  | p :: l => by
    rw [List.map_cons, List.map_cons, List.zip_cons_cons, zip_fs l]
section
variable {K : PySem.W.Frag} {G F S : AS} {H : Hp}
/-- tables of the same keys, frozen -/
abbrev Pkv (K : PySem.W.Frag) (G : AS) (H : Hp) (a : List (Key × T)) (b : List (Key × V)) : Prop := Paired (fun p q => p.1 = q.1 ∧ Rp K G H p.2 q.2 NoA) a b
theorem pk_zip : ∀ {ks : List Key} {ts : List T} {vs : List V}, Cl K G H ts vs → Pkv K G H (ks.zip ts) (ks.zip vs)
  | [], _, _, _ => .nil
  | k :: ks, _, _, .nil => .nil
  | k :: ks, _, _, .cons h t => .cons ⟨rfl, h⟩ (pk_zip t)
theorem pk_get {a : List (Key × T)} {b : List (Key × V)} (h : Pkv K G H a b) (k : Key) : match getG a k with
    | some t => ∃ v, getG b k = some v ∧ Rp K G H t v NoA
    | none => getG b k = none := by
  induction h with
  | nil => exact rfl
  | @cons p q as bs h t ih =>
    obtain ⟨h1, h2⟩ := h
    unfold getG
    by_cases e : p.1 = k
    · rw [if_pos e, if_pos (h1.symm.trans e)]
      exact ⟨_, rfl, h2⟩
    · rw [if_neg e, if_neg (fun z => e (h1.trans z))]
      exact ih
theorem pk_repl {a : List (Key × T)} {b : List (Key × V)} (h : Pkv K G H a b) (k : Key) {t : T} {v : V} (r : Rp K G H t v NoA) : Pkv K G H (a.map fun q => if q.1 = k then (q.1, t) else q) (b.map fun q => if q.1 = k then (q.1, v) else q) := by
  induction h with
  | nil => exact .nil
  | @cons p q as bs h tl ih =>
    obtain ⟨h1, h2⟩ := h
    rw [List.map_cons, List.map_cons]
    refine .cons ?_ ih
    by_cases e : p.1 = k
    · rw [if_pos e, if_pos (h1.symm.trans e)]; exact ⟨h1, r⟩
    · rw [if_neg e, if_neg (fun z => e (h1.trans z))]; exact ⟨h1, h2⟩
theorem pk_put {a : List (Key × T)} {b : List (Key × V)} (h : Pkv K G H a b) (k : Key) {t : T} {v : V} (r : Rp K G H t v NoA) : Pkv K G H (putG a k t) (putG b k v) := by
  induction h with
  | nil => exact .cons ⟨rfl, r⟩ .nil
  | @cons p q as bs h tl ih =>
    obtain ⟨h1, h2⟩ := h
    unfold putG
    by_cases e : p.1 = k
    · rw [if_pos e, if_pos (h1.symm.trans e)]; exact .cons ⟨h1, r⟩ (pk_repl tl k r)
    · rw [if_neg e, if_neg (fun z => e (h1.trans z))]; exact .cons ⟨h1, h2⟩ ih
theorem pk_keys {a : List (Key × T)} {b : List (Key × V)} (h : Pkv K G H a b) : a.map (·.1) = b.map (·.1) := by
  induction h with
  | nil => rfl
  | @cons p q as bs h tl ih => rw [List.map_cons, List.map_cons, ih, h.1]
theorem pk_vals {a : List (Key × T)} {b : List (Key × V)} (h : Pkv K G H a b) : Cl K G H (a.map (·.2)) (b.map (·.2)) := by
  induction h with
  | nil => exact .nil
  | @cons p q as bs h tl ih => exact .cons h.2 ih
theorem Pkv.keep {G' : AS} {H' : Hp} {a : List (Key × T)} {b : List (Key × V)} (h : Pkv K G H a b) (g : ∀ a, G a → G' a) (e : ∀ a, G a → H' a = H a) : Pkv K G' H' a b :=
  L2.Paired.mapP h fun p _ q => ⟨q.1, Rp.keep p.2 q.2 g fun a z => z.elim (e a) fun z => z.elim⟩
/-- a dict of a table -/
def dicT (o : Bool) (l : List (Key × T)) : T := .dic o (l.map (·.1)) (l.map (·.2))
theorem frz_dicT (l : List (Key × T)) : frz (dicT false l) = frzL (l.map (·.2)) := by
  show (!false && frzL (l.map (·.2))) = _
  rfl
theorem new_dic {a : List (Key × T)} {b : List (Key × V)} {Q : VK} (w : Wd G F S H) (c : Pkv K G H a b) (k : ∀ v G' Sn H', New G H G' Sn H' → Rp K G' H' (dicT true a) v Sn → Q v H') : ∀ p, H p = none → Q (.ref p) (upd H p (.dK b)) := fun p np => by
  have n := New.own (o := .dK b) w np
  have c2 : Pkv K G (upd H p (.dK b)) a b := c.keep n.sub fun a q => n.keep a (w.dG a q)
  refine k _ _ _ _ n ⟨p, b.map (·.2), rfl, ?_, by rw [List.length_map, List.length_map], rfl, of_cl (pk_vals c2)⟩
  rw [pk_keys c, zip_fs]
  exact upd_same
/-- what is read of a dict -/
theorem dic_at {o : Bool} {ks : List Key} {ts : List T} {v : V} (r : Rp K G H (.dic o ks ts) v S) : ∃ a vs S', v = .ref a ∧ H a = some (.dK (ks.zip vs)) ∧ RpL K G H ts vs S' := by
  obtain ⟨a, vs, h1, h2, h3, h4⟩ := r
  cases o
  · exact ⟨a, vs, _, h1, h2, h4.2⟩
  · exact ⟨a, vs, _, h1, h2, h4.2⟩
end
/-! ### dict(pairs), list(d), {} -/
def kpT : List T → Option (List (Key × T))
  | [] => some []
  | .tup [t, u] :: l => match keyT t, kpT l with
    | some k, some r => if frz u then some ((k, u) :: r) else none
    | _, _ => none
  | _ => none
def mergeG (l : List (Key × T)) : List (Key × T) := l.foldl (fun acc p => putG acc p.1 p.2) []
def pDict : List T → Option T
  | [.lst _ ts] => (kpT ts).map fun l => dicT true (mergeG l)
  | _ => none
def rDict (K : PySem.W.Frag) : List V → Hp → VK → Prop := fun xs H Q => ∃ (a : Addr) (ps : List Addr) (kvs : List (Key × V)), xs = [.ref a] ∧ SqL K H a (ps.map V.ref) ∧ Paired (fun p kv => SqT K H p [kV kv.1, kv.2]) ps kvs ∧ ∀ p, H p = none → Q (.ref p) (upd H p (.dK (mergeK [] kvs)))
theorem kp_at {K : PySem.W.Frag} {G : AS} {H : Hp} : ∀ {ts : List T} {vs : List V} {S : AS} {l : List (Key × T)}, kpT ts = some l → RpL K G H ts vs S → ∃ (ps : List Addr) (kvs : List (Key × V)), vs = ps.map V.ref ∧ Paired (fun p kv => SqT K H p [kV kv.1, kv.2]) ps kvs ∧ Pkv K G H l kvs
  | [], vs, S, l, h, r => by
    cases h
    rw [show vs = [] from r]
    exact ⟨[], [], rfl, .nil, .nil⟩
  | x :: ts, vs, S, l, h, r => by
    unfold kpT at h
    split at h
    · rename_i e
      cases e
    · rename_i t u l0 e
      cases e
      split at h
      · rename_i k r0 hk hr
        split at h
        · rename_i fu
          cases h
          obtain ⟨v, vr, S1, S2, rfl, ⟨p, zs, rfl, hp, hz⟩, r2, _⟩ := r
          obtain ⟨v1, w1, A, B, rfl, q1, q2, _⟩ := hz
          obtain ⟨v2, w2, A2, B2, rfl, q3, q4, _⟩ := q2
          rw [show w2 = [] from q4] at hp
          rw [keyT_v hk q1] at hp
          obtain ⟨ps, kvs, e1, e2, e3⟩ := kp_at hr r2
          exact ⟨p :: ps, (k, v2) :: kvs, by rw [e1]; rfl, .cons hp.seq e2, .cons ⟨rfl, Rp.cold u NoA fu q3⟩ e3⟩
        · cases h
      · cases h
    · cases h
theorem pk_merge {K : PySem.W.Frag} {G : AS} {H : Hp} : ∀ {l : List (Key × T)} {kvs : List (Key × V)} {a : List (Key × T)} {b : List (Key × V)}, Pkv K G H l kvs → Pkv K G H a b → Pkv K G H (l.foldl (fun acc p => putG acc p.1 p.2) a) (mergeK b kvs)
  | _, _, _, _, .nil, h => h
  | p :: l, q :: kvs, a, b, .cons hp t, h => by
    have e : mergeK b (q :: kvs) = mergeK (putG b p.1 q.2) kvs := by
      show mergeK (putK b q.1 q.2) kvs = _
      rw [putK_put, ← hp.1]
    rw [e]
    have z := pk_merge t (pk_put h p.1 hp.2)
    exact z
theorem pr_dict {K : PySem.W.Frag} : Pr K (rDict K) pDict := fun G F S H ts vs t Q w o e k => by
  unfold pDict at e
  split at e
  · rename_i ob us
    cases q : kpT us with
    | none => rw [q] at e; cases e
    | some l =>
      rw [q] at e
      cases e
      obtain ⟨v, S1, rfl, _, r1⟩ := ops1 o
      obtain ⟨p, zs, rfl, hp, q1⟩ := lst_at r1
      obtain ⟨ps, kvs, rfl, e2, e3⟩ := kp_at q q1
      exact ⟨p, ps, kvs, rfl, .of hp, e2, new_dic w (pk_merge e3 .nil) k⟩
  · cases e
def pListD : List T → Option T
  | [.dic _ ks ts] => if ks.length = ts.length then some (.lst true (ks.map kT)) else none
  | _ => none
def rListDk : List V → Hp → VK → Prop := fun xs H Q => ∃ (a : Addr) (kvs : List (Key × V)), xs = [.ref a] ∧ Rd H a (.dK kvs) ∧ ∀ p, H p = none → Q (.ref p) (upd H p (.lst (kvs.map fun kv => kV kv.1)))
theorem cl_keys {K : PySem.W.Frag} {G : AS} {H : Hp} : ∀ ks : List Key, Cl K G H (ks.map kT) (ks.map kV)
  | [] => .nil
  | k :: ks => .cons (rp_kT k NoA) (cl_keys ks)
theorem pr_listD {K : PySem.W.Frag} : Pr K rListDk pListD := fun G F S H ts vs t Q w o e k => by
  unfold pListD at e
  split at e
  · rename_i ob ks us
    split at e
    · rename_i hl
      cases e
      obtain ⟨v, S1, rfl, _, r1⟩ := ops1 o
      obtain ⟨a, zs, S', rfl, ha, q1⟩ := dic_at r1
      refine ⟨a, ks.zip zs, rfl, .inl ha, ?_⟩
      have e2 : (ks.zip zs).map (fun kv => kV kv.1) = ks.map kV := by
        have : (ks.zip zs).map (fun kv => kV kv.1) = ((ks.zip zs).map (·.1)).map kV := by rw [List.map_map]; rfl
        rw [this, List.map_fst_zip (by rw [hl, rpl_len q1]; exact Nat.le_refl _)]
      rw [e2]
      exact new_lst w (cl_keys ks) k
    · cases e
  · cases e
/-! ### d[k], k in d, d.get -/
def pDIx : List T → Option T
  | [.dic _ ks ts, t] => match keyT t with
    | some k => match getG (ks.zip ts) k with
      | some u => if frzL ts && frz u then some u else none
      | none => none
    | none => none
  | _ => none
def rDGet : R2 := fun x y H Q => ∃ a v, x = .ref a ∧ DGet H a y (some v) ∧ Q v H
theorem dic_get {K : PySem.W.Frag} {G S : AS} {H : Hp} {o : Bool} {ks : List Key} {ts : List T} {v : V} {k : Key} (f : frzL ts = true) (r : Rp K G H (.dic o ks ts) v S) : ∃ a, v = .ref a ∧ (match getG (ks.zip ts) k with
    | some t => ∃ u, DGet H a (kV k) (some u) ∧ Rp K G H t u NoA
    | none => DGet H a (kV k) none) := by
  obtain ⟨a, zs, S', rfl, ha, q1⟩ := dic_at r
  have g := pk_get (pk_zip (ks := ks) (cl_of f q1)) k
  refine ⟨a, rfl, ?_⟩
  have d := DGet.k (k := k) ha
  rw [valV_get] at d
  cases q : getG (ks.zip ts) k with
  | none => rw [q] at g; rw [show getG (ks.zip zs) k = none from g] at d; exact d
  | some t =>
    rw [q] at g
    obtain ⟨u, h1, h2⟩ := g
    rw [h1] at d
    exact ⟨u, d, h2⟩
theorem pr_dix {K : PySem.W.Frag} : Pr K (on2 rDGet) pDIx := fun G F S H ts vs t Q w o e k => by
  unfold pDIx at e
  split at e
  · rename_i ob ks us y
    split at e
    · rename_i key hk
      split at e
      · rename_i u hu
        split at e
        · rename_i hf
          cases e
          obtain ⟨f1, f2⟩ := Bool.and_eq_true_iff.mp hf
          obtain ⟨v, x, S1, S2, rfl, _, _, r1, r2⟩ := ops2 o
          obtain ⟨a, rfl, g⟩ := dic_get (k := key) f1 r1
          rw [hu] at g
          obtain ⟨z, g1, g2⟩ := g
          rw [keyT_v hk r2]
          exact ⟨a, z, rfl, g1, old w g2 k⟩
        · cases e
      · cases e
    · cases e
  · cases e
section
variable {X : Cx} {a b : Expr} {f g h : SU} {pos cpos apos : Pos}
theorem sim_dix (hu : X.A.units + 1 < cLine) (h1 : SimU X a f) (h2 : SimU X b g) (hs : NoSl b := by intro _ _; rfl) : SimE X (.Subscript a b pos) (eP pDIx (aCons f (aCons g aNil))) := sim_p2 pr_dix h1 h2 fun _ _ p q => pe_dget hu p q hs
end
def pDInO (neg : Bool) : List T → Option T
  | [t, .dic _ ks ts] => match keyT t with
    | some k => if frzL ts then some (.bl (if neg then !(getG (ks.zip ts) k).isSome else (getG (ks.zip ts) k).isSome)) else none
    | none => none
  | _ => none
def rDIn (neg : Bool) : R2 := fun y x H Q => ∃ a o, x = .ref a ∧ DGet H a y o ∧ Q (.bl (if neg then !o.isSome else o.isSome)) H
theorem pr_din {neg : Bool} {K : PySem.W.Frag} : Pr K (on2 (rDIn neg)) (pDInO neg) := fun G F S H ts vs t Q w o e k => by
  unfold pDInO at e
  split at e
  · rename_i y ob ks us
    split at e
    · rename_i key hk
      split at e
      · rename_i hf
        cases e
        obtain ⟨v, x, S1, S2, rfl, _, _, r1, r2⟩ := ops2 o
        obtain ⟨a, rfl, g⟩ := dic_get (k := key) hf r2
        rw [keyT_v hk r1]
        cases q : getG (ks.zip us) key with
        | none =>
          rw [q] at g k
          exact ⟨a, none, rfl, g, old w (t := .bl _) rfl k⟩
        | some u =>
          rw [q] at g k
          obtain ⟨z, g1, g2⟩ := g
          exact ⟨a, some z, rfl, g1, old w (t := .bl _) rfl k⟩
      · cases e
    · cases e
  · cases e
theorem op_din {X : Cx} (hu : X.A.units + 1 < cLine) : OpR X (compareOp .In) (rDIn false) := fun pins s σ H x y v u Q I rx ry ⟨a, o, ey, g, q⟩ => by
  subst ey
  cases ry
  exact d_in hu I g rx fun s3 I3 => ⟨.bl o.isSome, H, I3, rfl, q⟩
theorem op_dnotIn {X : Cx} (hu : X.A.units + 1 < cLine) : OpR X (compareOp .NotIn) (rDIn true) := fun pins s σ H x y v u Q I rx ry ⟨a, o, ey, g, q⟩ => by
  subst ey
  cases ry
  exact d_notIn hu I g rx fun s3 I3 => ⟨.bl (!o.isSome), H, I3, rfl, q⟩
/-! ### d[k] = t -/
def mDPut : FS
  | [t, .dic true ks ts, y] => match keyT y with
    | some k => if frz t && (frzL ts && decide (ks.length = ts.length ∧ ks.length < sizeLine)) then .ok .non [t, dicT true (putG (ks.zip ts) k t), y] else .no
    | none => .no
  | _ => .no
def rDPut : V → V → V → Hp → (Hp → Prop) → Prop := fun x v y H Q => ∃ a H4, x = .ref a ∧ DPut H a y v H4 ∧ Q H4
theorem ms_dput {K : PySem.W.Frag} {x o i : V} {H : Hp} {Q : Hp → Prop} {E : XK} (h : SpF K 3 mDPut [x, o, i] H (fun _ H' => Q H') E) : rDPut o x i H Q := by
  obtain ⟨hl, G, F, S, ts, w, r, q⟩ := h
  unfold mDPut at q
  split at q
  · rename_i t ks us y
    split at q
    · rename_i key hk
      split at q
      · rename_i hc
        obtain ⟨ft, hc⟩ := Bool.and_eq_true_iff.mp hc
        obtain ⟨fu, hc⟩ := Bool.and_eq_true_iff.mp hc
        obtain ⟨l1, l2⟩ := of_decide_eq_true hc
        obtain ⟨x', xr, A0, B0, e, rx, r2, hA0, hB0, hd0⟩ := r
        cases e
        obtain ⟨d', dr, A, B, e, ⟨p, zs, rfl, hp, hlen, ap, hz⟩, h2, h3, h4, h5⟩ := r2
        cases e
        obtain ⟨i', ir, C, D, e, ri, r3, _⟩ := h2
        cases e
        rw [keyT_v hk ri] at q ⊢
        have rx' : Rp K G H t x NoA := Rp.cold t NoA ft rx
        have sp := hB0 p (h3 p ap)
        have zl := rpl_len hz
        have lz : (ks.zip zs).length < sizeLine := by rw [List.length_zip]; omega
        have pk := pk_put (pk_zip (ks := ks) (cl_of fu hz)) key rx'
        refine ⟨p, upd H p (.dK (putK (ks.zip zs) key x)), rfl, DPut.k hp lz, ?_⟩
        rw [putK_put]
        refine q .non _ G S NoA (own_ext w sp) ((own_wd w).less (fun _ z => z) fun a z => z.elim id fun z => z.elim) (fun _ _ z => z.elim) ?_ rfl
        have rx2 : Rp K G (upd H p (.dK (putG (ks.zip zs) key x))) t x NoA := own_keep1 w sp rx' fun _ z => z.elim
        have pk2 : Pkv K G (upd H p (.dK (putG (ks.zip zs) key x))) (putG (ks.zip us) key t) (putG (ks.zip zs) key x) := pk.keep (fun _ z => z) fun a g => upd_ne fun e => w.gs p (e ▸ g) sp
        have ry2 : Rp K G (upd H p (.dK (putG (ks.zip zs) key x))) y (kV key) NoA := by
          cases y <;> first | cases hk | skip
          · exact rfl
          · exact rfl
        refine ⟨x, [.ref p, kV key], NoA, A, rfl, rx2, ⟨.ref p, [kV key], A, NoA, rfl, ⟨p, (putG (ks.zip zs) key x).map (·.2), rfl, ?_, by rw [List.length_map, List.length_map], ap, of_cl (pk_vals pk2)⟩, ⟨kV key, [], NoA, NoA, rfl, ry2, rfl, fun _ z => z, fun _ z => z, fun _ z => z.elim⟩, fun _ z => z, fun _ z => z.elim, fun _ _ z => z.elim⟩, fun _ z => z.elim, fun a z => hB0 a (h3 a z), fun _ z => z.elim⟩
        rw [pk_keys pk2, zip_fs]
        exact upd_same
      · exact q.elim
    · exact q.elim
  · exact q.elim
end
end Ev

/-! EvDict2: {}, d[k] = e, d.get(k, x). -/
namespace Ev
noncomputable section
open PySem PySem.Spec PyProof.Rows L2
/-- o[i] = e, of a dict -/
def sDSet (f : SE) (o g : SU) : SS := sExpr (uV (eCall mDPut [] (aCons (uV f) (aCons o (aCons g aNil)))))
theorem sim_dput {X : Cx} {P : Nat → Bool} {o i e : Expr} {f : SE} {o' g : SU} {pos tpos : Pos} (hu : X.A.units + 1 < cLine) (he : SimE X e f) (ho : SimU X o o') (hi : SimU X i g)
    (hs : swapsWith e (some (.Subscript o i tpos)) pos.line X.env = pure false := by rfl) : SimS X P (.Assign [.Subscript o i tpos] e pos) (sDSet f o' g) := fun Wx tk =>
  PS.imp (ps_dput hu (ho Wx tk) (hi Wx tk) (he Wx tk) hs) fun D σ H h => by
    have q := call_core (n := 3) (dv := []) .nil (fun vs us st st' e1 e2 => by rw [List.append_nil, e2, lenA_cons (lenA_cons (lenA_cons lenA_nil)) st us st' e1]) (RdS.expr h)
    exact (three_core q).imp fun x H1 q => q.imp fun o H2 q => q.imp fun i H3 q => ms_dput q
/-- {} -/
def eDNew : SE := fun st => .ok (dicT true []) st
theorem sim_dnew {X : Cx} {pos : Pos} : SimE X (.Dict [] [] pos) eDNew := fun Wx _ => PE.imp pe_dnewK fun σ H Q ⟨G, F, S, st, w, r, p⟩ q nq => by
  have n := New.own (o := .dK []) w nq
  have rv : Rp X.K G (upd H q (.dK [])) (dicT true []) (.ref q) (fun a => a = q) := ⟨q, [], rfl, upd_same, rfl, rfl, rfl⟩
  exact p (.ref q) _ G S _ (n.ext w) (n.wd w) (fun a z1 z2 => n.apart w a z1 z2) (n.str w r fun _ z => z) rv
/-- it's a dict -/
def isDic : T → Bool
  | .dic _ _ _ => true
  | _ => false
def uDic (f : SU) : SU := fun st => (f st).bind fun u st => match u.get st with
  | some t => if isDic t then .ok u st else .no
  | none => .no
theorem isD_of {K : PySem.W.Frag} {G A : AS} {H : Hp} {t : T} {v : V} (r : Rp K G H t v A) (h : isDic t = true) : ∃ a, v = .ref a ∧ IsD H a := by
  cases t <;> first | cases h | skip
  obtain ⟨a, vs, S', e, ha, _⟩ := dic_at r
  exact ⟨a, e, .inl ⟨_, .inl ha⟩⟩
theorem dic_core {K : PySem.W.Frag} {Wx : WX} {f : SU} {σ : L2.St} {H : Hp} {Q : VK} (h : RdU K Wx (uDic f) σ H Q) : RdU K Wx f σ H fun v H1 => (∃ a, v = .ref a ∧ IsD H1 a) ∧ Q v H1 := by
  obtain ⟨G, F, S, st, w, r, p⟩ := h
  unfold uDic at p
  refine step_u w r (fun u st1 e1 v H1 G1 S1 S2 x1 w1 d1 r1 a1 => ?_) (fun x st1 e1 => ?_) (fun e1 => ?_)
  · rw [e1] at p
    have p1 : PostU K Wx G F H σ Q (match u.get st1 with
      | some t => if isDic t then .ok u st1 else .no
      | none => .no) := p
    have hv : ∀ t, u.get st1 = some t → ∃ A, Rp K G1 H1 t v A := fun t e => by
      cases u with
      | v t' => cases e; exact ⟨S2, a1⟩
      | s i =>
        obtain ⟨v', C, D, k1, k2, k3, _⟩ := r1.get (join_some e)
        have k4 : σ[i]? = some (some v) := a1
        rw [k4] at k1
        cases k1
        exact ⟨C, k2⟩
    cases e2 : u.get st1 with
    | none => rw [e2] at p1; exact p1.elim
    | some t =>
      rw [e2] at p1
      by_cases ht : isDic t = true
      · have p2 : PostU K Wx G F H σ Q (if isDic t then .ok u st1 else .no) := p1
        rw [if_pos ht] at p2
        obtain ⟨A, ra⟩ := hv _ e2
        exact ⟨isD_of ra ht, p2 v H1 G1 S1 S2 x1 w1 d1 r1 a1⟩
      · have p2 : PostU K Wx G F H σ Q (if isDic t then .ok u st1 else .no) := p1
        rw [if_neg ht] at p2
        exact p2.elim
  · rw [e1] at p
    exact p
  · rw [e1] at p
    exact p
/-! d.get(k, x) -/
def pDGet : List T → Option T
  | [.dic _ ks ts, y, z] => match keyT y with
    | some k => if frzL ts && frz z then some ((getG (ks.zip ts) k).getD z) else none
    | none => none
  | _ => none
def rDGet2 : List V → Hp → VK → Prop := fun vs H Q => match vs with
  | [x, y, z] => ∃ a o, x = .ref a ∧ DGet H a y o ∧ Q (o.getD z) H
  | _ => False
theorem pr_dget2 {K : PySem.W.Frag} : Pr K rDGet2 pDGet := fun G F S H ts vs t Q w o e k => by
  unfold pDGet at e
  split at e
  · rename_i ob ks us y z
    split at e
    · rename_i key hk
      split at e
      · rename_i hf
        cases e
        obtain ⟨f1, f2⟩ := Bool.and_eq_true_iff.mp hf
        obtain ⟨v, u, x, S1, S2, S3, rfl, r1, r2, r3⟩ := ops3 o
        obtain ⟨a, rfl, g⟩ := dic_get (k := key) f1 r1
        rw [keyT_v hk r2]
        cases q : getG (ks.zip us) key with
        | none =>
          rw [q] at g k
          exact ⟨a, none, rfl, g, old w (Rp.cold z NoA f2 r3) k⟩
        | some u =>
          rw [q] at g k
          obtain ⟨z', g1, g2⟩ := g
          exact ⟨a, some z', rfl, g1, old w g2 k⟩
      · cases e
    · cases e
  · cases e
section
variable {X : Cx} {o e f : Expr} {fo fe ff : SU} {apos cpos : Pos}
theorem sim_dget2 (hu : X.A.units + 1 < cLine) (ho : SimU X o fo) (he : SimU X e fe) (hf : SimU X f ff) (m : M2 X o "get" apos e f cpos) : SimE X (.Call (.Attribute o "get" apos) [e, f] [] cpos) (eP pDGet (aCons (uDic fo) (aCons fe (aCons ff aNil)))) := fun Wx tk =>
  PE.imp (pe_dget2 hu (ho Wx tk) (he Wx tk) (hf Wx tk) m) fun σ H Q q => by
    have q1 := prim_core pr_dget2 q
    exact (dic_core (three_core q1)).imp fun v H1 ⟨⟨a, ea, da⟩, q⟩ => ⟨a, ea, da, q.imp fun y H2 q => q.imp fun z H3 ⟨a', o, e2, g, q⟩ => by
      rw [ea] at e2
      cases e2
      exact ⟨o, g, q⟩⟩
end
/-! in a dict -/
theorem getG_put {β : Type} : ∀ (l : List (Key × β)) (k j : Key) (x : β), getG (putG l k x) j = if j = k then some x else getG l j
  | [], k, j, x => by
    unfold putG getG
    by_cases e : k = j
    · rw [if_pos e, if_pos e.symm]
    · rw [if_neg e, if_neg (fun z => e z.symm)]
      rfl
  | p :: l, k, j, x => by
    unfold putG
    by_cases e : p.1 = k
    · rw [if_pos e]
      have key : ∀ l : List (Key × β), getG (l.map fun q => if q.1 = k then (q.1, x) else q) j = if j = k then (getG l j).map fun _ => x else getG l j := by
        intro l
        induction l with
        | nil => by_cases c : j = k <;> simp [c, getG]
        | cons q l ih =>
          rw [List.map_cons]
          unfold getG
          by_cases c : q.1 = k
          · rw [if_pos c]
            by_cases d : q.1 = j
            · rw [if_pos d, if_pos d, if_pos (d.symm.trans c)]
              rfl
            · rw [if_neg d, if_neg d, ih]
          · rw [if_neg c]
            by_cases d : q.1 = j
            · rw [if_pos d, if_pos d, if_neg (fun z => c (d.trans z))]
            · rw [if_neg d, if_neg d, ih]
      show (if p.1 = j then some x else getG (l.map fun q => if q.1 = k then (q.1, x) else q) j) = if j = k then some x else if p.1 = j then some p.2 else getG l j
      by_cases d : p.1 = j
      · rw [if_pos d, if_pos (d.symm.trans e)]
      · rw [if_neg d, key]
        by_cases c : j = k
        · exact absurd (e.trans c.symm) d
        · rw [if_neg c, if_neg c, if_neg d]
    · rw [if_neg e]
      show (if p.1 = j then some p.2 else getG (putG l k x) j) = if j = k then some x else if p.1 = j then some p.2 else getG l j
      by_cases d : p.1 = j
      · rw [if_pos d, if_neg (fun z => e (d.trans z)), if_pos d]
      · rw [if_neg d, getG_put l k j x, if_neg d]
/-! l.pop(i) -/
def mPopAt : FS
  | [.lst true xs, .int i] => if frzL xs && (leC (-(2 ^ 63)) i && ltC i (2 ^ 63)) then match seqIndex? i xs.length with
    | some k => match xs[k]? with
      | some t => .ok t [.lst true (xs.eraseIdx k), .int i]
      | none => .no
    | none => .no else .no
  | _ => .no
theorem pr_eraseIdx {α β : Type} {R : α → β → Prop} : ∀ {a : List α} {x : List β} (k : Nat), Paired R a x → Paired R (a.eraseIdx k) (x.eraseIdx k)
  | _, _, _, .nil => .nil
  | _, _, 0, .cons q t => t
  | _, _, k + 1, .cons q t => .cons q (pr_eraseIdx k t)
theorem ms_popAt {K : PySem.W.Frag} (v : V) (vs : List V) (H : Hp) (Q : VK) (E : XK) (h : SpF K 2 mPopAt (v :: vs) H Q E) : rPopAt v vs H Q := by
  obtain ⟨hl, G, F, S, ts, w, r, q⟩ := h
  unfold mPopAt at q
  split at q
  · rename_i xs i
    split at q
    · rename_i hc
      obtain ⟨f1, f2⟩ := Bool.and_eq_true_iff.mp hc
      obtain ⟨f2, f3⟩ := Bool.and_eq_true_iff.mp f2
      have f2 := of_leC f2
      have f3 := of_ltC f3
      split at q
      · rename_i j hj
        split at q
        · rename_i t ht
          obtain ⟨p, zs, A, B, rfl, ap, hp, h1, h2, h3, h4, h5⟩ := fst_own r
          obtain ⟨y, yr, C, D, rfl, h6, h7, h8, _⟩ := h2
          rw [show yr = [] from h7] at q ⊢
          cases (show y = .int i from h6)
          have sp := h3 p ap
          obtain ⟨z, C2, hz, rz, _⟩ := rpl_get h1 ht
          have lz := rpl_len h1
          refine ⟨p, zs, i, j, z, rfl, rfl, hp, f2, f3, by rw [← lz]; exact hj, hz, own_done (ts := [.int i]) (xs := xs) (B := NoA) w ap ⟨.int i, [], NoA, NoA, rfl, rfl, rfl, fun _ z => z, fun _ z => z, fun _ z => z.elim⟩ h3 (fun _ z => z.elim) (fun _ _ z => z.elim) (zs := zs) (cl_own w sp (pr_eraseIdx j (cl_of f1 h1))) ?_ q⟩
          exact own_keep1 w sp (Rp.cold t NoA (frzL_get f1 ht) rz) fun _ z => z.elim
        · exact q.elim
      · exact q.elim
    · exact q.elim
  · exact q.elim
end
end Ev

/-! EvZipA: zip(.., strict=True) of lists and tuples in any mixture, at the library's level. -/
namespace EvZ
open PySem
open PySem.Sem (wp)
/-- a zip that is strict -/
abbrev Zst (h : Heap) (z TI TO : Addr) (f0 f1 : Value) : Prop := h.get? z = some { cls := .type "zip", dict := none, data := .fields #[f0, f1, .bool true, .ref TI, .ref TO], slots := #[] }
section
variable {prog : Program} {w : World} {A : Around} {E : Value → Shared → Prop} {s : Shared} {z TI TO i1 i2 : Addr} {fp1 fp2 : List Addr} {n1 n2 i : Nat} {P1 P2 : Nat → Value → Prop} {St1 St2 : Nat → Heap → Prop} {a1 a2 : Value}
theorem nx_item {it : Addr} {fp : List Addr} {n : Nat} {P : Nat → Value → Prop} {St : Nat → Heap → Prop} (D : Draws prog w A it fp n P St) {Q : Option Value → Shared → Prop} (hlt : i < n) (st : St i s.heap)
    (hQ : ∀ x h' tk, P i x → St (i + 1) h' → Heap.SameBut it s.heap h' → Q (some x) { s with heap := h', toks := tk }) : wpAny (model prog w) A (Builtin.SmallTypes.nextOrEnd (.ref it)) Q E s := by
  unfold Builtin.SmallTypes.nextOrEnd
  exact wpAny_bind (wpAny_attempt (D.item i s _ _ hlt st fun x h' tk p q r => wpAny_pure (hQ x h' tk p q r)))
theorem nx_done {it : Addr} {fp : List Addr} {n : Nat} {P : Nat → Value → Prop} {St : Nat → Heap → Prop} (D : Draws prog w A it fp n P St) {Q : Option Value → Shared → Prop} (st : St n s.heap)
    (hQ : ∀ h', Heap.ExtBut it s.heap h' → Q none { s with heap := h' }) : wpAny (model prog w) A (Builtin.SmallTypes.nextOrEnd (.ref it)) Q E s := by
  unfold Builtin.SmallTypes.nextOrEnd
  refine wpAny_bind (wpAny_attempt (D.done s _ _ st fun h' e he hx => ?_))
  obtain ⟨o, ho, hc⟩ := hx
  exact wpAny_bind (wpAny_isInstance (T := "StopIteration") (b := true) ⟨o, ho, hc⟩ isSubtype_stop (wpAny_pure (hQ _ he)))
theorem look_q {a : Addr} {Q : Option Obj → Shared → Prop} (h : Q (s.heap.get? a) s) : wpAny (model prog w) A (loadIfAlive a) Q E s := fun _ _ _ => h
/-- its tuple may be given out -/
def FreeZ (h : Heap) (f0 : Value) : Prop := f0 = .none ∨ ∃ T : Addr, f0 = rawInt T ∧ h.get? T = none
theorem free_yes {f0 : Value} {fb : Bool} {Q : Bool → Shared → Prop} (hz : Zst s.heap z TI TO f0 (.bool fb)) (hf : FreeZ s.heap f0) (h : Q true s) : wpAny (model prog w) A (Builtin.SmallTypes.ownedTupleIsFree (.ref z)) Q E s := by
  unfold Builtin.SmallTypes.ownedTupleIsFree
  rcases hf with hf | ⟨T, hf, hT⟩
  · subst hf
    exact wpAny_bind (wpAny_field hz rfl (x := .none) rfl (wpAny_pure h))
  · subst hf
    refine wpAny_bind (wpAny_field hz rfl (x := rawInt T) rfl ?_)
    show wpAny _ _ (loadIfAlive ((T : Int).toNat) >>= _) _ _ _
    rw [Int.toNat_natCast]
    refine wpAny_bind (look_q ?_)
    rw [hT]
    simp only [Option.isNone_none, if_true]
    exact wpAny_pure h
theorem zst_item {Q : Value → Shared → Prop} (S : ZipSep2 z TI TO i1 i2 fp1 fp2) (D1 : Draws prog w A i1 fp1 n1 P1 St1) (D2 : Draws prog w A i2 fp2 n2 P2 St2)
    {f0 : Value} {fb : Bool} (hz : Zst s.heap z TI TO f0 (.bool fb)) (hfr : FreeZ s.heap f0) (hTI : IsTupOf2 s.heap TI (.ref i1) (.ref i2)) (hTO : IsTupOf2 s.heap TO a1 a2) (st1 : St1 i s.heap) (st2 : St2 i s.heap) (l1 : i < n1) (l2 : i < n2)
    (hQ : ∀ x1 x2 h' tk, P1 i x1 → P2 i x2 → Zst h' z TI TO (rawInt s.heap.objs.size) (.bool false) → IsTupOf2 h' TO x1 x2 → St1 (i + 1) h' → St2 (i + 1) h' → IsTupOf2 h' s.heap.objs.size x1 x2 → h'.objs.size = s.heap.objs.size + 1 →
      (∀ c o, c ≠ z → c ≠ TO → c ≠ i1 → c ≠ i2 → s.heap.get? c = some o → h'.get? c = some o) → Q (.ref s.heap.objs.size) { s with heap := h', toks := tk }) :
    wpAny (model prog w) A (Builtin.«zip.__next__» ⟨[.ref z], []⟩) (fun fin s' => ∃ v, fin = .done (.ret v) ∧ Q v s') E s := by
  obtain ⟨hp, g, d, t0, os⟩ := s
  show wpAny _ _ (field (.ref z) 2 >>= _) _ _ _
  refine wpAny_bind (wpAny_field hz rfl (x := .bool true) rfl ?_)
  show wpAny _ _ (field (.ref z) 3 >>= _) _ _ _
  refine wpAny_bind (wpAny_field hz rfl (x := .ref TI) rfl (wpAny_bind (wpAny_seqItems hTI rfl ?_)))
  show wpAny _ _ (Builtin.SmallTypes.ownedTupleIsFree (.ref z) >>= _) _ _ _
  refine wpAny_bind (free_yes hz hfr ?_)
  simp only [if_true]
  refine wpAny_bind (wpAny_rule (wpAny_bind (wpAny_field hz rfl (x := .ref TO) rfl ?_)))
  refine wpAny_bind (wpAny_setField_rec hz (by simp) fun g0 k0 u0 => ?_)
  replace k0 : Zst g0 z TI TO .ellipsis (.bool fb) := k0
  replace u0 : Heap.SameBut z hp g0 := u0
  refine wpAny_bind ?_
  simp only [List.zipIdx_cons, List.zipIdx_nil, List.forIn_cons, List.forIn_nil]
  refine wpAny_bind (wpAny_bind (wpAny_onRaise ?_))
  show wpAny _ _ (Builtin.SmallTypes.nextOrEnd (.ref i1)) _ _ ⟨g0, g, d, t0, os⟩
  refine nx_item D1 l1 (D1.over st1 u0 S.zf1) fun x1 p1 t1 q1 sn1 v1 => ?_
  replace v1 : Heap.SameBut i1 g0 p1 := v1
  have m1 : IsTupOf2 p1 TO a1 a2 := v1.extBut _ _ S.Ti1 (u0.extBut _ _ S.TOz hTO)
  refine wpAny_bind (wpAny_seqItems (s := ⟨p1, g, d, t1, os⟩) m1 rfl (wpAny_bind (updateSeq_IsTupOf2 (s := ⟨p1, g, d, t1, os⟩) m1 fun g1 k1 u1 => ?_)))
  replace k1 : IsTupOf2 g1 TO x1 a2 := k1
  replace u1 : Heap.SameBut TO p1 g1 := u1
  refine wpAny_bind (wpAny_letGo (wpAny_pure (wpAny_bind (wpAny_bind (wpAny_onRaise ?_)))))
  show wpAny _ _ (Builtin.SmallTypes.nextOrEnd (.ref i2)) _ _ ⟨g1, g, d, t1, os⟩
  refine nx_item D2 l2 (D2.over (D2.over (D2.over st2 u0 S.zf2) v1 S.sep1_2) u1 S.Tf2) fun x2 p2 t2 q2 sn2 v2 => ?_
  replace v2 : Heap.SameBut i2 g1 p2 := v2
  have m2 : IsTupOf2 p2 TO x1 a2 := v2.extBut _ _ S.Ti2 k1
  refine wpAny_bind (wpAny_seqItems (s := ⟨p2, g, d, t2, os⟩) m2 rfl (wpAny_bind (updateSeq_IsTupOf2 (s := ⟨p2, g, d, t2, os⟩) m2 fun g2 k2 u2 => ?_)))
  replace k2 : IsTupOf2 g2 TO x1 x2 := k2
  replace u2 : Heap.SameBut TO p2 g2 := u2
  refine wpAny_bind (wpAny_letGo (wpAny_pure (wpAny_pure ?_)))
  refine wpAny_bind (wpAny_seqItems (s := ⟨g2, g, d, t2, os⟩) k2 rfl (wpAny_bind (wpAny_newTuple ?_)))
  have sz : g2.objs.size = hp.objs.size := by rw [u2.1, v2.1, u1.1, v1.1, u0.1]
  have zz : Zst g2 z TI TO .ellipsis (.bool fb) := (u2.extBut _ _ S.TOz.symm (v2.extBut _ _ S.zi2 (u1.extBut _ _ S.TOz.symm (v1.extBut _ _ S.zi1 k0))))
  have kk : ∀ c o, c ≠ z → c ≠ TO → c ≠ i1 → c ≠ i2 → hp.get? c = some o → g2.get? c = some o := fun c o cz cT c1 c2 e =>
    (u2.extBut _ _ cT (v2.extBut _ _ c2 (u1.extBut _ _ cT (v1.extBut _ _ c1 (u0.extBut _ _ cz e)))))
  have j1 : St1 (i + 1) g2 := (D1.over (D1.over (D1.over sn1 u1 S.Tf1) v2 S.sep2_1) u2 S.Tf1)
  have j2 : St2 (i + 1) g2 := (D2.over sn2 u2 S.Tf2)
  have zl : z < g2.objs.size := Heap.lt_size zz
  show wpAny _ _ (Builtin.SmallTypes.ownedTupleHandOut (.ref z) (.ref g2.objs.size) >>= _) _ _ ⟨g2.push { cls := .type "tuple", data := .seq #[x1, x2] }, g, d, t2, os⟩
  refine wpAny_bind ?_
  unfold Builtin.SmallTypes.ownedTupleHandOut
  have z6 : Zst (g2.push { cls := .type "tuple", data := .seq #[x1, x2] }) z TI TO .ellipsis (.bool fb) := Heap.get?_push_of_some _ zz
  refine wpAny_bind (wpAny_setField_rec z6 (by simp) fun h7 z7 s7 => ?_)
  replace z7 : Zst h7 z TI TO (rawInt g2.objs.size) (.bool fb) := z7
  refine wpAny_setField_rec z7 (by simp) fun h8 z8 s8 => ?_
  replace z8 : Zst h8 z TI TO (rawInt g2.objs.size) (.bool false) := z8
  replace s7 : Heap.SameBut z (g2.push { cls := .type "tuple", data := .seq #[x1, x2] }) h7 := s7
  replace s8 : Heap.SameBut z h7 h8 := s8
  have up : ∀ c o, c ≠ z → g2.get? c = some o → h8.get? c = some o := fun c o c1 e => s8.extBut _ _ c1 (s7.extBut _ _ c1 (Heap.get?_push_of_some _ e))
  have T8 : IsTupOf2 h8 g2.objs.size x1 x2 := s8.extBut _ _ (Nat.ne_of_gt zl) (s7.extBut _ _ (Nat.ne_of_gt zl) (Heap.get?_push_size _ rfl))
  have sz8 : h8.objs.size = g2.objs.size + 1 := by rw [s8.1, s7.1, Heap.size_push]
  rw [sz] at z8 T8 sz8
  refine wpAny_pure ⟨_, rfl, ?_⟩
  show Q (.ref g2.objs.size) ⟨h8, g, d, t2, os⟩
  rw [sz]
  exact hQ x1 x2 h8 t2 q1 q2 z8 (up _ _ S.TOz k2) (D1.frame _ _ _ j1 fun b hb o e => up b o (fun q => S.zf1 (q ▸ hb)) e) (D2.frame _ _ _ j2 fun b hb o e => up b o (fun q => S.zf2 (q ▸ hb)) e) T8 sz8 fun c o cz cT c1 c2 e => up c o cz (kk c o cz cT c1 c2 e)
theorem zst_end {Q : PySem.Fin → Shared → Prop} (hh : A.handled = none) (S : ZipSep2 z TI TO i1 i2 fp1 fp2) (D1 : Draws prog w A i1 fp1 n1 P1 St1) (D2 : Draws prog w A i2 fp2 n2 P2 St2)
    {f0 : Value} {fb : Bool} (hz : Zst s.heap z TI TO f0 (.bool fb)) (hfr : FreeZ s.heap f0) (hTI : IsTupOf2 s.heap TI (.ref i1) (.ref i2)) (hTO : IsTupOf2 s.heap TO a1 a2) (st1 : St1 n1 s.heap) (st2 : St2 n2 s.heap)
    (hE : ∀ h' e, (∀ c o, c ≠ z → c ≠ TO → c ≠ i1 → c ≠ i2 → s.heap.get? c = some o → h'.get? c = some o) → (∃ o, h'.get? e = some o ∧ o.cls = .type "StopIteration") → E (.ref e) { s with heap := h' }) :
    wpAny (model prog w) A (Builtin.«zip.__next__» ⟨[.ref z], []⟩) Q E s := by
  obtain ⟨hp, g, d, t0, os⟩ := s
  show wpAny _ _ (field (.ref z) 2 >>= _) _ _ _
  refine wpAny_bind (wpAny_field hz rfl (x := .bool true) rfl ?_)
  show wpAny _ _ (field (.ref z) 3 >>= _) _ _ _
  refine wpAny_bind (wpAny_field hz rfl (x := .ref TI) rfl (wpAny_bind (wpAny_seqItems hTI rfl ?_)))
  show wpAny _ _ (Builtin.SmallTypes.ownedTupleIsFree (.ref z) >>= _) _ _ _
  refine wpAny_bind (free_yes hz hfr ?_)
  simp only [if_true]
  refine wpAny_bind (wpAny_rule (wpAny_bind (wpAny_field hz rfl (x := .ref TO) rfl ?_)))
  refine wpAny_bind (wpAny_setField_rec hz (by simp) fun g0 k0 u0 => ?_)
  replace k0 : Zst g0 z TI TO .ellipsis (.bool fb) := k0
  replace u0 : Heap.SameBut z hp g0 := u0
  refine wpAny_bind ?_
  simp only [List.zipIdx_cons, List.zipIdx_nil, List.forIn_cons, List.forIn_nil]
  refine wpAny_bind (wpAny_bind (wpAny_onRaise ?_))
  show wpAny _ _ (Builtin.SmallTypes.nextOrEnd (.ref i1)) _ _ ⟨g0, g, d, t0, os⟩
  refine nx_done D1 (D1.over st1 u0 S.zf1) fun q1 v1 => ?_
  replace v1 : Heap.ExtBut i1 g0 q1 := v1
  have zq : Zst q1 z TI TO .ellipsis (.bool fb) := v1 _ _ S.zi1 k0
  refine wpAny_bind (wpAny_setField_rec (s := ⟨q1, g, d, t0, os⟩) zq (by simp) fun q2 k2 u2 => ?_)
  replace u2 : Heap.SameBut z q1 q2 := u2
  refine wpAny_bind (wpAny_bind ?_)
  simp only [List.drop_succ_cons, List.drop_zero, List.zipIdx_cons, List.zipIdx_nil, List.forIn_cons, List.forIn_nil]
  have T2 : St2 n2 q2 := D2.over (D2.frame _ _ _ (D2.over st2 u0 S.zf2) fun b hb o e => v1 b o (fun q => S.sep1_2 (q ▸ hb)) e) u2 S.zf2
  refine wpAny_bind (wpAny_bind (nx_done (s := ⟨q2, g, d, t0, os⟩) D2 T2 fun q3 v3 => ?_))
  replace v3 : Heap.ExtBut i2 q2 q3 := v3
  simp only [Option.isSome_none, Bool.false_eq_true, if_false]
  refine wpAny_pure (wpAny_pure (wpAny_bind (wpAny_rule ?_)))
  unfold Builtin.SmallTypes.stopIteration
  refine wpAny_bind ?_
  simp only [newExc, newTuple]
  refine wpAny_bind (wpAny_newObj_type ?_ (by size_fits))
  refine wpAny_bind (m := firstArgMember _ _) (wpAny_of_eq (a := Value.none) (by first | rfl | (simp only [firstArgMember]; rfl)) ?_)
  refine wpAny_newObj_type ?_ (by size_fits)
  simp only [raiseNew]
  refine wpAny_bind (wpAny_handled ?_)
  first | rw [show A.in1.handled = none from hh] | rw [hh]
  refine wpAny_bind (wpAny_pure (wpAny_throw ?_))
  exact hE _ _ (fun c o cz cT c1 c2 x => Heap.get?_push_of_some _ (Heap.get?_push_of_some _ (v3 _ _ c2 (u2.extBut _ _ cz (v1 _ _ c1 (u0.extBut _ _ cz x)))))) ⟨_, Heap.get?_push_size _ rfl, rfl⟩
theorem alive_q {a : Addr} {o : Obj} {Q : Option Obj → Shared → Prop} (ho : s.heap.get? a = some o) (h : Q (some o) s) : wpAny (model prog w) A (loadIfAlive a) Q E s := fun _ _ _ => by
  show Q (s.heap.get? a) s
  rw [ho]
  exact h
theorem held_not {T : Addr} {f : Bool} {oT : Obj} {Q : Bool → Shared → Prop} (hz : Zst s.heap z TI TO (rawInt T) (.bool f)) (hT : s.heap.get? T = some oT)
    (h : ∀ h', Zst h' z TI TO (rawInt T) (.bool true) → Heap.SameBut z s.heap h' → Q false { s with heap := h' }) : wpAny (model prog w) A (Builtin.SmallTypes.ownedTupleIsFree (.ref z)) Q E s := by
  unfold Builtin.SmallTypes.ownedTupleIsFree
  refine wpAny_bind (wpAny_field hz rfl (x := rawInt T) rfl ?_)
  show wpAny _ _ (loadIfAlive ((T : Int).toNat) >>= _) _ _ _
  rw [Int.toNat_natCast]
  refine wpAny_bind (alive_q hT ?_)
  simp only [Option.isNone_some, Bool.false_eq_true, if_false]
  refine wpAny_bind (wpAny_field hz rfl (x := .bool f) rfl ?_)
  cases f with
  | true =>
    rw [if_neg (show ¬ ((Value.bool true != Value.bool true) = true) from Bool.false_ne_true)]
    exact wpAny_pure (h s.heap hz (Heap.SameBut.refl _ _))
  | false =>
    rw [if_pos (show (Value.bool false != Value.bool true) = true from rfl)]
    exact wpAny_bind (wpAny_setField_rec hz (by simp) fun h₁ hz₁ hs₁ => wpAny_pure (h h₁ hz₁ hs₁))
theorem zst_item_held {T : Addr} {f : Bool} {oT : Obj} {Q : Value → Shared → Prop} (S : ZipSep2 z TI TO i1 i2 fp1 fp2) (D1 : Draws prog w A i1 fp1 n1 P1 St1) (D2 : Draws prog w A i2 fp2 n2 P2 St2)
    (hz : Zst s.heap z TI TO (rawInt T) (.bool f)) (hT : s.heap.get? T = some oT) (hTI : IsTupOf2 s.heap TI (.ref i1) (.ref i2)) (st1 : St1 i s.heap) (st2 : St2 i s.heap) (l1 : i < n1) (l2 : i < n2)
    (hQ : ∀ x1 x2 h' tk, P1 i x1 → P2 i x2 → Zst h' z TI TO (rawInt T) (.bool true) → St1 (i + 1) h' → St2 (i + 1) h' → IsTupOf2 h' s.heap.objs.size x1 x2 → h'.objs.size = s.heap.objs.size + 1 →
      (∀ c o, c ≠ z → c ≠ i1 → c ≠ i2 → s.heap.get? c = some o → h'.get? c = some o) → Q (.ref s.heap.objs.size) { s with heap := h', toks := tk }) :
    wpAny (model prog w) A (Builtin.«zip.__next__» ⟨[.ref z], []⟩) (fun fin s' => ∃ v, fin = .done (.ret v) ∧ Q v s') E s := by
  obtain ⟨hp, g, d, t0, os⟩ := s
  show wpAny _ _ (field (.ref z) 2 >>= _) _ _ _
  refine wpAny_bind (wpAny_field hz rfl (x := .bool true) rfl ?_)
  show wpAny _ _ (field (.ref z) 3 >>= _) _ _ _
  refine wpAny_bind (wpAny_field hz rfl (x := .ref TI) rfl (wpAny_bind (wpAny_seqItems hTI rfl ?_)))
  show wpAny _ _ (Builtin.SmallTypes.ownedTupleIsFree (.ref z) >>= _) _ _ _
  refine wpAny_bind (held_not hz hT fun g0 k0 u0 => ?_)
  replace u0 : Heap.SameBut z hp g0 := u0
  simp only [Bool.false_eq_true, if_false]
  refine wpAny_bind ?_
  rw [← Array.forIn_toList]
  simp only [List.forIn_cons, List.forIn_nil]
  refine wpAny_bind (wpAny_bind (wpAny_holding ?_))
  show wpAny _ _ (Builtin.SmallTypes.nextOrEnd (.ref i1)) _ _ ⟨g0, g, d, t0, os⟩
  refine nx_item D1 l1 (D1.over st1 u0 S.zf1) fun x1 p1 t1 q1 sn1 v1 => ?_
  replace v1 : Heap.SameBut i1 g0 p1 := v1
  refine wpAny_pure (wpAny_bind (wpAny_bind (wpAny_holding ?_)))
  show wpAny _ _ (Builtin.SmallTypes.nextOrEnd (.ref i2)) _ _ ⟨p1, g, d, t1, os⟩
  refine nx_item D2 l2 (D2.over (D2.over st2 u0 S.zf2) v1 S.sep1_2) fun x2 p2 t2 q2 sn2 v2 => ?_
  replace v2 : Heap.SameBut i2 p1 p2 := v2
  refine wpAny_pure (wpAny_pure ?_)
  show wpAny _ _ (newTuple [x1, x2] >>= _) _ _ _
  refine wpAny_bind (wpAny_newTuple ?_)
  have sz : p2.objs.size = hp.objs.size := by rw [v2.1, v1.1, u0.1]
  have zz : Zst p2 z TI TO (rawInt T) (.bool true) := v2.extBut _ _ S.zi2 (v1.extBut _ _ S.zi1 k0)
  have kk : ∀ c o, c ≠ z → c ≠ i1 → c ≠ i2 → hp.get? c = some o → p2.get? c = some o := fun c o cz c1 c2 e => v2.extBut _ _ c2 (v1.extBut _ _ c1 (u0.extBut _ _ cz e))
  have j1 : St1 (i + 1) p2 := D1.over sn1 v2 S.sep2_1
  refine wpAny_pure ⟨_, rfl, ?_⟩
  show Q (.ref p2.objs.size) ⟨p2.push { cls := .type "tuple", data := .seq #[x1, x2] }, g, d, t2, os⟩
  have hp2 : IsTupOf2 (p2.push { cls := .type "tuple", data := .seq #[x1, x2] }) p2.objs.size x1 x2 := Heap.get?_push_size _ rfl
  have hz4 : (p2.push { cls := .type "tuple", data := .seq #[x1, x2] }).objs.size = p2.objs.size + 1 := Heap.size_push ..
  rw [sz] at hp2 hz4 ⊢
  exact hQ x1 x2 _ t2 q1 q2 (Heap.get?_push_of_some _ zz) (D1.frame _ _ _ j1 fun b hb o e => Heap.get?_push_of_some _ e) (D2.frame _ _ _ sn2 fun b hb o e => Heap.get?_push_of_some _ e) hp2 hz4 fun c o c1 c2 c3 e => Heap.get?_push_of_some _ (kk c o c1 c2 c3 e)
theorem zst_end_held {T : Addr} {f : Bool} {oT : Obj} {Q : PySem.Fin → Shared → Prop} (hh : A.handled = none) (S : ZipSep2 z TI TO i1 i2 fp1 fp2) (D1 : Draws prog w A i1 fp1 n1 P1 St1) (D2 : Draws prog w A i2 fp2 n2 P2 St2)
    (hz : Zst s.heap z TI TO (rawInt T) (.bool f)) (hT : s.heap.get? T = some oT) (hTI : IsTupOf2 s.heap TI (.ref i1) (.ref i2)) (st1 : St1 n1 s.heap) (st2 : St2 n2 s.heap)
    (hE : ∀ h' e, (∀ c o, c ≠ z → c ≠ TO → c ≠ i1 → c ≠ i2 → s.heap.get? c = some o → h'.get? c = some o) → (∃ o, h'.get? e = some o ∧ o.cls = .type "StopIteration") → E (.ref e) { s with heap := h' }) :
    wpAny (model prog w) A (Builtin.«zip.__next__» ⟨[.ref z], []⟩) Q E s := by
  obtain ⟨hp, g, d, t0, os⟩ := s
  show wpAny _ _ (field (.ref z) 2 >>= _) _ _ _
  refine wpAny_bind (wpAny_field hz rfl (x := .bool true) rfl ?_)
  show wpAny _ _ (field (.ref z) 3 >>= _) _ _ _
  refine wpAny_bind (wpAny_field hz rfl (x := .ref TI) rfl (wpAny_bind (wpAny_seqItems hTI rfl ?_)))
  show wpAny _ _ (Builtin.SmallTypes.ownedTupleIsFree (.ref z) >>= _) _ _ _
  refine wpAny_bind (held_not hz hT fun g0 k0 u0 => ?_)
  replace u0 : Heap.SameBut z hp g0 := u0
  simp only [Bool.false_eq_true, if_false]
  refine wpAny_bind ?_
  rw [← Array.forIn_toList]
  simp only [List.forIn_cons, List.forIn_nil]
  refine wpAny_bind (wpAny_bind (wpAny_holding ?_))
  show wpAny _ _ (Builtin.SmallTypes.nextOrEnd (.ref i1)) _ _ ⟨g0, g, d, t0, os⟩
  refine nx_done D1 (D1.over st1 u0 S.zf1) fun q1 v1 => ?_
  replace v1 : Heap.ExtBut i1 g0 q1 := v1
  refine wpAny_bind (wpAny_bind ?_)
  simp only [List.drop_succ_cons, List.drop_zero, List.zipIdx_cons, List.zipIdx_nil, List.forIn_cons, List.forIn_nil]
  have T2 : St2 n2 q1 := D2.frame _ _ _ (D2.over st2 u0 S.zf2) fun b hb o e => v1 b o (fun q => S.sep1_2 (q ▸ hb)) e
  refine wpAny_bind (wpAny_bind (nx_done (s := ⟨q1, g, d, t0, os⟩) D2 T2 fun q3 v3 => ?_))
  replace v3 : Heap.ExtBut i2 q1 q3 := v3
  simp only [Option.isSome_none, Bool.false_eq_true, if_false]
  refine wpAny_pure (wpAny_pure (wpAny_bind (wpAny_rule ?_)))
  unfold Builtin.SmallTypes.stopIteration
  refine wpAny_bind ?_
  simp only [newExc, newTuple]
  refine wpAny_bind (wpAny_newObj_type ?_ (by size_fits))
  refine wpAny_bind (m := firstArgMember _ _) (wpAny_of_eq (a := Value.none) (by first | rfl | (simp only [firstArgMember]; rfl)) ?_)
  refine wpAny_newObj_type ?_ (by size_fits)
  simp only [raiseNew]
  refine wpAny_bind (wpAny_handled ?_)
  first | rw [show A.in1.handled = none from hh] | rw [hh]
  refine wpAny_bind (wpAny_pure (wpAny_throw ?_))
  exact hE _ _ (fun c o cz cT c1 c2 x => Heap.get?_push_of_some _ (Heap.get?_push_of_some _ (v3 _ _ c2 (v1 _ _ c1 (u0.extBut _ _ cz x))))) ⟨_, Heap.get?_push_size _ rfl, rfl⟩
theorem py_item {Q : Option Value → Shared → Prop} (S : ZipSep2 z TI TO i1 i2 fp1 fp2) (D1 : Draws prog w A.in1 i1 fp1 n1 P1 St1) (D2 : Draws prog w A.in1 i2 fp2 n2 P2 St2)
    (hz : Zst s.heap z TI TO .none (.bool false)) (hTI : IsTupOf2 s.heap TI (.ref i1) (.ref i2)) (hTO : IsTupOf2 s.heap TO a1 a2) (st1 : St1 i s.heap) (st2 : St2 i s.heap) (l1 : i < n1) (l2 : i < n2)
    (hQ : ∀ x1 x2 h' tk, P1 i x1 → P2 i x2 → Zst h' z TI TO (rawInt s.heap.objs.size) (.bool false) → IsTupOf2 h' TO x1 x2 → St1 (i + 1) h' → St2 (i + 1) h' → IsTupOf2 h' s.heap.objs.size x1 x2 → h'.objs.size = s.heap.objs.size + 1 →
      (∀ c o, c ≠ z → c ≠ TO → c ≠ i1 → c ≠ i2 → s.heap.get? c = some o → h'.get? c = some o) → Q (some (.ref s.heap.objs.size)) { s with heap := h', toks := tk }) :
    wpAny (model prog w) A (pyNext (.ref z)) Q E s := by
  have hT : s.TypeIs (.ref z) "zip" := ⟨_, hz, rfl⟩
  unfold pyNext
  exact wpAny_bind (wpAny_attempt (wpAny_callSpecial?_slot (name := Str.ofString "__next__") hT F.slot_zip_next
    (wpAny_call_entry F.slot_zip_next hT F.entry_zip_next (zst_item S D1 D2 hz (.inl rfl) hTI hTO st1 st2 l1 l2 fun x1 x2 h' tk y1 y2 b1 b2 d1 d2 b5 b6 b7 => wpAny_pure (hQ x1 x2 h' tk y1 y2 b1 b2 d1 d2 b5 b6 b7)) (F.args_zip_next_1 _))))
theorem py_end {Q : Option Value → Shared → Prop} (hh : A.handled = none) (S : ZipSep2 z TI TO i1 i2 fp1 fp2) (D1 : Draws prog w A.in1 i1 fp1 n1 P1 St1) (D2 : Draws prog w A.in1 i2 fp2 n2 P2 St2)
    (hz : Zst s.heap z TI TO .none (.bool false)) (hTI : IsTupOf2 s.heap TI (.ref i1) (.ref i2)) (hTO : IsTupOf2 s.heap TO a1 a2) (st1 : St1 n1 s.heap) (st2 : St2 n2 s.heap)
    (hQ : ∀ h', (∀ c o, c ≠ z → c ≠ TO → c ≠ i1 → c ≠ i2 → s.heap.get? c = some o → h'.get? c = some o) → Q none { s with heap := h' }) : wpAny (model prog w) A (pyNext (.ref z)) Q E s := by
  have hT : s.TypeIs (.ref z) "zip" := ⟨_, hz, rfl⟩
  unfold pyNext
  refine wpAny_bind (wpAny_attempt (wpAny_callSpecial?_slot (name := Str.ofString "__next__") hT F.slot_zip_next
    (wpAny_call_entry F.slot_zip_next hT F.entry_zip_next (zst_end hh S D1 D2 hz (.inl rfl) hTI hTO st1 st2 fun h' e hk he => ?_) (F.args_zip_next_1 _))))
  obtain ⟨o, ho, hc⟩ := he
  exact wpAny_bind (wpAny_isInstance (T := "StopIteration") (b := true) ⟨o, ho, hc⟩ isSubtype_stop (wpAny_pure (hQ _ hk)))
theorem go_zst {elts : List Expr} {x1} {pos : Pos} {T : Addr} {Q : Unit → Shared → Prop} (hz : Zst s.heap z TI TO (rawInt T) (.bool false))
    (hQ : ∀ h', Zst h' z TI TO .none (.bool false) → Heap.SameBut z s.heap h' → Q () { s with heap := h' }) : wpAny (model prog w) A (letOwnedTupleGo (.Tuple elts x1 pos) (.ref z) (.ref T)) Q E s := by
  unfold letOwnedTupleGo
  refine wpAny_bind (wpAny_load hz ?_)
  show wpAny _ _ (if _ then _ else _) Q E s
  rw [if_pos (by
    rw [Bool.and_eq_true]
    refine ⟨by decide +kernel, ?_⟩
    show (some (rawInt T) == some (rawInt T)) = true
    exact beq_self_eq_true _)]
  refine wpAny_bind (wpAny_rule ?_)
  show wpAny _ _ (setField (.ref z) 0 .none) Q E s
  exact wpAny_setField_rec hz (by simp) fun h' k' u' => hQ h' k' u'
theorem iter_zst {f0 f1 : Value} {Q : Value → Shared → Prop} (hz : Zst s.heap z TI TO f0 f1) (h : Q (.ref z) s) : wpAny (model prog w) A (pyIter (.ref z)) Q E s := by
  have hT : s.TypeIs (.ref z) "zip" := ⟨_, hz, rfl⟩
  refine wpAny_pyIter_slot hT F.slot_zip_iter (wpAny_call_entry F.slot_zip_iter hT F.entry_zip_iter ?_ (F.args_zip_iter_1 _))
  show wpAny _ _ (ret (.ref z)) _ _ s
  exact wpAny_pure ⟨_, rfl, "zip", _, hT, F.slot_zip_next.lookup, h⟩
end
end EvZ

/-! EvZipS: strict zip, and enumerate of it, as something walked. -/
namespace EvZ
open PySem
open PySem.Sem (wp)
section
variable {prog : Program} {w : World} {A : Around} {E : Value → Shared → Prop} {s : Shared} {z TI TO i1 i2 : Addr} {fp1 fp2 : List Addr} {n1 n2 i : Nat} {P1 P2 : Nat → Value → Prop} {St1 St2 : Nat → Heap → Prop} {a1 a2 : Value}
def ShZ (f0 : Value) : Prop := f0 = .none ∨ ∃ T : Addr, f0 = rawInt T
theorem zany_item {f0 : Value} {fb : Bool} {Q : Value → Shared → Prop} (hf : ShZ f0) (S : ZipSep2 z TI TO i1 i2 fp1 fp2) (D1 : Draws prog w A i1 fp1 n1 P1 St1) (D2 : Draws prog w A i2 fp2 n2 P2 St2)
    (hz : Zst s.heap z TI TO f0 (.bool fb)) (hTI : IsTupOf2 s.heap TI (.ref i1) (.ref i2)) (hTO : IsTupOf2 s.heap TO a1 a2) (st1 : St1 i s.heap) (st2 : St2 i s.heap) (l1 : i < n1) (l2 : i < n2)
    (hQ : ∀ x1 x2 h' tk g0 gb u v, P1 i x1 → P2 i x2 → ShZ g0 → Zst h' z TI TO g0 (.bool gb) → IsTupOf2 h' TI (.ref i1) (.ref i2) → IsTupOf2 h' TO u v → St1 (i + 1) h' → St2 (i + 1) h' → IsTupOf2 h' s.heap.objs.size x1 x2 → h'.objs.size = s.heap.objs.size + 1 →
      (∀ c o, c ≠ z → c ≠ TO → c ≠ i1 → c ≠ i2 → s.heap.get? c = some o → h'.get? c = some o) → Q (.ref s.heap.objs.size) { s with heap := h', toks := tk }) :
    wpAny (model prog w) A (Builtin.«zip.__next__» ⟨[.ref z], []⟩) (fun fin s' => ∃ v, fin = .done (.ret v) ∧ Q v s') E s := by
  have free : FreeZ s.heap f0 → wpAny (model prog w) A (Builtin.«zip.__next__» ⟨[.ref z], []⟩) (fun fin s' => ∃ v, fin = .done (.ret v) ∧ Q v s') E s := fun fr =>
    zst_item S D1 D2 hz fr hTI hTO st1 st2 l1 l2 fun x1 x2 h' tk p1 p2 b1 b2 d1 d2 b5 b6 b7 => hQ x1 x2 h' tk _ _ _ _ p1 p2 (.inr ⟨_, rfl⟩) b1 (b7 _ _ S.TIz S.TITO S.TIi1 S.TIi2 hTI) b2 d1 d2 b5 b6 b7
  rcases hf with hf | ⟨T, hf⟩
  · exact free (.inl hf)
  · cases hT : s.heap.get? T with
    | none => exact free (.inr ⟨T, hf, hT⟩)
    | some oT =>
      subst hf
      exact zst_item_held S D1 D2 hz hT hTI st1 st2 l1 l2 fun x1 x2 h' tk p1 p2 b1 d1 d2 b5 b6 b7 => hQ x1 x2 h' tk _ _ _ _ p1 p2 (.inr ⟨_, rfl⟩) b1 (b7 _ _ S.TIz S.TIi1 S.TIi2 hTI) (b7 _ _ S.TOz S.Ti1 S.Ti2 hTO) d1 d2 b5 b6 fun c o c1 c2 c3 c4 e => b7 c o c1 c3 c4 e
theorem zany_end {f0 : Value} {fb : Bool} {Q : PySem.Fin → Shared → Prop} (hf : ShZ f0) (hh : A.handled = none) (S : ZipSep2 z TI TO i1 i2 fp1 fp2) (D1 : Draws prog w A i1 fp1 n1 P1 St1) (D2 : Draws prog w A i2 fp2 n2 P2 St2)
    (hz : Zst s.heap z TI TO f0 (.bool fb)) (hTI : IsTupOf2 s.heap TI (.ref i1) (.ref i2)) (hTO : IsTupOf2 s.heap TO a1 a2) (st1 : St1 n1 s.heap) (st2 : St2 n2 s.heap)
    (hE : ∀ h' e, (∀ c o, c ≠ z → c ≠ TO → c ≠ i1 → c ≠ i2 → s.heap.get? c = some o → h'.get? c = some o) → (∃ o, h'.get? e = some o ∧ o.cls = .type "StopIteration") → E (.ref e) { s with heap := h' }) :
    wpAny (model prog w) A (Builtin.«zip.__next__» ⟨[.ref z], []⟩) Q E s := by
  rcases hf with hf | ⟨T, hf⟩
  · exact zst_end hh S D1 D2 hz (.inl hf) hTI hTO st1 st2 hE
  · cases hT : s.heap.get? T with
    | none => exact zst_end hh S D1 D2 hz (.inr ⟨T, hf, hT⟩) hTI hTO st1 st2 hE
    | some oT =>
      subst hf
      exact zst_end_held hh S D1 D2 hz hT hTI st1 st2 hE
theorem en_item {e : Addr} {c : Int} {old f0 : Value} {fb : Bool} {Q : Value → Shared → Prop} (hf : ShZ f0) (S : ZipSep2 z TI TO i1 i2 fp1 fp2) (D1 : Draws prog w A.in1 i1 fp1 n1 P1 St1) (D2 : Draws prog w A.in1 i2 fp2 n2 P2 St2)
    (he : IsEnum s.heap e z c old) (ef1 : e ∉ fp1) (ef2 : e ∉ fp2) (ez : e ≠ z) (eTI : e ≠ TI) (eTO : e ≠ TO)
    (hz : Zst s.heap z TI TO f0 (.bool fb)) (hTI : IsTupOf2 s.heap TI (.ref i1) (.ref i2)) (hTO : IsTupOf2 s.heap TO a1 a2) (st1 : St1 i s.heap) (st2 : St2 i s.heap) (l1 : i < n1) (l2 : i < n2)
    (hQ : ∀ x1 x2 h' tk g0 gb u v, P1 i x1 → P2 i x2 → ShZ g0 → IsEnumOut h' e z (c + 1) (.ref s.heap.objs.size) (s.heap.objs.size + 1) → Zst h' z TI TO g0 (.bool gb) → IsTupOf2 h' TI (.ref i1) (.ref i2) → IsTupOf2 h' TO u v → St1 (i + 1) h' → St2 (i + 1) h' →
      IsTupOf2 h' s.heap.objs.size x1 x2 → h'.get? (s.heap.objs.size + 1) = some { cls := .type "tuple", data := .seq #[.int c tk, .ref s.heap.objs.size] } → h'.objs.size = s.heap.objs.size + 2 →
      (∀ b o, b ≠ e → b ≠ z → b ≠ TO → b ≠ i1 → b ≠ i2 → s.heap.get? b = some o → h'.get? b = some o) → Q (.ref (s.heap.objs.size + 1)) { s with heap := h', toks := tk + 1 }) :
    wpAny (model prog w) A (Builtin.«enumerate.__next__» ⟨[.ref e], []⟩) (fun fin s' => ∃ v, fin = .done (.ret v) ∧ Q v s') E s := by
  obtain ⟨hp, g, d, t0, os⟩ := s
  show wpAny _ _ (field (.ref e) 2 >>= _) _ _ _
  refine wpAny_bind (wpAny_field he rfl (x := .ref z) rfl ?_)
  have hT : (⟨hp, g, d, t0, os⟩ : Shared).TypeIs (.ref z) "zip" := ⟨_, hz, rfl⟩
  show wpAny _ _ (Builtin.SmallTypes.nextOf (.ref z) >>= _) _ _ _
  refine wpAny_bind ?_
  unfold Builtin.SmallTypes.nextOf
  refine wpAny_bind (wpAny_callSpecial?_slot (name := Str.ofString "__next__") hT F.slot_zip_next (wpAny_call_entry F.slot_zip_next hT F.entry_zip_next
    (zany_item hf S D1 D2 hz hTI hTO st1 st2 l1 l2 fun x1 x2 h1 tk g0 gb u v q1 q2 sh z1 ti1 to1 s1 s2 tp1 sz1 k1 => ?_) (F.args_zip_next_1 _)))
  refine wpAny_pure ?_
  replace tp1 : IsTupOf2 h1 hp.objs.size x1 x2 := tp1
  replace sz1 : h1.objs.size = hp.objs.size + 1 := sz1
  have en0 : e ≠ i1 := fun q => ef1 (q ▸ S.mem1)
  have en2 : e ≠ i2 := fun q => ef2 (q ▸ S.mem2)
  have he1 : IsEnum h1 e z c old := k1 _ _ ez eTO en0 en2 he
  have elt : e < hp.objs.size := Heap.lt_size he
  show wpAny _ _ (field (.ref e) 3 >>= _) _ _ ⟨h1, g, d, tk, os⟩
  refine wpAny_bind (wpAny_field he1 rfl (x := rawInt c) rfl ?_)
  show wpAny _ _ (field (.ref e) 4 >>= _) _ _ ⟨h1, g, d, tk, os⟩
  refine wpAny_bind (wpAny_field he1 rfl (x := .none) rfl ?_)
  show wpAny _ _ (mkInt c >>= _) _ _ ⟨h1, g, d, tk, os⟩
  refine wpAny_bind (wpAny_mkInt ?_)
  show wpAny _ _ (setField (.ref e) 3 (rawInt (c + 1)) >>= _) _ _ ⟨h1, g, d, tk + 1, os⟩
  refine wpAny_bind (wpAny_setField_rec he1 (by simp) fun h2 he2 u2 => ?_)
  replace u2 : Heap.SameBut e h1 h2 := u2
  replace he2 : IsEnum h2 e z (c + 1) old := he2
  show wpAny _ _ (setField (.ref e) 4 .none >>= _) _ _ ⟨h2, g, d, tk + 1, os⟩
  refine wpAny_bind (wpAny_setField_rec he2 (by simp) fun h3 he3 u3 => ?_)
  replace u3 : Heap.SameBut e h2 h3 := u3
  replace he3 : IsEnum h3 e z (c + 1) old := he3
  show wpAny _ _ (newTuple [.int c tk, .ref hp.objs.size] >>= _) _ _ ⟨h3, g, d, tk + 1, os⟩
  refine wpAny_bind (wpAny_newTuple ?_)
  have he4 : IsEnum (h3.push { cls := .type "tuple", data := .seq #[.int c tk, .ref hp.objs.size] }) e z (c + 1) old := Heap.get?_push_of_some _ he3
  have sz3 : h3.objs.size = hp.objs.size + 1 := by rw [u3.1, u2.1, sz1]
  generalize hh4 : h3.push { cls := .type "tuple", data := .seq #[.int c tk, .ref hp.objs.size] } = h4 at he4
  have t4 : h4.get? (hp.objs.size + 1) = some { cls := .type "tuple", data := .seq #[.int c tk, .ref hp.objs.size] } := by rw [← hh4, ← sz3]; exact Heap.get?_push_size _ rfl
  have sz4 : h4.objs.size = hp.objs.size + 2 := by rw [← hh4, Heap.size_push, sz3]
  have up4 : ∀ b o, b ≠ e → h1.get? b = some o → h4.get? b = some o := fun b o hbe hb => by
    rw [← hh4]; exact Heap.get?_push_of_some _ (u3.extBut b o hbe (u2.extBut b o hbe hb))
  show wpAny _ _ (Builtin.SmallTypes.ownedTupleIsFree (.ref e) >>= _) _ _ ⟨h4, g, d, tk + 1, os⟩
  rw [sz3]
  refine wpAny_bind ?_
  unfold Builtin.SmallTypes.ownedTupleIsFree
  refine wpAny_bind (wpAny_field he4 rfl (x := .none) rfl (wpAny_pure ?_))
  simp only [if_true]
  refine wpAny_bind (wpAny_rule (wpAny_bind (wpAny_field he4 rfl (x := old) rfl ?_)))
  refine wpAny_bind (wpAny_setField_rec he4 (by simp) fun h5 he5 u5 => ?_)
  replace u5 : Heap.SameBut e h4 h5 := u5
  replace he5 : IsEnum h5 e z (c + 1) (.ref hp.objs.size) := he5
  show wpAny _ _ (Builtin.SmallTypes.ownedTupleHandOut (.ref e) (.ref (hp.objs.size + 1)) >>= _) _ _ ⟨h5, g, d, tk + 1, os⟩
  refine wpAny_bind ?_
  unfold Builtin.SmallTypes.ownedTupleHandOut
  refine wpAny_bind (wpAny_setField_rec he5 (by simp) fun h6 he6 u6 => ?_)
  replace u6 : Heap.SameBut e h5 h6 := u6
  replace he6 : IsEnumOut h6 e z (c + 1) (.ref hp.objs.size) (hp.objs.size + 1) := he6
  refine wpAny_setField_rec he6 (by simp) fun h7 he7 u7 => ?_
  replace u7 : Heap.SameBut e h6 h7 := u7
  replace he7 : IsEnumOut h7 e z (c + 1) (.ref hp.objs.size) (hp.objs.size + 1) := he7
  have up7 : ∀ b o, b ≠ e → h4.get? b = some o → h7.get? b = some o := fun b o hbe hb => u7.extBut b o hbe (u6.extBut b o hbe (u5.extBut b o hbe hb))
  have up : ∀ b o, b ≠ e → h1.get? b = some o → h7.get? b = some o := fun b o hbe hb => up7 b o hbe (up4 b o hbe hb)
  refine wpAny_bind (wpAny_letGo (wpAny_pure ⟨_, rfl, ?_⟩))
  exact hQ x1 x2 h7 tk g0 gb u v q1 q2 sh he7 (up _ _ ez.symm z1) (up _ _ eTI.symm ti1) (up _ _ eTO.symm to1) (D1.frame _ _ _ s1 fun b hb o x => up b o (fun q => ef1 (q ▸ hb)) x) (D2.frame _ _ _ s2 fun b hb o x => up b o (fun q => ef2 (q ▸ hb)) x)
    (up _ _ (Nat.ne_of_gt elt) tp1) (up7 _ _ (Nat.ne_of_gt (Nat.lt_succ_of_lt elt)) t4) (by rw [u7.1, u6.1, u5.1, sz4]) fun b o b1 b2 b3 b4 b5 x => up b o b1 (k1 b o b2 b3 b4 b5 x)
theorem enpy_item {e : Addr} {c : Int} {old f0 : Value} {fb : Bool} {Q : Option Value → Shared → Prop} (hf : ShZ f0) (S : ZipSep2 z TI TO i1 i2 fp1 fp2) (D1 : Draws prog w A.in1.in1 i1 fp1 n1 P1 St1) (D2 : Draws prog w A.in1.in1 i2 fp2 n2 P2 St2)
    (he : IsEnum s.heap e z c old) (ef1 : e ∉ fp1) (ef2 : e ∉ fp2) (ez : e ≠ z) (eTI : e ≠ TI) (eTO : e ≠ TO)
    (hz : Zst s.heap z TI TO f0 (.bool fb)) (hTI : IsTupOf2 s.heap TI (.ref i1) (.ref i2)) (hTO : IsTupOf2 s.heap TO a1 a2) (st1 : St1 i s.heap) (st2 : St2 i s.heap) (l1 : i < n1) (l2 : i < n2)
    (hQ : ∀ x1 x2 h' tk g0 gb u v, P1 i x1 → P2 i x2 → ShZ g0 → IsEnumOut h' e z (c + 1) (.ref s.heap.objs.size) (s.heap.objs.size + 1) → Zst h' z TI TO g0 (.bool gb) → IsTupOf2 h' TI (.ref i1) (.ref i2) → IsTupOf2 h' TO u v → St1 (i + 1) h' → St2 (i + 1) h' →
      IsTupOf2 h' s.heap.objs.size x1 x2 → h'.get? (s.heap.objs.size + 1) = some { cls := .type "tuple", data := .seq #[.int c tk, .ref s.heap.objs.size] } → h'.objs.size = s.heap.objs.size + 2 →
      (∀ b o, b ≠ e → b ≠ z → b ≠ TO → b ≠ i1 → b ≠ i2 → s.heap.get? b = some o → h'.get? b = some o) → Q (some (.ref (s.heap.objs.size + 1))) { s with heap := h', toks := tk + 1 }) :
    wpAny (model prog w) A (pyNext (.ref e)) Q E s := by
  have hT : s.TypeIs (.ref e) "enumerate" := ⟨_, he, rfl⟩
  unfold pyNext
  exact wpAny_bind (wpAny_attempt (wpAny_callSpecial?_slot (name := Str.ofString "__next__") hT F.slot_enumerate_next (wpAny_call_entry F.slot_enumerate_next hT F.entry_enumerate_next
    (en_item hf S D1 D2 he ef1 ef2 ez eTI eTO hz hTI hTO st1 st2 l1 l2 fun x1 x2 h' tk g0 gb u v c1 c2 c3 c4 c5 c6 c7 c8 c9 d1 d2 d3 d4 => wpAny_pure (hQ x1 x2 h' tk g0 gb u v c1 c2 c3 c4 c5 c6 c7 c8 c9 d1 d2 d3 d4)) (F.args_enumerate_next_1 _))))
theorem enpy_end {e : Addr} {c : Int} {old f0 : Value} {fb : Bool} {Q : Option Value → Shared → Prop} (hf : ShZ f0) (hh : A.handled = none) (S : ZipSep2 z TI TO i1 i2 fp1 fp2) (D1 : Draws prog w A.in1.in1 i1 fp1 n1 P1 St1) (D2 : Draws prog w A.in1.in1 i2 fp2 n2 P2 St2)
    (he : IsEnum s.heap e z c old) (hz : Zst s.heap z TI TO f0 (.bool fb)) (hTI : IsTupOf2 s.heap TI (.ref i1) (.ref i2)) (hTO : IsTupOf2 s.heap TO a1 a2) (st1 : St1 n1 s.heap) (st2 : St2 n2 s.heap)
    (hQ : ∀ h', (∀ c o, c ≠ z → c ≠ TO → c ≠ i1 → c ≠ i2 → s.heap.get? c = some o → h'.get? c = some o) → Q none { s with heap := h' }) : wpAny (model prog w) A (pyNext (.ref e)) Q E s := by
  have hT : s.TypeIs (.ref e) "enumerate" := ⟨_, he, rfl⟩
  have hTz : s.TypeIs (.ref z) "zip" := ⟨_, hz, rfl⟩
  unfold pyNext
  refine wpAny_bind (wpAny_attempt (wpAny_callSpecial?_slot (name := Str.ofString "__next__") hT F.slot_enumerate_next (wpAny_call_entry F.slot_enumerate_next hT F.entry_enumerate_next ?_ (F.args_enumerate_next_1 _))))
  show wpAny _ _ (field (.ref e) 2 >>= _) _ _ _
  refine wpAny_bind (wpAny_field he rfl (x := .ref z) rfl ?_)
  refine wpAny_bind ?_
  unfold Builtin.SmallTypes.nextOf
  refine wpAny_bind (wpAny_callSpecial?_slot (name := Str.ofString "__next__") hTz F.slot_zip_next (wpAny_call_entry F.slot_zip_next hTz F.entry_zip_next
    (zany_end hf hh S D1 D2 hz hTI hTO st1 st2 fun h' x hk hx => ?_) (F.args_zip_next_1 _)))
  obtain ⟨o, ho, hc⟩ := hx
  exact wpAny_bind (wpAny_isInstance (T := "StopIteration") (b := true) ⟨o, ho, hc⟩ isSubtype_stop (wpAny_pure (hQ _ hk)))
end
end EvZ

/-! EvZipT: strict zip made; turns over it. -/
namespace EvZ
open PySem
open PySem.Sem (wp)
def kwS : List (Str × Value) := [(Str.ofString "strict", .bool true)]
theorem tc_zip (a b : Value) : checkTypeCall "zip" ⟨[a, b], kwS⟩ = pure () := by unfold kwS; kernel_rfl
theorem nc_zip (a b : Value) : checkBuiltinCall "zip.__new__" ⟨[.type "zip", a, b], kwS⟩ = pure () := by unfold kwS; kernel_rfl
theorem oi_zip (o a b : Value) : argsOk "object.__init__" ⟨[o, a, b], kwS⟩ := by unfold argsOk kwS; kernel_rfl
abbrev zh1 (h : Heap) (o1 : Obj) : Heap := h.push o1
abbrev zh2 (h : Heap) (o1 o2 : Obj) : Heap := (zh1 h o1).push o2
abbrev zh3 (h : Heap) (o1 o2 : Obj) : Heap := (zh2 h o1 o2).push { cls := .type "tuple", data := .seq #[.ref h.objs.size, .ref (zh1 h o1).objs.size] }
abbrev zh4 (h : Heap) (o1 o2 : Obj) : Heap := (zh3 h o1 o2).push { cls := .type "tuple", data := .seq #[.none, .none] }
abbrev zh5 (h : Heap) (o1 o2 : Obj) : Heap := (zh4 h o1 o2).push { cls := .type "zip", data := .fields #[.none, .bool false, .bool true, .ref (zh2 h o1 o2).objs.size, .ref (zh3 h o1 o2).objs.size] }
theorem zst_new {v1 v2 : Value} {o1 o2 : Obj} {H1 H2 : Heap → Prop} (B1 : Begins v1 o1 H1) (B2 : Begins v2 o2 H2) :
    Meets (Builtin.«zip.__new__» ⟨[.type "zip", v1, v2], kwS⟩) (fun _ R s => H1 s.heap ∧ H2 s.heap ∧ R (.ok (.ret (.ref (zh4 s.heap o1 o2).objs.size))) { s with heap := zh5 s.heap o1 o2 }) :=
  .of_wp fun prog w A R s h => by
    obtain ⟨hp, g, d, tk, os⟩ := s; obtain ⟨h1, h2, h⟩ := h
    unfold kwS
    have hsub := sub_zip
    have e1 : (Str.ofString "strict" != ("strict" : Str)) = false := by decide +kernel
    have q1 : ∀ {A' : Around} {E : Value → Shared → Prop} {Q : Value → Shared → Prop}, Q (.ref hp.objs.size) ⟨hp.push o1, g, d, tk, os⟩ → wpAny (model prog w) A' (pyIter v1) Q E ⟨hp, g, d, tk, os⟩ := fun q => B1.iter prog w _ _ ⟨hp, g, d, tk, os⟩ _ h1 q
    have q2 : ∀ {A' : Around} {E : Value → Shared → Prop} {Q : Value → Shared → Prop}, Q (.ref (hp.push o1).objs.size) ⟨(hp.push o1).push o2, g, d, tk, os⟩ → wpAny (model prog w) A' (pyIter v2) Q E ⟨hp.push o1, g, d, tk, os⟩ := fun q => B2.iter prog w _ _ ⟨hp.push o1, g, d, tk, os⟩ _ (B2.keeps _ _ h2 fun b o' x => Heap.get?_push_of_some _ x) q
    wp_walk using q1, q2
    exact ⟨_, rfl, h⟩
section
variable {prog : Program} {w : World} {A : Around} {E : Value → Shared → Prop} {s : Shared}
theorem zst_call {v1 v2 : Value} {o1 o2 : Obj} {H1 H2 : Heap → Prop} {Q : Value → Shared → Prop} (B1 : Begins v1 o1 H1) (B2 : Begins v2 o2 H2) (k1 : H1 s.heap) (k2 : H2 s.heap)
    (h : ∀ h', Zst h' (s.heap.objs.size + 4) (s.heap.objs.size + 2) (s.heap.objs.size + 3) .none (.bool false) → IsTupOf2 h' (s.heap.objs.size + 2) (.ref s.heap.objs.size) (.ref (s.heap.objs.size + 1)) →
      IsTupOf2 h' (s.heap.objs.size + 3) .none .none → h'.get? s.heap.objs.size = some o1 → h'.get? (s.heap.objs.size + 1) = some o2 → h'.objs.size = s.heap.objs.size + 5 →
      (∀ c o, s.heap.get? c = some o → h'.get? c = some o) → Q (.ref (s.heap.objs.size + 4)) { s with heap := h' }) :
    wpAny (model prog w) A (call (.type "zip") [v1, v2] kwS) Q E s := by
  refine callType_newKw F.called_zip (by decide) (tc_zip _ _) (nc_zip _ _) (fun obj => oi_zip obj _ _) F.entry_zip_new (zst_new B1 B2) ⟨k1, k2, ?_⟩
  have y1 : (zh1 s.heap o1).objs.size = s.heap.objs.size + 1 := Heap.size_push ..
  have y2 : (zh2 s.heap o1 o2).objs.size = s.heap.objs.size + 2 := by rw [Heap.size_push, y1]
  have y3 : (zh3 s.heap o1 o2).objs.size = s.heap.objs.size + 3 := by rw [Heap.size_push, y2]
  have y4 : (zh4 s.heap o1 o2).objs.size = s.heap.objs.size + 4 := by rw [Heap.size_push, y3]
  have y5 : (zh5 s.heap o1 o2).objs.size = s.heap.objs.size + 5 := by rw [Heap.size_push, y4]
  have g5 : (zh5 s.heap o1 o2).get? (zh4 s.heap o1 o2).objs.size = some _ := Heap.get?_push_size _ rfl
  have g4 : (zh5 s.heap o1 o2).get? (zh3 s.heap o1 o2).objs.size = some _ := Heap.get?_push_of_some _ (Heap.get?_push_size _ rfl)
  have g3 : (zh5 s.heap o1 o2).get? (zh2 s.heap o1 o2).objs.size = some _ := Heap.get?_push_of_some _ (Heap.get?_push_of_some _ (Heap.get?_push_size _ rfl))
  have g2 : (zh5 s.heap o1 o2).get? (zh1 s.heap o1).objs.size = some o2 := Heap.get?_push_of_some _ (Heap.get?_push_of_some _ (Heap.get?_push_of_some _ (Heap.get?_push_size _ B2.free)))
  have g1 : (zh5 s.heap o1 o2).get? s.heap.objs.size = some o1 := Heap.get?_push_of_some _ (Heap.get?_push_of_some _ (Heap.get?_push_of_some _ (Heap.get?_push_of_some _ (Heap.get?_push_size _ B1.free))))
  show _ ∧ _
  rw [y2, y3, y4] at g5
  rw [y1, y2] at g3
  rw [y3] at g4
  rw [y1] at g2
  rw [y4]
  exact ⟨⟨_, g5, rfl⟩, h _ g5 g3 g4 g1 g2 y5 fun c o x => Heap.get?_push_of_some _ (Heap.get?_push_of_some _ (Heap.get?_push_of_some _ (Heap.get?_push_of_some _ (Heap.get?_push_of_some _ x))))⟩
/-- enumerate of such a zip -/
theorem en_new {z TI TO : Addr} {f0 f1 : Value} : Meets (Builtin.«enumerate.__new__» ⟨[.type "enumerate", .ref z], []⟩) (fun _ R s => Zst s.heap z TI TO f0 f1 ∧
      R (.ok (.ret (.ref s.heap.objs.size))) { s with heap := s.heap.push { cls := .type "enumerate", data := .fields #[.none, .bool false, .ref z, rawInt 0, .none, .none] } }) :=
  .of_wp fun prog w A R s h => by
    obtain ⟨hp, g, d, tk, os⟩ := s; obtain ⟨h1, h⟩ := h
    have hsub := sub_enumerate
    have q1 : ∀ {A' : Around} {E : Value → Shared → Prop} {Q : Value → Shared → Prop}, Q (.ref z) ⟨hp, g, d, tk, os⟩ → wpAny (model prog w) A' (pyIter (.ref z)) Q E ⟨hp, g, d, tk, os⟩ := fun q => iter_zst (s := ⟨hp, g, d, tk, os⟩) h1 q
    wp_walk using q1
    refine wpAny_stack_any fun st => wpAny_pure ?_
    split
    · rename_i c _ _ _ _ _
      cases (c == Value.type "enumerate")
      · wp_walk using q1
        exact ⟨_, rfl, h⟩
      · wp_walk using q1
        exact ⟨_, rfl, h⟩
    · wp_walk using q1
      exact ⟨_, rfl, h⟩
theorem en_call {z TI TO : Addr} {f0 f1 : Value} {Q : Value → Shared → Prop} (hz : Zst s.heap z TI TO f0 f1)
    (h : ∀ h', IsEnum h' s.heap.objs.size z 0 .none → h'.objs.size = s.heap.objs.size + 1 → (∀ b o, s.heap.get? b = some o → h'.get? b = some o) → Q (.ref s.heap.objs.size) { s with heap := h' }) :
    wpAny (model prog w) A (call (.type "enumerate") [.ref z]) Q E s := by
  refine callType_new F.called_enumerate (by decide) (F.typeCall_enumerate_1 _) (F.newCall_enumerate_1 _) (fun obj => F.args_object_init_2 obj _) F.entry_enumerate_new en_new ⟨hz, ?_⟩
  have he := Heap.get?_push_size s.heap (o := { cls := .type "enumerate", data := .fields #[.none, .bool false, .ref z, rawInt 0, .none, .none] }) rfl
  exact ⟨⟨_, he, rfl⟩, h _ he (Heap.size_push ..) fun b o x => Heap.get?_push_of_some _ x⟩
end
end EvZ

namespace EvZ
open PySem PySem.Spec PyProof.Rows L2
section
variable {M : PySem.Model} {A : Around} {E : Value → Shared → Prop} {s : Shared} {env : Env}
/-- a built-in class called with keywords -/
theorem callT_kw {pos : Pos} {T : String} {e : Expr} {rest : List Expr} {kws : List Keyword} {Q : Value → Shared → Prop}
    (h : wpAny M A (spliced (backTo pos (starEach (e :: rest) env))) (fun vs s₁ => wpAny M A (evalAll ((backToKw pos (keywordEach kws env)).map (·.2)))
      (fun kvs s₂ => wpAny M A (call (.type T) vs (((backToKw pos (keywordEach kws env)).filterMap (·.1)).zip kvs)) Q E s₂) E s₁) E s)
    (he : backTo pos (starEach (e :: rest) env) = (false, eval e env) :: backTo pos (starEach rest env) := by rfl)
    (hplain : (backTo pos (starEach (e :: rest) env)).any (·.1) = false := by rfl)
    (hall : (backToKw pos (keywordEach kws env)).all (·.1.isSome) = true := by rfl) (hkw : (backToKw pos (keywordEach kws env)).any (·.1.isNone) = false := by rfl) :
    wpAny M A (callWith pos (.type T) [] (backTo pos (starEach (e :: rest) env)) (backToKw pos (keywordEach kws env))) Q E s := by
  have h2 : wpAny M A (evalArgs (.type T) true (backTo pos (starEach (e :: rest) env)) (backToKw pos (keywordEach kws env))) (fun a s₁ => wpAny M A (call (.type T) ([] ++ a.pos) a.kw) Q E s₁) E s := by
    rw [he] at h ⊢
    exact evalArgs_kwB hall h
  unfold callWith
  refine wpAny_bind (wpAny_holding (wpAny_mono h2 (fun a s₁ h₁ => wpAny_bind (wpAny_standAt ?_)) fun _ _ x => x))
  simp only [hplain, hkw, Bool.or_false]
  exact wpAny_bind (wpAny_pure (wpAny_bind (wpAny_mono h₁ (fun r s₂ hr => wpAny_bind (wpAny_holding (wpAny_point (wpAny_pure hr)))) fun _ _ x => x)))
end
/-- a list or a tuple -/
inductive Kd where
  | l | t
def Kd.it : Kd → Heap → Addr → Addr → Nat → Prop
  | .l, h, i, a, n => h.IsListIter i a n
  | .t, h, i, a, n => h.IsTupleIter i a n
def Kd.sq : Kd → Heap → Addr → Array Value → Prop
  | .l, h, a, vs => h.IsList a vs
  | .t, h, a, vs => h.IsTuple a vs
def Kd.ob : Kd → Addr → Obj
  | .l, a => { cls := .type "list_iterator", data := .fields #[.ref a, .int 0 0] }
  | .t, a => { cls := .type "tuple_iterator", data := .fields #[.ref a, .int 0 0] }
def Kd.V (k : Kd) (K : PySem.W.Frag) (H : Hp) (a : Addr) (xs : List V) : Prop := match k with
  | .l => SqL K H a xs
  | .t => SqT K H a xs
theorem kd_begins : ∀ (k : Kd) (a : Addr) (vs : Array Value), Begins (.ref a) (k.ob a) fun h => k.sq h a vs
  | .l, a, vs => begins_list a vs
  | .t, a, vs => begins_tuple a vs
theorem kd_draws {prog : Program} {w : World} {A : Around} (hh : A.handled = none) (it l : Addr) (hne : l ≠ it) (items : Array Value) : ∀ k : Kd, Draws prog w A it [it, l] items.size (fun i v => items[i]? = some v) (fun i h => k.it h it l i ∧ k.sq h l items)
  | .l => Draws.list hh it l hne items
  | .t => Draws.tuple hh it l hne items
theorem kd_start {h : Heap} {i a : Addr} : ∀ (k : Kd), h.get? i = some (k.ob a) → k.it h i a 0
  | .l, e => ⟨_, e, rfl, rfl⟩
  | .t, e => ⟨_, e, rfl, rfl⟩
theorem kd_lt {h : Heap} {a : Addr} {vs : Array Value} : ∀ (k : Kd), k.sq h a vs → a < h.objs.size
  | .l, ⟨o, ho, _⟩ => Heap.lt_size ho
  | .t, ⟨o, ho, _⟩ => Heap.lt_size ho
theorem kd_obj {h : Heap} {i a : Addr} {n : Nat} : ∀ (k : Kd), k.it h i a n → ∃ o, h.get? i = some o ∧ ∀ v, o.data ≠ .cell v
  | .l, ⟨o, ho, _, d⟩ => ⟨o, ho, fun v q => by rw [d] at q; cases q⟩
  | .t, ⟨o, ho, _, d⟩ => ⟨o, ho, fun v q => by rw [d] at q; cases q⟩
theorem kd_at {h h' : Heap} {i a : Addr} {n : Nat} : ∀ (k : Kd), k.it h i a n → (∀ o, h.get? i = some o → h'.get? i = some o) → k.it h' i a n
  | .l, x, e => x.at e
  | .t, x, e => x.at e
theorem kd_inv {X : Cx} {pins : List (Addr × Obj)} {σ : L2.St} {H : Hp} {s : Shared} (I : Inv X pins σ H s) {a : Addr} {xs : List V} : ∀ (k : Kd), k.V X.K H a xs → ∃ its : List Value, Vals xs its ∧ k.sq s.heap a its.toArray
  | .l, h => by
    obtain ⟨its, rv, p, _⟩ := I.list h
    exact ⟨its, rv, p.isList⟩
  | .t, h => by
    obtain ⟨its, rv, p, _⟩ := I.tuple h
    exact ⟨its, rv, p⟩
theorem kd_inj {X : Cx} {pins : List (Addr × Obj)} {σ : L2.St} {H : Hp} {s : Shared} (I : Inv X pins σ H s) {a : Addr} {xs ys : List V} : ∀ (k : Kd), k.V X.K H a xs → k.V X.K H a ys → xs = ys
  | .l, h, h' => I.list_inj h h'
  | .t, h, h' => I.tuple_inj h h'
theorem sep_of {z TI TO i1 i2 a b : Addr} (D : ZipApart z TI TO i1 i2 a b) : ZipSep2 z TI TO i1 i2 [i1, a] [i2, b] where
  TIz := D.TIz
  TOz := D.TOz
  TITO := D.TITO
  TIi1 := D.TIi1
  mem1 := by simp
  zf1 := by simp; exact ⟨D.i1z.symm, D.l1z.symm⟩
  Tf1 := by simp; exact ⟨D.TOi1, D.l1TO.symm⟩
  TIi2 := D.TIi2
  mem2 := by simp
  zf2 := by simp; exact ⟨D.i2z.symm, D.l2z.symm⟩
  Tf2 := by simp; exact ⟨D.TOi2, D.l2TO.symm⟩
  sep1_2 := by simp; exact ⟨D.i12, D.l2i1.symm⟩
  sep2_1 := by simp; exact ⟨D.i12.symm, D.l1i2.symm⟩
/-- what stands at a and b, of like length, the items in new pairs -/
def ItS (K : PySem.W.Frag) (k1 k2 : Kd) (a b : Addr) : It :=
  ⟨fun i H => ∃ (xs ys : List V) (x y : V), k1.V K H a xs ∧ k2.V K H b ys ∧ xs[i]? = some x ∧ ys[i]? = some y,
    fun i H v H' => ∃ T x y, v = .ref T ∧ H T = none ∧ H' = upd H T (.tup [x, y]) ∧ (∀ xs, k1.V K H a xs → xs[i]? = some x) ∧ ∀ ys, k2.V K H b ys → ys[i]? = some y,
    fun i H => ∃ xs ys : List V, k1.V K H a xs ∧ k2.V K H b ys ∧ xs.length = i ∧ ys.length = i⟩
theorem turn_zst {P : Program} {w : World} {K : PySem.W.Frag} {elts : List Expr} {kk : Nat} {tpos : Pos} {a b z TI TO i1 i2 : Addr} (k1 k2 : Kd) (D : ZipApart z TI TO i1 i2 a b) :
    Turn P w K (.Tuple elts kk tpos) (ItS K k1 k2 a b) [z, TI, TO, i1, i2] z (fun i h => Zst h z TI TO .none (.bool false) ∧ IsTupOf2 h TI (.ref i1) (.ref i2) ∧ (∃ x y, IsTupOf2 h TO x y) ∧ k1.it h i1 a i ∧ k2.it h i2 b i) where
  mem := by simp
  obj := fun i h st c hc => by
    obtain ⟨hz, hTI, ⟨x, y, hTO⟩, h1, h2⟩ := st
    have e' : c = z ∨ c = TI ∨ c = TO ∨ c = i1 ∨ c = i2 := by simpa using hc
    rcases e' with q | q | q | q | q
    · rw [q]; exact ⟨_, hz, fun v q => nomatch q⟩
    · rw [q]; exact ⟨_, hTI, fun v q => nomatch q⟩
    · rw [q]; exact ⟨_, hTO, fun v q => nomatch q⟩
    · rw [q]; exact kd_obj k1 h1
    · rw [q]; exact kd_obj k2 h2
  keep := fun i h h' st k => by
    obtain ⟨hz, hTI, ⟨x, y, hTO⟩, h1, h2⟩ := st
    exact ⟨k z (by simp) _ hz, k TI (by simp) _ hTI, ⟨x, y, k TO (by simp) _ hTO⟩, kd_at k1 h1 fun o q => k i1 (by simp) o q, kd_at k2 h2 fun o q => k i2 (by simp) o q⟩
  item := by
    intro X hP hw hK hc i pins s σ H E I hf st hg
    subst hP hw hK
    obtain ⟨hz, hTI, ⟨x0, y0, hTO⟩, h1, h2⟩ := st
    obtain ⟨xs, ys, x, y, hqx, hqy, hx, hy⟩ := hg
    obtain ⟨its, rv, p⟩ := kd_inv I k1 hqx
    obtain ⟨its2, rv2, p2⟩ := kd_inv I k2 hqy
    obtain ⟨u, hu, ru⟩ := rv.get hx
    obtain ⟨u2, hu2, ru2⟩ := rv2.get hy
    have hzl : z < s.heap.objs.size := Heap.lt_size hz
    have D1 := kd_draws (prog := X.prog) (w := X.w) (A := X.A.in1) (I.ok.hd hc) i1 a D.l1i1 its.toArray k1
    have D2 := kd_draws (prog := X.prog) (w := X.w) (A := X.A.in1) (I.ok.hd hc) i2 b D.l2i2 its2.toArray k2
    refine py_item (sep_of D) D1 D2 hz hTI hTO ⟨h1, p⟩ ⟨h2, p2⟩ (by rw [List.size_toArray]; exact (List.getElem?_eq_some_iff.mp hu).1) (by rw [List.size_toArray]; exact (List.getElem?_eq_some_iff.mp hu2).1) fun w1 w2 h' tk q1 q2 z' TO' h1' h2' hT hsz hk => ?_
    have e1 : w1 = u := by
      have q : its.toArray[i]? = some w1 := q1
      rw [List.getElem?_toArray, hu] at q
      cases q
      rfl
    have e2 : w2 = u2 := by
      have q : its2.toArray[i]? = some w2 := q2
      rw [List.getElem?_toArray, hu2] at q
      cases q
      rfl
    subst e1 e2
    refine ⟨_, rfl, go_zst (s := { s with heap := h', toks := tk }) z' fun h'' z'' sb => ?_⟩
    have hT2 : h''.get? s.heap.objs.size = some { cls := .type "tuple", data := .seq #[w1, w2] } := (sb.2 _ (Nat.ne_of_gt hzl)).trans hT
    have new : ObjOk X.prog X.w (upd H s.heap.objs.size (.tup [x, y])) h'' s.heap.objs.size (.tup [x, y]) := ⟨Ev.two_sz, [w1, w2], .cons ru (.cons ru2 .nil), ⟨_, hT2, rfl, _, rfl⟩⟩
    have I1 : Inv X pins σ (upd H s.heap.objs.size (.tup [x, y])) { s with heap := h'', toks := tk } :=
      I.turnedNew (ch := [z, TI, TO, i1, i2]) (fun c o hb q => (sb.2 c (fun q' => hb (by simp [q']))).trans (hk c o (fun q' => hb (by simp [q'])) (fun q' => hb (by simp [q'])) (fun q' => hb (by simp [q'])) (fun q' => hb (by simp [q'])) q)) hf (Nat.le_refl _) new
    refine ⟨.ref s.heap.objs.size, _, I1, rfl, ⟨_, x, y, rfl, I.hok.fresh (Nat.le_refl _), rfl, fun l hl => by rw [kd_inj I k1 hl hqx]; exact hx, fun l hl => by rw [kd_inj I k2 hl hqy]; exact hy⟩, ⟨z'', ?_, ⟨w1, w2, ?_⟩, ?_, ?_⟩, fun c hcm => ?_⟩
    · exact (sb.2 _ D.TIz).trans (hk _ _ D.TIz D.TITO D.TIi1 D.TIi2 hTI)
    · exact (sb.2 _ D.TOz).trans TO'
    · exact kd_at k1 h1'.1 fun o q => (sb.2 _ D.i1z).trans q
    · exact kd_at k2 h2'.1 fun o q => (sb.2 _ D.i2z).trans q
    · have hlt : c < s.heap.objs.size := by
        have e' : c = z ∨ c = TI ∨ c = TO ∨ c = i1 ∨ c = i2 := by simpa using hcm
        rcases e' with q | q | q | q | q
        · rw [q]; exact hzl
        · rw [q]; exact Heap.lt_size hTI
        · rw [q]; exact Heap.lt_size hTO
        · rw [q]; obtain ⟨_, e1, _⟩ := kd_obj k1 h1; exact Heap.lt_size e1
        · rw [q]; obtain ⟨_, e2, _⟩ := kd_obj k2 h2; exact Heap.lt_size e2
      rw [upd_ne (Nat.ne_of_lt hlt)]
      exact (hf c hcm).1
  done := by
    intro X hP hw hK hc i pins s σ H E I hf st hg
    subst hP hw hK
    obtain ⟨hz, hTI, ⟨x0, y0, hTO⟩, h1, h2⟩ := st
    obtain ⟨xs, ys, hqx, hqy, hend1, hend2⟩ := hg
    obtain ⟨its, rv, p⟩ := kd_inv I k1 hqx
    obtain ⟨its2, rv2, p2⟩ := kd_inv I k2 hqy
    have l1 := rv.length
    have l2 := rv2.length
    have D1 := kd_draws (prog := X.prog) (w := X.w) (A := X.A.in1) (I.ok.hd hc) i1 a D.l1i1 its.toArray k1
    have D2 := kd_draws (prog := X.prog) (w := X.w) (A := X.A.in1) (I.ok.hd hc) i2 b D.l2i2 its2.toArray k2
    have n1 : its.toArray.size = i := by rw [List.size_toArray]; omega
    have n2 : its2.toArray.size = i := by rw [List.size_toArray]; omega
    rw [n1] at D1
    rw [n2] at D2
    exact py_end (I.ok.hd hc) (sep_of D) D1 D2 hz hTI hTO ⟨h1, p⟩ ⟨h2, p2⟩ fun h' hk => ⟨rfl, I.turnedL (t' := s.toks) (ch := [z, TI, TO, i1, i2]) (fun c o hb q => hk c o (fun q' => hb (by simp [q'])) (fun q' => hb (by simp [q'])) (fun q' => hb (by simp [q'])) (fun q' => hb (by simp [q'])) q) hf⟩
  self := fun A i s Q E st h => iter_zst st.1 h
end EvZ

/-! EvZipU: enumerate of a strict zip as something walked. -/
namespace EvZ
open PySem PySem.Spec PyProof.Rows L2
theorem turned2 {X : Cx} {pins : List (Addr × Obj)} {σ : L2.St} {H : Hp} {s : Shared} {h' : Heap} {t' : Nat} {ch : List Addr} {T U : Addr} {ob ob2 : HO} (I : Inv X pins σ H s) (k : ∀ b o, b ∉ ch → s.heap.get? b = some o → h'.get? b = some o) (hf : ∀ b ∈ ch, FpOk X pins H b) (hT : s.heap.objs.size ≤ T) (hU : s.heap.objs.size ≤ U)
    (n1 : ObjOk X.prog X.w (upd (upd H T ob) U ob2) h' T ob) (n2 : ObjOk X.prog X.w (upd (upd H T ob) U ob2) h' U ob2) (hTU : T ≠ U) : Inv X pins σ (upd (upd H T ob) U ob2) { s with heap := h', toks := t' } := by
  have hn : H T = none := I.hok.fresh hT
  have hn2 : H U = none := I.hok.fresh hU
  have up : ∀ b, H b ≠ none → upd (upd H T ob) U ob2 b = H b := fun b e => by
    rw [upd_ne fun q => e (by rw [q]; exact hn2), upd_ne fun q => e (by rw [q]; exact hn)]
  have nit : ∀ b u, H b = some u → b ∉ ch := fun b u e z => by
    have q := (hf b z).1
    rw [q] at e; cases e
  refine I.step (g' := s.gens) (d' := s.drawn) (ch := ch) (fun b hb => ⟨(hf b hb).2.2.2.1, (hf b hb).2.1, (hf b hb).2.2.2.2.1, (hf b hb).2.2.2.2.2⟩) (fun b o _ _ hc e _ => k b o hc e) (fun b o _ _ hc e _ => ⟨o.slots, k b o hc e⟩)
    (fun b o _ e n => ?_) (fun b o hc e => ⟨o, k b o hc e⟩) (fun b xs e => ?_) (fun b o u e => ?_) (fun b ps e => ⟨#[], ?_⟩) (fun m hm => ?_) (fun b u e => ?_) I.bare
  · rw [upd_ne (Nat.ne_of_lt (Nat.lt_of_lt_of_le (Heap.lt_size e) hU)), upd_ne (Nat.ne_of_lt (Nat.lt_of_lt_of_le (Heap.lt_size e) hT))]; exact n
  · rw [up b (by rw [e]; exact Option.some_ne_none _)]; exact e
  · rw [up b (by rw [e]; exact Option.some_ne_none _)]; exact e
  · rw [up b (by rw [e]; exact Option.some_ne_none _), e]; simp
  · obtain ⟨o, es, ep, ho, r⟩ := hm
    exact ⟨o, es, ep, k _ o (fun z => (hf _ z).2.1 rfl) ho, r⟩
  · by_cases hb2 : b = U
    · subst hb2
      rw [upd_same] at e
      cases e
      exact n2
    · by_cases hb : b = T
      · subst hb
        rw [upd_ne hTU, upd_same] at e
        cases e
        exact n1
      · rw [upd_ne hb2, upd_ne hb] at e
        refine (I.hok b u e).stay (fun c v hc q => k c v ?_ q) (fun c q => by rw [up c (by rw [q]; exact Option.some_ne_none _)]; exact q) fun c xs q => by rw [up c (by rw [q]; exact Option.some_ne_none _)]; exact q
        rcases hc with z | z
        · rw [z]; exact nit b u e
        · exact nit c _ z
/-- .. with its number, in new pairs -/
def ItE (K : PySem.W.Frag) (k1 k2 : Kd) (a b : Addr) : It :=
  ⟨fun i H => ∃ (xs ys : List V) (x y : V), k1.V K H a xs ∧ k2.V K H b ys ∧ xs[i]? = some x ∧ ys[i]? = some y,
    fun i H v H' => ∃ T U x y, v = .ref U ∧ H T = none ∧ H U = none ∧ T ≠ U ∧ H' = upd (upd H T (.tup [x, y])) U (.tup [.int (i : Nat), .ref T]) ∧ (∀ xs, k1.V K H a xs → xs[i]? = some x) ∧ ∀ ys, k2.V K H b ys → ys[i]? = some y,
    fun i H => ∃ xs ys : List V, k1.V K H a xs ∧ k2.V K H b ys ∧ xs.length = i ∧ ys.length = i⟩
structure EApart (e z TI TO i1 i2 a b : Addr) : Prop where
  d : ZipApart z TI TO i1 i2 a b
  ez : e ≠ z
  eT : e ≠ TI
  eO : e ≠ TO
  e1 : e ≠ i1
  e2 : e ≠ i2
  ea : e ≠ a
  eb : e ≠ b
theorem turn_ezst {P : Program} {w : World} {K : PySem.W.Frag} {elts : List Expr} {kk : Nat} {tpos : Pos} {a b e z TI TO i1 i2 : Addr} (k1 k2 : Kd) (D' : EApart e z TI TO i1 i2 a b) :
    Turn P w K (.Tuple elts kk tpos) (ItE K k1 k2 a b) [e, z, TI, TO, i1, i2] e (fun i h => (∃ old, IsEnum h e z ((i : Nat) : Int) old) ∧ (∃ f0 fb, ShZ f0 ∧ Zst h z TI TO f0 (.bool fb)) ∧ IsTupOf2 h TI (.ref i1) (.ref i2) ∧ (∃ x y, IsTupOf2 h TO x y) ∧ k1.it h i1 a i ∧ k2.it h i2 b i) where
  mem := by simp
  obj := fun i h st c hc => by
    obtain ⟨⟨old, he⟩, ⟨f0, fb, sh, hz⟩, hTI, ⟨x, y, hTO⟩, h1, h2⟩ := st
    have e' : c = e ∨ c = z ∨ c = TI ∨ c = TO ∨ c = i1 ∨ c = i2 := by simpa using hc
    rcases e' with q | q | q | q | q | q
    · rw [q]; exact ⟨_, he, fun v q => nomatch q⟩
    · rw [q]; exact ⟨_, hz, fun v q => nomatch q⟩
    · rw [q]; exact ⟨_, hTI, fun v q => nomatch q⟩
    · rw [q]; exact ⟨_, hTO, fun v q => nomatch q⟩
    · rw [q]; exact kd_obj k1 h1
    · rw [q]; exact kd_obj k2 h2
  keep := fun i h h' st k => by
    obtain ⟨⟨old, he⟩, ⟨f0, fb, sh, hz⟩, hTI, ⟨x, y, hTO⟩, h1, h2⟩ := st
    exact ⟨⟨old, k e (by simp) _ he⟩, ⟨f0, fb, sh, k z (by simp) _ hz⟩, k TI (by simp) _ hTI, ⟨x, y, k TO (by simp) _ hTO⟩, kd_at k1 h1 fun o q => k i1 (by simp) o q, kd_at k2 h2 fun o q => k i2 (by simp) o q⟩
  item := by
    intro X hP hw hK hc i pins s σ H E I hf st hg
    subst hP hw hK
    have D := D'.d
    obtain ⟨⟨old, he⟩, ⟨f0, fb, sh, hz⟩, hTI, ⟨x0, y0, hTO⟩, h1, h2⟩ := st
    obtain ⟨xs, ys, x, y, hqx, hqy, hx, hy⟩ := hg
    obtain ⟨its, rv, p⟩ := kd_inv I k1 hqx
    obtain ⟨its2, rv2, p2⟩ := kd_inv I k2 hqy
    obtain ⟨u, hu, ru⟩ := rv.get hx
    obtain ⟨u2, hu2, ru2⟩ := rv2.get hy
    have hel : e < s.heap.objs.size := Heap.lt_size he
    have hzl : z < s.heap.objs.size := Heap.lt_size hz
    have D1 := kd_draws (prog := X.prog) (w := X.w) (A := X.A.in1.in1) (I.ok.hd hc) i1 a D.l1i1 its.toArray k1
    have D2 := kd_draws (prog := X.prog) (w := X.w) (A := X.A.in1.in1) (I.ok.hd hc) i2 b D.l2i2 its2.toArray k2
    refine enpy_item sh (sep_of D) D1 D2 he (by simp; exact ⟨D'.e1, D'.ea⟩) (by simp; exact ⟨D'.e2, D'.eb⟩) D'.ez D'.eT D'.eO hz hTI hTO ⟨h1, p⟩ ⟨h2, p2⟩ (by rw [List.size_toArray]; exact (List.getElem?_eq_some_iff.mp hu).1) (by rw [List.size_toArray]; exact (List.getElem?_eq_some_iff.mp hu2).1)
      fun w1 w2 h' tk g0 gb v1 v2 q1 q2 sh' eo z' TI' TO' h1' h2' hT hU hsz hk => ?_
    have e1 : w1 = u := by
      have q : its.toArray[i]? = some w1 := q1
      rw [List.getElem?_toArray, hu] at q
      cases q
      rfl
    have e2 : w2 = u2 := by
      have q : its2.toArray[i]? = some w2 := q2
      rw [List.getElem?_toArray, hu2] at q
      cases q
      rfl
    subst e1 e2
    refine ⟨_, rfl, wpAny_letOwnedTupleGo_enum (s := { s with heap := h', toks := tk + 1 }) eo fun h'' e'' sb => ?_⟩
    have TU : s.heap.objs.size ≠ s.heap.objs.size + 1 := by omega
    have hT2 : h''.get? s.heap.objs.size = some { cls := .type "tuple", data := .seq #[w1, w2] } := (sb.2 _ (Nat.ne_of_gt hel)).trans hT
    have hU2 : h''.get? (s.heap.objs.size + 1) = some { cls := .type "tuple", data := .seq #[.int i tk, .ref s.heap.objs.size] } := (sb.2 _ (Nat.ne_of_gt (Nat.lt_succ_of_lt hel))).trans hU
    have new : ObjOk X.prog X.w (upd (upd H s.heap.objs.size (.tup [x, y])) (s.heap.objs.size + 1) (.tup [.int (i : Nat), .ref s.heap.objs.size])) h'' s.heap.objs.size (.tup [x, y]) := ⟨Ev.two_sz, [w1, w2], .cons ru (.cons ru2 .nil), ⟨_, hT2, rfl, _, rfl⟩⟩
    have new2 : ObjOk X.prog X.w (upd (upd H s.heap.objs.size (.tup [x, y])) (s.heap.objs.size + 1) (.tup [.int (i : Nat), .ref s.heap.objs.size])) h'' (s.heap.objs.size + 1) (.tup [.int (i : Nat), .ref s.heap.objs.size]) :=
      ⟨Ev.two_sz, [.int i tk, .ref s.heap.objs.size], .cons ⟨_, rfl⟩ (.cons rfl .nil), ⟨_, hU2, rfl, _, rfl⟩⟩
    have I1 : Inv X pins σ (upd (upd H s.heap.objs.size (.tup [x, y])) (s.heap.objs.size + 1) (.tup [.int (i : Nat), .ref s.heap.objs.size])) { s with heap := h'', toks := tk + 1 } :=
      turned2 (ch := [e, z, TI, TO, i1, i2]) I (fun c o hb q => (sb.2 c (fun q' => hb (by simp [q']))).trans (hk c o (fun q' => hb (by simp [q'])) (fun q' => hb (by simp [q'])) (fun q' => hb (by simp [q'])) (fun q' => hb (by simp [q'])) (fun q' => hb (by simp [q'])) q)) hf (Nat.le_refl _) (Nat.le_succ _) new new2 TU
    refine ⟨.ref (s.heap.objs.size + 1), _, I1, rfl, ⟨s.heap.objs.size, s.heap.objs.size + 1, x, y, rfl, I.hok.fresh (Nat.le_refl _), I.hok.fresh (Nat.le_succ _), TU, rfl, fun l hl => by rw [kd_inj I k1 hl hqx]; exact hx, fun l hl => by rw [kd_inj I k2 hl hqy]; exact hy⟩, ⟨⟨.ref s.heap.objs.size, ?_⟩, ⟨g0, gb, sh', ?_⟩, ?_, ⟨v1, v2, ?_⟩, ?_, ?_⟩, fun c hcm => ?_⟩
    · have q : ((i + 1 : Nat) : Int) = (i : Int) + 1 := by omega
      rw [q]; exact e''
    · exact (sb.2 _ D'.ez.symm).trans z'
    · exact (sb.2 _ D'.eT.symm).trans TI'
    · exact (sb.2 _ D'.eO.symm).trans TO'
    · exact kd_at k1 h1'.1 fun o q => (sb.2 _ D'.e1.symm).trans q
    · exact kd_at k2 h2'.1 fun o q => (sb.2 _ D'.e2.symm).trans q
    · have hlt : c < s.heap.objs.size := by
        have e' : c = e ∨ c = z ∨ c = TI ∨ c = TO ∨ c = i1 ∨ c = i2 := by simpa using hcm
        rcases e' with q | q | q | q | q | q
        · rw [q]; exact hel
        · rw [q]; exact hzl
        · rw [q]; exact Heap.lt_size hTI
        · rw [q]; exact Heap.lt_size hTO
        · rw [q]; obtain ⟨_, e1, _⟩ := kd_obj k1 h1; exact Heap.lt_size e1
        · rw [q]; obtain ⟨_, e2, _⟩ := kd_obj k2 h2; exact Heap.lt_size e2
      rw [upd_ne (Nat.ne_of_lt (Nat.lt_succ_of_lt hlt)), upd_ne (Nat.ne_of_lt hlt)]
      exact (hf c hcm).1
  done := by
    intro X hP hw hK hc i pins s σ H E I hf st hg
    subst hP hw hK
    have D := D'.d
    obtain ⟨⟨old, he⟩, ⟨f0, fb, sh, hz⟩, hTI, ⟨x0, y0, hTO⟩, h1, h2⟩ := st
    obtain ⟨xs, ys, hqx, hqy, hend1, hend2⟩ := hg
    obtain ⟨its, rv, p⟩ := kd_inv I k1 hqx
    obtain ⟨its2, rv2, p2⟩ := kd_inv I k2 hqy
    have l1 := rv.length
    have l2 := rv2.length
    have D1 := kd_draws (prog := X.prog) (w := X.w) (A := X.A.in1.in1) (I.ok.hd hc) i1 a D.l1i1 its.toArray k1
    have D2 := kd_draws (prog := X.prog) (w := X.w) (A := X.A.in1.in1) (I.ok.hd hc) i2 b D.l2i2 its2.toArray k2
    have n1 : its.toArray.size = i := by rw [List.size_toArray]; omega
    have n2 : its2.toArray.size = i := by rw [List.size_toArray]; omega
    rw [n1] at D1
    rw [n2] at D2
    exact enpy_end sh (I.ok.hd hc) (sep_of D) D1 D2 he hz hTI hTO ⟨h1, p⟩ ⟨h2, p2⟩ fun h' hk => ⟨rfl, I.turnedL (t' := s.toks) (ch := [e, z, TI, TO, i1, i2]) (fun c o hb q => hk c o (fun q' => hb (by simp [q'])) (fun q' => hb (by simp [q'])) (fun q' => hb (by simp [q'])) (fun q' => hb (by simp [q'])) q) hf⟩
  self := fun A i s Q E st h => let ⟨⟨_, he⟩, _⟩ := st; wpAny_pyIter_enum he h
end EvZ

/-! EvZipV: for .. in zip(a, b, strict=True), for .. in enumerate(zip(a, b, strict=True)), on trees. -/
namespace EvZ
open PySem PySem.Spec PyProof.Rows L2
def zipCall (e e2 : Expr) (nm : Str) (j : Nat) (cp kp p pos : Pos) : Expr := .Call (.Name "zip" p) [e, e2] [⟨some nm, .Constant (.bool true) j cp, kp⟩] pos
/-- a strict zip made -/
theorem zst_made {X : Cx} {e e2 : Expr} {ta : TA} {nm : Str} {j : Nat} {cp kp p pos : Pos} {pins : List (Addr × Obj)} {s : Shared} {σ : L2.St} {H : Hp} {Q : List V → Hp → Prop} {R : Value → Shared → Prop} (hn : nm = Str.ofString "strict") (I : Inv X pins σ H s) (hg : Gl X "zip") (hm : X.mg "zip" = none) (ha : PA X [e, e2] ta) (h : ta σ H Q)
    (he : backTo pos (starEach [e, e2] X.env) = (false, eval e X.env) :: backTo pos (starEach [e2] X.env)) (hplain : (backTo pos (starEach [e, e2] X.env)).any (·.1) = false)
    (k : ∀ us s1 vs H1, Inv X pins σ H1 s1 → Vals vs us → Q vs H1 → wpAny (model X.prog X.w) X.A (PySem.call (.type "zip") us kwS) R X.xe s1) :
    wpAny (model X.prog X.w) X.A (eval (.Call (.Name "zip" p) [e, e2] [⟨some nm, .Constant (.bool true) j cp, kp⟩] pos) X.env) R X.xe s := by
  subst hn
  refine wpAny_Call_Name_kw (ld_blt I hg hm PyProof.Rows.boot_zip ?_)
  refine callT_kw (thn (ha.run pos pins s σ H _ I h) fun us s1 ⟨vs, H1, I1, r1, q1⟩ => ?_) he hplain rfl rfl
  have hk : PK X [⟨some (Str.ofString "strict"), .Constant (.bool true) j cp, kp⟩] (tCons (tC (.bl true)) tNil) := pk_cons pe_bl pk_nil
  refine thn (hk.run pos pins s1 σ H1 (fun zs H2 => zs = [.bl true] ∧ Q vs H2) I1 ⟨rfl, q1⟩) fun ws s2 ⟨zs, H2, I2, r2, q2⟩ => ?_
  obtain ⟨rfl, q2⟩ := q2
  obtain ⟨w1, rfl, e1⟩ := vals1 r2
  obtain rfl : w1 = Value.bool true := e1
  exact k us s2 vs H2 I2 r1 q2
def iZst (K : PySem.W.Frag) (ta : TA) : TI := fun σ H R => ta σ H fun vs H1 => ∃ (k1 k2 : Kd) (a b : Addr) (xs ys : List V), vs = [.ref a, .ref b] ∧ k1.V K H1 a xs ∧ k2.V K H1 b ys ∧ R (ItS K k1 k2 a b) H1
def iEzst (K : PySem.W.Frag) (ta : TA) : TI := fun σ H R => ta σ H fun vs H1 => ∃ (k1 k2 : Kd) (a b : Addr) (xs ys : List V), vs = [.ref a, .ref b] ∧ k1.V K H1 a xs ∧ k2.V K H1 b ys ∧ R (ItE K k1 k2 a b) H1
theorem pi_zst {X : Cx} {e e2 : Expr} {ta : TA} {nm : Str} {j : Nat} {cp kp p pos tpos : Pos} {elts : List Expr} {kk : Nat} (hn : nm = Str.ofString "strict") (hg : Gl X "zip") (hm : X.mg "zip" = none) (ha : PA X [e, e2] ta)
    (he : backTo pos (starEach [e, e2] X.env) = (false, eval e X.env) :: backTo pos (starEach [e2] X.env)) (hplain : (backTo pos (starEach [e, e2] X.env)).any (·.1) = false) :
    PI X (.Tuple elts kk tpos) (.Call (.Name "zip" p) [e, e2] [⟨some nm, .Constant (.bool true) j cp, kp⟩] pos) (iZst X.K ta) := by
  refine ⟨fun pins s σ H R I h => zst_made hn I hg hm ha h he hplain fun us s1 vs H1 I1 r1 q1 => ?_⟩
  obtain ⟨k1, k2, a, b, xs, ys, ex, hqx, hqy, q⟩ := q1
  subst ex
  cases r1 with
  | cons r rr =>
    cases rr with
    | cons r' rr =>
      cases rr
      cases r
      cases r'
      obtain ⟨its, rv, p1⟩ := kd_inv I1 k1 hqx
      obtain ⟨its2, rv2, p2⟩ := kd_inv I1 k2 hqy
      refine zst_call (kd_begins k1 a its.toArray) (kd_begins k2 b its2.toArray) p1 p2 fun h' hz hTI hTO h1 h2 hsz hk => iter_zst hz ?_
      have I2 : Inv X pins σ H1 { s1 with heap := h' } := I1.kept (t' := s1.toks) hk
      refine ⟨s1.heap.objs.size + 4, [s1.heap.objs.size + 4, s1.heap.objs.size + 2, s1.heap.objs.size + 3, s1.heap.objs.size, s1.heap.objs.size + 1], _, _, H1, rfl, I2, turn_zst k1 k2 (PySem.W.ktu_apart s1.heap.objs.size a b (kd_lt k1 p1) (kd_lt k2 p2)), ⟨hz, hTI, ⟨_, _, hTO⟩, kd_start k1 h1, kd_start k2 h2⟩, fun c hcm => ?_, q⟩
      have e' : c = s1.heap.objs.size + 4 ∨ c = s1.heap.objs.size + 2 ∨ c = s1.heap.objs.size + 3 ∨ c = s1.heap.objs.size ∨ c = s1.heap.objs.size + 1 := by simpa using hcm
      have hle : s1.heap.objs.size ≤ c := by rcases e' with z | z | z | z | z <;> (rw [z]; omega)
      exact I1.fpOk hle (I1.hok.fresh hle)
theorem pi_ezst {X : Cx} {e e2 : Expr} {ta : TA} {nm : Str} {j : Nat} {cp kp p p' pos pos' tpos : Pos} {elts : List Expr} {kk : Nat} (hn : nm = Str.ofString "strict") (hg : Gl X "zip") (hm : X.mg "zip" = none) (hg' : Gl X "enumerate") (hm' : X.mg "enumerate" = none) (ha : PA X [e, e2] ta)
    (he : backTo pos (starEach [e, e2] X.env) = (false, eval e X.env) :: backTo pos (starEach [e2] X.env)) (hplain : (backTo pos (starEach [e, e2] X.env)).any (·.1) = false)
    (hs2 : starEach [.Call (.Name "zip" p) [e, e2] [⟨some nm, .Constant (.bool true) j cp, kp⟩] pos] X.env = (false, eval (.Call (.Name "zip" p) [e, e2] [⟨some nm, .Constant (.bool true) j cp, kp⟩] pos) X.env) :: starEach [] X.env) (hs : starEach [.Call (.Name "zip" p) [e, e2] [⟨some nm, .Constant (.bool true) j cp, kp⟩] pos] X.env = [(false, eval (.Call (.Name "zip" p) [e, e2] [⟨some nm, .Constant (.bool true) j cp, kp⟩] pos) X.env)]) :
    PI X (.Tuple elts kk tpos) (.Call (.Name "enumerate" p') [.Call (.Name "zip" p) [e, e2] [⟨some nm, .Constant (.bool true) j cp, kp⟩] pos] [] pos') (iEzst X.K ta) := by
  refine ⟨fun pins s σ H R I h => ?_⟩
  refine Call_ (ld_blt I hg' hm' boot_enumerate (PyProof.Rows.callWith_type1 ?_ hs rfl))
  refine spliced_more (zst_made hn I hg hm ha h he hplain fun us s1 vs H1 I1 r1 q1 => ?_) hs2
  obtain ⟨k1, k2, a, b, xs, ys, ex, hqx, hqy, q⟩ := q1
  subst ex
  cases r1 with
  | cons r rr =>
    cases rr with
    | cons r' rr =>
      cases rr
      cases r
      cases r'
      obtain ⟨its, rv, p1⟩ := kd_inv I1 k1 hqx
      obtain ⟨its2, rv2, p2⟩ := kd_inv I1 k2 hqy
      have la := kd_lt k1 p1
      have lb := kd_lt k2 p2
      refine zst_call (kd_begins k1 a its.toArray) (kd_begins k2 b its2.toArray) p1 p2 fun h' hz hTI hTO h1 h2 hsz hk => spliced_none ?_
      refine en_call (s := { s1 with heap := h' }) hz fun h'' he' hsz' hk' => wpAny_pyIter_enum he' ?_
      replace hsz' : h''.objs.size = h'.objs.size + 1 := hsz'
      replace he' : IsEnum h'' h'.objs.size (s1.heap.objs.size + 4) 0 .none := he'
      have I2 : Inv X pins σ H1 { s1 with heap := h'' } := I1.kept (t' := s1.toks) fun b o x => hk' b o (hk b o x)
      have D := PySem.W.ktu_apart s1.heap.objs.size a b la lb
      have DE : EApart h'.objs.size (s1.heap.objs.size + 4) (s1.heap.objs.size + 2) (s1.heap.objs.size + 3) s1.heap.objs.size (s1.heap.objs.size + 1) a b := by
        rw [hsz]
        have ne : ∀ x y : Nat, x ≠ y → ((x : Addr) ≠ y) := fun _ _ h => h
        have la' : @LT.lt Nat _ a s1.heap.objs.size := la
        have lb' : @LT.lt Nat _ b s1.heap.objs.size := lb
        exact ⟨D, ne _ _ (by omega), ne _ _ (by omega), ne _ _ (by omega), ne _ _ (by omega), ne _ _ (by omega), ne _ _ (by omega), ne _ _ (by omega)⟩
      refine ⟨h'.objs.size, [h'.objs.size, s1.heap.objs.size + 4, s1.heap.objs.size + 2, s1.heap.objs.size + 3, s1.heap.objs.size, s1.heap.objs.size + 1], _, _, H1, rfl, I2, turn_ezst k1 k2 DE,
        ⟨⟨_, he'⟩, ⟨_, _, .inl rfl, hk' _ _ hz⟩, hk' _ _ hTI, ⟨_, _, hk' _ _ hTO⟩, kd_at k1 (kd_start k1 h1) fun o x => hk' _ o x, kd_at k2 (kd_start k2 h2) fun o x => hk' _ o x⟩, fun c hcm => ?_, q⟩
      have e' : c = h'.objs.size ∨ c = s1.heap.objs.size + 4 ∨ c = s1.heap.objs.size + 2 ∨ c = s1.heap.objs.size + 3 ∨ c = s1.heap.objs.size ∨ c = s1.heap.objs.size + 1 := by simpa using hcm
      have hle : s1.heap.objs.size ≤ c := by rcases e' with z | z | z | z | z | z <;> (rw [z]; omega)
      exact I1.fpOk hle (I1.hok.fresh hle)
end EvZ

/-! EvZipW: strict zips walked, on trees. -/
namespace Ev
noncomputable section
open PySem PySem.Spec PyProof.Rows L2
theorem any_items {K : PySem.W.Frag} {G F S : AS} {H : Hp} {t : T} {v : V} {ts : List T} (w : Wd G F S H) (r : Rp K G H t v NoA) (f : frz t = true) (e : itAny t = some ts) :
    ∃ (k : EvZ.Kd) (a : Addr) (vs : List V), v = .ref a ∧ Cl K G H ts vs ∧ frzL ts = true ∧ ∀ H2 : Hp, (∀ b, G b → H2 b = H b) → k.V K H2 a vs := by
  unfold itAny at e
  cases q : itemsOf t with
  | some us =>
    rw [q] at e
    cases e
    obtain ⟨a, vs, h⟩ := list_items w r f q
    exact ⟨.l, a, vs, h⟩
  | none =>
    rw [q] at e
    obtain ⟨a, vs, h⟩ := tup_items w r f e
    exact ⟨.t, a, vs, h⟩
/-- a pair of a number and a pair -/
theorem rp_pair2 {K : PySem.W.Frag} {G : AS} {H2 : Hp} {t u : T} {i : Int} {x y : V} {p q : Addr} (dG : ∀ a, G a → H2 a ≠ none) (np : H2 p = none) (nq : H2 q = none) (pq : p ≠ q) (r1 : Rp K (fun a => G a ∨ NoA a) H2 t x NoA) (r2 : Rp K (fun a => G a ∨ NoA a) H2 u y NoA) :
    (∀ a, H2 a ≠ none → upd (upd H2 p (.tup [x, y])) q (.tup [.int i, .ref p]) a = H2 a) ∧ ∃ N : AS, (∀ a, N a → H2 a = none ∧ upd (upd H2 p (.tup [x, y])) q (.tup [.int i, .ref p]) a ≠ none) ∧ Rp K (fun a => G a ∨ N a) (upd (upd H2 p (.tup [x, y])) q (.tup [.int i, .ref p])) (.tup [.int i, .tup [t, u]]) (.ref q) NoA := by
  obtain ⟨H3, h3⟩ : ∃ H3, H3 = upd (upd H2 p (.tup [x, y])) q (.tup [.int i, .ref p]) := ⟨_, rfl⟩
  have eq : H3 q = some (.tup [.int i, .ref p]) := by rw [h3, upd_same]
  have ep : H3 p = some (.tup [x, y]) := by rw [h3, upd_ne pq, upd_same]
  have eo : ∀ a, H2 a ≠ none → H3 a = H2 a := fun a h => by
    rw [h3, upd_ne fun e => h (by rw [e]; exact nq), upd_ne fun e => h (by rw [e]; exact np)]
  rw [← h3]
  have kp : ∀ a, (G a ∨ NoA a) ∨ NoA a → H3 a = H2 a := fun a z => eo a (by
    rcases z with (z | z) | z
    · exact dG a z
    · exact z.elim
    · exact z.elim)
  refine ⟨eo, fun a => a = p ∨ a = q, fun a e => ?_, q, [.int i, .ref p], rfl, .inl ⟨.inr (.inr rfl), eq⟩, ?_⟩
  · rcases e with e | e
    · rw [e]; exact ⟨np, by rw [ep]; exact Option.some_ne_none _⟩
    · rw [e]; exact ⟨nq, by rw [eq]; exact Option.some_ne_none _⟩
  · refine ⟨.int i, [.ref p], NoA, NoA, rfl, rfl, ⟨.ref p, [], NoA, NoA, rfl, ⟨p, [x, y], rfl, .inl ⟨.inr (.inl rfl), ep⟩, ?_⟩, rfl, fun _ z => z.elim, fun _ z => z.elim, fun _ z => z.elim⟩, fun _ z => z.elim, fun _ z => z.elim, fun _ z => z.elim⟩
    exact ⟨x, [y], NoA, NoA, rfl, Rp.keep t r1 (fun _ z => z.imp id fun z => z.elim) kp, ⟨y, [], NoA, NoA, rfl, Rp.keep u r2 (fun _ z => z.imp id fun z => z.elim) kp, rfl, fun _ z => z.elim, fun _ z => z.elim, fun _ z => z.elim⟩, fun _ z => z.elim, fun _ z => z.elim, fun _ z => z.elim⟩
/-- two things of like length, item beside item; w: what is told of the pairs -/
def iZs (w : List T → List T) (f g : SE) : SI := fun st => (aCons (uV f) (aCons (uV g) aNil) st).bind fun us st => match vsOf us with
  | some [t, u] => if frz t && frz u then match itAny t, itAny u with
    | some ts, some us => if ts.length = us.length then .ok (w (zipT ts us)) st else .no
    | _, _ => .no
    else .no
  | _ => .no
theorem zs_core {K : PySem.W.Frag} {Wx : WX} {σ : L2.St} {H : Hp} {R : It → Hp → Prop} {w : List T → List T} {f g : SE} {J : EvZ.Kd → EvZ.Kd → Addr → Addr → It}
    (hJ : ∀ (G : AS) (H1 : Hp) (xs ys : List T) (vx vy : List V) (k1 k2 : EvZ.Kd) (a b : Addr), (∀ a, G a → H1 a ≠ none) → xs.length = ys.length → Cl K G H1 xs vx → Cl K G H1 ys vy → (∀ H2 : Hp, (∀ b, G b → H2 b = H1 b) → k1.V K H2 a vx) → (∀ H2 : Hp, (∀ b, G b → H2 b = H1 b) → k2.V K H2 b vy) → ItOk K G H1 (J k1 k2 a b) (w (zipT xs ys)))
    (hw : ∀ zs, frzL zs = true → frzL (w zs) = true)
    (h : RdI K Wx (iZs w f g) σ H R) : RdA K Wx (aCons (uV f) (aCons (uV g) aNil)) σ H (fun vs H1 => ∃ (k1 k2 : EvZ.Kd) (a b : Addr) (xs ys : List V), vs = [.ref a, .ref b] ∧ k1.V K H1 a xs ∧ k2.V K H1 b ys ∧ R (J k1 k2 a b) H1) := by
  obtain ⟨G, F, S, st, wd, rs, ps⟩ := h
  refine ⟨G, F, S, st, wd, rs, ?_⟩
  have ps1 : PostI K Wx G F H σ R ((aCons (uV f) (aCons (uV g) aNil) st).bind fun us st => match vsOf us with
    | some [t, u] => if frz t && frz u then match itAny t, itAny u with
      | some ts, some us => if ts.length = us.length then .ok (w (zipT ts us)) st else .no
      | _, _ => .no
      else .no
    | _ => .no) := ps
  cases e : aCons (uV f) (aCons (uV g) aNil) st with
  | ex x st1 => rw [e] at ps1; exact ps1
  | no => rw [e] at ps1; exact ps1
  | ok us st1 =>
    rw [e] at ps1
    intro vs H1 G1 S1 S2 x1 w1 d1 r1 a1
    have ps2 : PostI K Wx G F H σ R (match vsOf us with
      | some [t, u] => if frz t && frz u then match itAny t, itAny u with
        | some ts, some us => if ts.length = us.length then .ok (w (zipT ts us)) st1 else .no
        | _, _ => .no
        else .no
      | _ => .no) := ps1
    cases e2 : vsOf us with
    | none => rw [e2] at ps2; exact ps2.elim
    | some ts =>
      rw [e2] at ps2
      match ts, e2, ps2 with
      | [], _, p2 => exact p2.elim
      | [_], _, p2 => exact p2.elim
      | _ :: _ :: _ :: _, _, p2 => exact p2.elim
      | [t, u], e2, p2 =>
        have p3 : PostI K Wx G F H σ R (if (frz t && frz u) = true then match itAny t, itAny u with
          | some ts, some us => if ts.length = us.length then .ok (w (zipT ts us)) st1 else .no
          | _, _ => .no
          else .no) := p2
        by_cases hf : (frz t && frz u) = true
        · rw [if_pos hf] at p3
          obtain ⟨f1, f2⟩ := Bool.and_eq_true_iff.mp hf
          obtain ⟨v, vr, A, B, g1, g2, g3, g4, g5, g6⟩ := vs_rp a1 e2
          obtain ⟨v2, vr2, A2, B2, k1, k2, k3, k4, k5, k6⟩ := g3
          have r1' := Rp.cold t NoA f1 g2
          have r2' := Rp.cold u NoA f2 k2
          cases q1 : itAny t with
          | none => rw [q1] at p3; exact p3.elim
          | some xs =>
            cases q2 : itAny u with
            | none => rw [q1, q2] at p3; exact p3.elim
            | some ys =>
              rw [q1, q2] at p3
              have p4 : PostI K Wx G F H σ R (if xs.length = ys.length then .ok (w (zipT xs ys)) st1 else .no) := p3
              by_cases hl : xs.length = ys.length
              · rw [if_pos hl] at p4
                have w1' : Wd G1 F S1 H1 := w1.less (fun _ z => z) fun _ z => .inl z
                obtain ⟨ka, a, vx, m1, cx, fx, sx⟩ := any_items w1' r1' f1 q1
                obtain ⟨kb, b, vy, m2, cy, fy, sy⟩ := any_items w1' r2' f2 q2
                rw [g1, k1, show vr2 = [] from k3, m1, m2]
                exact ⟨ka, kb, a, b, vx, vy, rfl, sx H1 fun _ _ => rfl, sy H1 fun _ _ => rfl, p4 _ H1 G1 S1 x1 w1' r1 (hJ G1 H1 xs ys vx vy ka kb a b w1.dG hl cx cy sx sy) (hw _ (frzL_zipT fx fy))⟩
              · rw [if_neg hl] at p4; exact p4.elim
        · rw [if_neg hf] at p3; exact p3.elim
theorem its_ok {K : PySem.W.Frag} (G : AS) (H1 : Hp) (xs ys : List T) (vx vy : List V) (k1 k2 : EvZ.Kd) (a b : Addr) (dG : ∀ a, G a → H1 a ≠ none) (hl : xs.length = ys.length) (cx : Cl K G H1 xs vx) (cy : Cl K G H1 ys vy) (sx : ∀ H2 : Hp, (∀ b, G b → H2 b = H1 b) → k1.V K H2 a vx) (sy : ∀ H2 : Hp, (∀ b, G b → H2 b = H1 b) → k2.V K H2 b vy) : ItOk K G H1 (EvZ.ItS K k1 k2 a b) (zipT xs ys) := fun H2 kk => by
  refine ⟨⟨vx, vy, sx H2 kk, sy H2 kk, by rw [zipT_length, ← cx.length, hl]; simp, by rw [zipT_length, ← cy.length, hl]; simp⟩, fun i t e => ?_⟩
  obtain ⟨x, y, e1, e2, rfl⟩ := zipT_get e
  obtain ⟨u, a1, a2⟩ := cx.some kk e1
  obtain ⟨u2, b1, b2⟩ := cy.some kk e2
  refine ⟨⟨vx, vy, u, u2, sx H2 kk, sy H2 kk, a1, b1⟩, fun z H3 q => ?_⟩
  obtain ⟨p, x', y', rfl, np, rfl, z4, z5⟩ := q
  have q1 := z4 vx (sx H2 kk)
  have q2 := z5 vy (sy H2 kk)
  rw [a1] at q1
  rw [b1] at q2
  cases q1
  cases q2
  exact rp_pair (fun a g => by rw [kk a g]; exact dG a g) np a2 b2
theorem ite_ok {K : PySem.W.Frag} (G : AS) (H1 : Hp) (xs ys : List T) (vx vy : List V) (k1 k2 : EvZ.Kd) (a b : Addr) (dG : ∀ a, G a → H1 a ≠ none) (hl : xs.length = ys.length) (cx : Cl K G H1 xs vx) (cy : Cl K G H1 ys vy) (sx : ∀ H2 : Hp, (∀ b, G b → H2 b = H1 b) → k1.V K H2 a vx) (sy : ∀ H2 : Hp, (∀ b, G b → H2 b = H1 b) → k2.V K H2 b vy) : ItOk K G H1 (EvZ.ItE K k1 k2 a b) (enT 0 (zipT xs ys)) := fun H2 kk => by
  refine ⟨⟨vx, vy, sx H2 kk, sy H2 kk, by rw [enT_length, zipT_length, ← cx.length, hl]; simp, by rw [enT_length, zipT_length, ← cy.length, hl]; simp⟩, fun i t e => ?_⟩
  obtain ⟨w0, e0, rfl⟩ := enT_get e
  obtain ⟨x, y, e1, e2, rfl⟩ := zipT_get e0
  obtain ⟨u, a1, a2⟩ := cx.some kk e1
  obtain ⟨u2, b1, b2⟩ := cy.some kk e2
  refine ⟨⟨vx, vy, u, u2, sx H2 kk, sy H2 kk, a1, b1⟩, fun z H3 q => ?_⟩
  obtain ⟨p, p2, x', y', rfl, np, np2, pp, rfl, z4, z5⟩ := q
  have q1 := z4 vx (sx H2 kk)
  have q2 := z5 vy (sy H2 kk)
  rw [a1] at q1
  rw [b1] at q2
  cases q1
  cases q2
  rw [Nat.zero_add]
  exact rp_pair2 (fun a g => by rw [kk a g]; exact dG a g) np np2 pp a2 b2
section
variable {X : Cx} {l r : Expr} {f g : SE} {nm : Str} {j : Nat} {cp kp p p' pos pos' tpos : Pos} {elts : List Expr} {kk : Nat}
theorem sim_izs (hg : Gl X "zip") (hm : X.mg "zip" = none) (h1 : SimE X l f) (h2 : SimE X r g) (hn : nm = Str.ofString "strict" := by rfl) (hs : starEach [l, r] X.env = (false, eval l X.env) :: starEach [r] X.env := by rfl) (hs2 : starEach [r] X.env = (false, eval r X.env) :: starEach [] X.env := by rfl)
    (he : backTo pos (starEach [l, r] X.env) = (false, eval l X.env) :: backTo pos (starEach [r] X.env) := by rfl) (hplain : (backTo pos (starEach [l, r] X.env)).any (·.1) = false := by rfl) :
    SimI X (.Tuple elts kk tpos) (.Call (.Name "zip" p) [l, r] [⟨some nm, .Constant (.bool true) j cp, kp⟩] pos) (iZs id f g) := fun Wx tk =>
  PI.imp (EvZ.pi_zst hn hg hm (pa_cons (h1 Wx tk) (pa_cons (h2 Wx tk) pa_nil hs2) hs) he hplain) fun σ H R q => by
    have z := zs_core (J := EvZ.ItS X.K) (w := id) its_ok (fun _ h => h) q
    exact (cons_core z).imp fun v H1 q => (cons_core q).imp fun v2 H2 q2 => nil_core (Q := fun xs H2 => ∃ (k1 k2 : EvZ.Kd) (a b : Addr) (xs' ys : List V), v :: v2 :: xs = [.ref a, .ref b] ∧ k1.V X.K H2 a xs' ∧ k2.V X.K H2 b ys ∧ R (EvZ.ItS X.K k1 k2 a b) H2) q2
theorem sim_iezs (hg' : Gl X "enumerate") (hm' : X.mg "enumerate" = none) (hg : Gl X "zip") (hm : X.mg "zip" = none) (h1 : SimE X l f) (h2 : SimE X r g) (hn : nm = Str.ofString "strict" := by rfl) (hs : starEach [l, r] X.env = (false, eval l X.env) :: starEach [r] X.env := by rfl) (hs2 : starEach [r] X.env = (false, eval r X.env) :: starEach [] X.env := by rfl)
    (he : backTo pos (starEach [l, r] X.env) = (false, eval l X.env) :: backTo pos (starEach [r] X.env) := by rfl) (hplain : (backTo pos (starEach [l, r] X.env)).any (·.1) = false := by rfl)
    (hs3 : starEach [.Call (.Name "zip" p) [l, r] [⟨some nm, .Constant (.bool true) j cp, kp⟩] pos] X.env = (false, eval (.Call (.Name "zip" p) [l, r] [⟨some nm, .Constant (.bool true) j cp, kp⟩] pos) X.env) :: starEach [] X.env := by rfl)
    (hs4 : starEach [.Call (.Name "zip" p) [l, r] [⟨some nm, .Constant (.bool true) j cp, kp⟩] pos] X.env = [(false, eval (.Call (.Name "zip" p) [l, r] [⟨some nm, .Constant (.bool true) j cp, kp⟩] pos) X.env)] := by rfl) :
    SimI X (.Tuple elts kk tpos) (.Call (.Name "enumerate" p') [.Call (.Name "zip" p) [l, r] [⟨some nm, .Constant (.bool true) j cp, kp⟩] pos] [] pos') (iZs (enT 0) f g) := fun Wx tk =>
  PI.imp (EvZ.pi_ezst hn hg hm hg' hm' (pa_cons (h1 Wx tk) (pa_cons (h2 Wx tk) pa_nil hs2) hs) he hplain hs3 hs4) fun σ H R q => by
    have z := zs_core (J := EvZ.ItE X.K) (w := enT 0) ite_ok (fun _ h => frzL_enT 0 h) q
    exact (cons_core z).imp fun v H1 q => (cons_core q).imp fun v2 H2 q2 => nil_core (Q := fun xs H2 => ∃ (k1 k2 : EvZ.Kd) (a b : Addr) (xs' ys : List V), v :: v2 :: xs = [.ref a, .ref b] ∧ k1.V X.K H2 a xs' ∧ k2.V X.K H2 b ys ∧ R (EvZ.ItE X.K k1 k2 a b) H2) q2
/-! at work -/
@[simp] theorem ap_iZs (w : List T → List T) (f g : SE) (st : SL) : iZs w f g st = (aCons (uV f) (aCons (uV g) aNil) st).bind fun us st => (match vsOf us with
  | some [t, u] => if frz t && frz u then (match itAny t, itAny u with
    | some ts, some us => if ts.length = us.length then .ok (w (zipT ts us)) st else .no
    | _, _ => .no)
    else .no
  | _ => .no) := rfl
theorem zipT_map {α β : Type} (f : α → T) (g : β → T) : ∀ (l : List α) (l' : List β), zipT (l.map f) (l'.map g) = (l.zip l').map fun p => T.tup [f p.1, g p.2]
  | [], _ => by simp [zipT]
  | _ :: _, [] => by simp [zipT]
  | a :: l, b :: l' => by
    rw [List.map_cons, List.map_cons, List.zip_cons_cons, List.map_cons, ← zipT_map f g l l']
    rfl
end
end
end Ev

/-! EvSum: sum of tuples, sum(.., start=k); max, min of tuples. -/
namespace EvZ
open PySem PySem.Spec PyProof.Rows L2
open PySem.Sem (wp)
theorem kd_walks {prog : Program} {w : World} {A : Around} (hh : A.handled = none) (it l : Addr) (hne : l ≠ it) (items : Array Value) : ∀ k : Kd, Walks prog w A it [it, l] [it] items.size (fun i v => items[i]? = some v) (fun i h => k.it h it l i ∧ k.sq h l items)
  | .l => Walks.list hh it l hne items
  | .t => Walks.tuple hh it l hne items
/-- a thing put ahead of what is walked -/
theorem ahead {prog : Program} {w : World} {A : Around} {I : Addr} {fp wr : List Addr} {n : Nat} {P : Nat → Value → Prop} {St : Nat → Heap → Prop} (W : Walks prog w A I fp wr n P St) :
    Walks prog w A I fp wr (n + 1) (fun i v => match i with
      | 0 => False
      | i + 1 => P i v) (fun i h => match i with
      | 0 => False
      | i + 1 => St i h) where
  sub := W.sub
  frame := fun i h h' st k => match i, st with
    | 0, st => st
    | i + 1, st => W.frame i h h' st k
  item := fun i s Q E hi st hQ => match i, hi, st, hQ with
    | 0, _, st, _ => st.elim
    | i + 1, hi, st, hQ => W.item i s Q E (by omega) st hQ
  done := fun s Q E st hQ => W.done s Q E st hQ
  self := fun i s Q E st hQ => match i, st with
    | 0, st => st.elim
    | i + 1, st => W.self i s Q E st hQ
def val1 (k : Int) (val : Nat → Int) : Nat → Int
  | 0 => k
  | i + 1 => val i
theorem pre1 (k : Int) (val : Nat → Int) : ∀ n, preSum (val1 k val) (n + 1) = k + preSum val n
  | 0 => by
    show preSum (val1 k val) 0 + val1 k val 0 = k + preSum val 0
    show (0 : Int) + k = k + 0
    omega
  | n + 1 => by
    show preSum (val1 k val) (n + 1) + val n = k + (preSum val n + val n)
    rw [pre1 k val n]
    omega
section
variable {prog : Program} {w : World} {A : Around} {E : Value → Shared → Prop} {s : Shared}
theorem args_sumS (a v : Value) : argsOk "sum" ⟨[a], [(Str.ofString "start", v)]⟩ := by unfold argsOk; kernel_rfl
/-- a built-in that goes on as another one, called with keywords -/
theorem tree_kw {id : String} {b : Builtin} {args : List Value} {kw : List (Str × Value)} {Q : Value → Shared → Prop} (hk : builtinKind id = none) (hp : plainId id = true) (hb : entryFor table id = some b) (ha : argsOk id ⟨args, kw⟩)
    (hc : wpAny (model prog w) A.in1 (b ⟨args, kw⟩) (fun fin s' => match fin with
      | .done f => (match (Except.ok f : Result) with | .ok (.ret v) => Q v s' | .ok _ => False | .error e => E e s')
      | .again c' => c'.quiet = true ∧ codeAny (model prog w) A c' (fun r s' => match r with | .ok (.ret v) => Q v s' | .ok _ => False | .error e => E e s') s') E s) :
    wpAny (model prog w) A (call (.builtin id) args kw) Q E s := by
  refine wpAny_call (codeAny_call_builtin hp hb ?_)
  simp only [checkBuiltinCall, hk]
  cases q : Manifest.signature? id with
  | none => exact wpAny_pure hc
  | some sig =>
    have h2 : Bind.checkArgs id sig ⟨args, kw⟩ = pure () := by simpa only [argsOk, q] using ha
    simp only [h2]
    exact wpAny_pure hc
theorem kd_iter {a : Addr} {vs : Array Value} {Q : Value → Shared → Prop} (k : Kd) (hl : k.sq s.heap a vs) (h : Q (.ref s.heap.objs.size) { s with heap := s.heap.push (k.ob a) }) : wpAny (model prog w) A (pyIter (.ref a)) Q E s :=
  (kd_begins k a vs).iter prog w A E s Q hl h
theorem kd_keeps {a : Addr} {vs : Array Value} {h h' : Heap} (k : Kd) (hl : k.sq h a vs) (kp : ∀ b o, h.get? b = some o → h'.get? b = some o) : k.sq h' a vs := (kd_begins k a vs).keeps h h' hl kp
theorem kd_free (k : Kd) (a : Addr) : (k.ob a).isFreed = false := (kd_begins k a #[]).free
theorem sum_start {a : Addr} {its : List Value} {ns : List Int} {c : Int} {t : Tok} {Q : Value → Shared → Prop} (k : Kd) (hh : A.handled = none) (hl : k.sq s.heap a its.toArray) (val : Nat → Int) (hv : ∀ i v, its.toArray[i]? = some v → ∃ t, v = Value.int (val i) t) (hs : preSum val its.toArray.size = ns.sum) (c0 : -(2 ^ 63) ≤ c) (c1 : c < 2 ^ 63)
    (h : ∀ h' tk t', (∀ b o, s.heap.get? b = some o → h'.get? b = some o) → Q (.int (c + ns.sum) t') { s with heap := h', toks := tk }) :
    wpAny (model prog w) A (call (.builtin "sum") [.ref a] [(Str.ofString "start", .int c t)]) Q E s := by
  have hal : a < s.heap.objs.size := kd_lt k hl
  refine tree_kw (b := Builtin.«sum») F.kind_sum F.plain_sum F.entry_sum (args_sumS _ _) ?_
  unfold Builtin.«sum»
  simp only [List.length_cons, List.length_nil]
  rw [if_neg (by decide)]
  refine wpAny_bind (wpAny_of_eq (show Builtin.Builtins.bindParams "sum" ["start"] 0 ⟨[], [(Str.ofString "start", .int c t)]⟩ = pure [some (.int c t)] by kernel_rfl) ?_)
  refine wpAny_bind (kd_iter k hl ?_)
  have W := ahead (kd_walks (prog := prog) (w := w) (A := A.in1) (show A.in1.handled = none from hh) s.heap.objs.size a (Nat.ne_of_lt hal) its.toArray k)
  have fit : (decide (-(2 ^ 63) ≤ c) && decide (c < 2 ^ 63)) = true := by rw [decide_eq_true c0, decide_eq_true c1]; rfl
  show wpAny _ _ (if (_ : Bool) = true then _ else _) _ _ _
  split
  case isFalse hx => exact absurd fit hx
  refine wpAny_bind (wpAny_rule (wpAny_bind (wpAny_mkInt (wpAny_bind (wpAny_pure ?_)))))
  simp only [List.forIn_cons, List.forIn_nil]
  refine wpAny_bind (wpAny_bind (wpAny_bind (wpAny_isInstance (T := "int") (b := false) (typeIs_int _ _ _) PySem.sub_int_str ?_)))
  simp only [Bool.false_eq_true, if_false]
  refine wpAny_pure (wpAny_bind (wpAny_bind (wpAny_isInstance (T := "int") (b := false) (typeIs_int _ _ _) PySem.sub_int_bytes ?_)))
  simp only [Bool.false_eq_true, if_false]
  refine wpAny_pure (wpAny_bind (wpAny_bind (wpAny_isInstance (T := "int") (b := false) (typeIs_int _ _ _) PySem.sub_int_bytearray ?_)))
  simp only [Bool.false_eq_true, if_false]
  refine wpAny_pure (wpAny_pure ?_)
  refine wpAny_bind (wpAny_newObj_type ?_)
  have hS1 : (s.heap.push (k.ob a)).objs.size ∉ [s.heap.objs.size, a] := by
    rw [Heap.size_push]
    intro hm
    rcases List.mem_cons.mp hm with q | q
    · exact Nat.succ_ne_self _ q
    · exact absurd (List.mem_singleton.mp q) (Nat.ne_of_gt (Nat.lt_succ_of_lt hal))
  have up : ∀ b o, (s.heap.push (k.ob a)).get? b = some o → ((s.heap.push (k.ob a)).push { cls := .type "list", data := .seq [Value.int c s.toks].toArray }).get? b = some o := fun b o e => Heap.get?_push_of_some _ e
  have e1 : preSum (val1 c val) 1 = c := by rw [pre1 c val 0]; show c + 0 = c; omega
  refine wpAny_pure ⟨plainId_quiet F.plain_sum_loop _, ?_⟩
  refine codeAny_sum_loopG W (val1 c val) (fun i v hP => ?_) (s.heap.push (k.ob a)).objs.size hS1 (its.toArray.size) 1 _ s.toks 0 0 (Or.inl rfl) (by omega) (by omega) ⟨kd_at k (kd_start k (Heap.get?_push_size _ (kd_free k a))) (up _), kd_keeps k hl fun b o e => up b o (Heap.get?_push_of_some _ e)⟩ ?_ fun h' tk t' hk => ?_
  · cases i with
    | zero => exact hP.elim
    | succ i => exact hv i v hP
  · rw [e1]
    exact Heap.get?_push_size _ rfl
  · rw [pre1, hs]
    exact h h' tk t' fun b o e => hk b o (fun q => absurd (List.mem_singleton.mp q) (Nat.ne_of_lt (Heap.lt_size e))) (by rw [Heap.size_push]; exact Nat.ne_of_lt (Nat.lt_succ_of_lt (Heap.lt_size e))) (up b o (Heap.get?_push_of_some _ e))
theorem sum_tup {a : Addr} {its : List Value} {ns : List Int} {Q : Value → Shared → Prop} (k : Kd) (hh : A.handled = none) (hl : k.sq s.heap a its.toArray) (val : Nat → Int) (hv : ∀ i v, its.toArray[i]? = some v → ∃ t, v = Value.int (val i) t) (hs : preSum val its.toArray.size = ns.sum)
    (h : ∀ h' tk t', (∀ b o, s.heap.get? b = some o → h'.get? b = some o) → Q (.int ns.sum t') { s with heap := h', toks := tk }) : wpAny (model prog w) A (call (.builtin "sum") [.ref a]) Q E s := by
  have hal : a < s.heap.objs.size := kd_lt k hl
  refine call_sum_walkG (kd_iter k hl ?_)
  refine ⟨_, _, _, _, _, _, val, rfl, kd_walks (prog := prog) (w := w) (A := A.in1) hh s.heap.objs.size a (Nat.ne_of_lt hal) its.toArray k, ⟨kd_start k (Heap.get?_push_size _ (kd_free k a)), kd_keeps k hl fun b o e => Heap.get?_push_of_some _ e⟩, fun b hb => ?_, hv, fun h' tk t' hk => ?_⟩
  · show b < (s.heap.push _).objs.size
    rw [Heap.size_push]
    rcases List.mem_cons.mp hb with q | q
    · rw [q]; exact Nat.lt_succ_self _
    · rw [List.mem_singleton.mp q]; exact Nat.lt_succ_of_lt hal
  · rw [hs]
    exact h h' tk t' fun b o e => hk b o (fun q => absurd (List.mem_singleton.mp q) (Nat.ne_of_lt (Heap.lt_size e))) (Heap.get?_push_of_some _ e)
end
theorem preSum_get (ns : List Int) (val : Nat → Int) (h : ∀ i n, ns[i]? = some n → val i = n) : preSum val ns.length = ns.sum := by
  have key : ∀ k, k ≤ ns.length → preSum val k = (ns.take k).sum := by
    intro k
    induction k with
    | zero => intro _; simp [preSum]
    | succ k ih =>
      intro hk
      have e : ns[k]? = some ns[k] := List.getElem?_eq_getElem (by omega)
      show preSum val k + val k = _
      rw [ih (by omega), h k _ e, List.take_succ, e, Option.toList_some, List.sum_append, List.sum_singleton]
  rw [key _ (Nat.le_refl _), List.take_length]
/-- sum of a list or a tuple of ints -/
def rSumA (K : PySem.W.Frag) : List V → Hp → VK → Prop := fun vs H Q => ∃ (k : Kd) (a : Addr) (ns : List Int), vs = [V.ref a] ∧ k.V K H a (ns.map V.int) ∧ Q (.int ns.sum) H
def rSumS (K : PySem.W.Frag) : List V → List V → Hp → VK → Prop := fun vs zs H Q => ∃ (k : Kd) (a : Addr) (ns : List Int) (c : Int), vs = [V.ref a] ∧ zs = [V.int c] ∧ -(2 ^ 62) ≤ c ∧ c < 2 ^ 62 ∧ k.V K H a (ns.map V.int) ∧ Q (.int (c + ns.sum)) H
theorem vals_at {ns : List Int} {its : List Value} (r : Vals (ns.map V.int) its) : (∀ i v, its.toArray[i]? = some v → ∃ t, v = Value.int (ns.getD i 0) t) ∧ preSum (fun i => ns.getD i 0) its.toArray.size = ns.sum := by
  have hl : ns.length = its.length := by rw [← r.length, List.length_map]
  refine ⟨fun i v e => ?_, ?_⟩
  · rw [List.getElem?_toArray] at e
    have hi := (List.getElem?_eq_some_iff.mp e).1
    have e2 : ns[i]? = some (ns.getD i 0) := by rw [List.getD_eq_getElem?_getD, List.getElem?_eq_getElem (by omega)]; rfl
    obtain ⟨u, e3, r3⟩ := r.get (i := i) (x := V.int (ns.getD i 0)) (by rw [List.getElem?_map, e2]; rfl)
    rw [e] at e3
    cases e3
    exact r3
  · rw [List.size_toArray, ← hl]
    exact preSum_get ns _ fun i n e => by rw [List.getD_eq_getElem?_getD, e]; rfl
section
variable {X : Cx}
theorem cr_sumA (hc : X.calm = true) : CallR X (.builtin "sum") (rSumA X.K) := by
  intro pins s σ H vs us Q I r h
  obtain ⟨k, a, ns, rfl, hs, q⟩ := h
  obtain ⟨its, rv, hl⟩ := kd_inv I k hs
  obtain ⟨h1, h2⟩ := vals_at rv
  rw [Vals.ref1 r]
  exact sum_tup k (I.ok.hd hc) hl _ h1 h2 fun h' tk t' hk => ⟨.int _, H, I.kept hk, ⟨_, rfl⟩, q⟩
theorem cr_sumS (hc : X.calm = true) : CallRK X (.builtin "sum") [Str.ofString "start"] (rSumS X.K) := by
  intro pins s σ H vs zs us ws Q I r rz h
  obtain ⟨k, a, ns, c, rfl, rfl, c0, c1, hs, q⟩ := h
  obtain ⟨its, rv, hl⟩ := kd_inv I k hs
  obtain ⟨h1, h2⟩ := vals_at rv
  rw [Vals.ref1 r]
  obtain ⟨w1, rfl, e1⟩ := vals1 rz
  obtain ⟨t, rfl⟩ : ∃ t, w1 = Value.int c t := e1
  exact sum_start k (I.ok.hd hc) hl _ h1 h2 (by omega) (by omega) fun h' tk t' hk => ⟨.int _, H, I.kept hk, ⟨_, rfl⟩, q⟩
end
end EvZ

/-! EvSum2: sums, divmod on trees. -/
namespace Ev
noncomputable section
open PySem PySem.Spec PyProof.Rows L2
/-- the ints of a list or a tuple -/
def aIntsT : T → Option (List Int)
  | .tup ts => intsT ts
  | t => lIntsT t
theorem aInts_sq {K : PySem.W.Frag} {G : AS} {H : Hp} {S : AS} {t : T} {v : V} {ns : List Int} (r : Rp K G H t v S) (e : aIntsT t = some ns) : ∃ (k : EvZ.Kd) (a : Addr), v = .ref a ∧ k.V K H a (ns.map V.int) := by
  unfold aIntsT at e
  split at e
  · obtain ⟨a, vs, h1, h2, h3⟩ := r
    rw [intsT_some e] at h3
    rw [rpl_ints h3] at h2
    exact ⟨.t, a, h1, h2.seq⟩
  · obtain ⟨a, h1, h2⟩ := lInts_sq r e
    exact ⟨.l, a, h1, h2⟩
def pSumA : List T → Option T
  | [t] => match aIntsT t with
    | some ns => some (.int ns.sum)
    | _ => none
  | _ => none
def pSumS : List T → Option T
  | [t, .int c] => if leC (-(2 ^ 62)) c && ltC c (2 ^ 62) then (match aIntsT t with
    | some ns => some (.int (c + ns.sum))
    | _ => none) else none
  | _ => none
theorem pr_sumA {K : PySem.W.Frag} : Pr K (EvZ.rSumA K) pSumA := fun G F S H ts vs t Q w o e k => by
  unfold pSumA at e
  split at e
  · split at e
    · rename_i a ns h
      cases e
      obtain ⟨v, S1, rfl, _, r1⟩ := ops1 o
      obtain ⟨kd, p, rfl, sq⟩ := aInts_sq r1 h
      exact ⟨kd, p, ns, rfl, sq, old w (t := .int _) rfl k⟩
    · cases e
  · cases e
/-- a built-in called with one operand and one keyword -/
def rKw1 (r : List V → List V → Hp → VK → Prop) : List V → Hp → VK → Prop := fun vs H Q => match vs with
  | [x, y] => r [x] [y] H Q
  | _ => False
theorem pr_sumS {K : PySem.W.Frag} : Pr K (rKw1 (EvZ.rSumS K)) pSumS := fun G F S H ts vs t Q w o e k => by
  unfold pSumS at e
  split at e
  · rename_i a c
    split at e
    · rename_i hc
      obtain ⟨c1, c2⟩ := Bool.and_eq_true_iff.mp hc
      split at e
      · rename_i ns h
        cases e
        obtain ⟨v, u, S1, S2, rfl, _, _, r1, r2⟩ := ops2 o
        obtain ⟨kd, p, rfl, sq⟩ := aInts_sq r1 h
        obtain rfl : u = V.int c := r2
        exact ⟨kd, p, ns, c, rfl, rfl, of_leC c1, of_ltC c2, sq, old w (t := .int _) rfl k⟩
      · cases e
    · cases e
  · cases e
section
variable {X : Cx} {x : Str} {p pos kp : Pos} {e e2 : Expr} {f g : SU} {id : String} {kn : Str} {r : List V → List V → Hp → VK → Prop} {pp : List T → Option T}
theorem sim_bk1 (hc : CallRK X (.builtin id) [kn] r) (hp : Pr X.K (rKw1 r) pp) (hv : bootBuiltins x = some (.builtin id)) (hg : Gl X x) (hm : X.mg x = none) (h1 : SimU X e f) (h2 : SimU X e2 g) (hn : x ≠ "__name__" := by decide) (hdb : (x == ("__debug__" : Str)) = false := by decide)
    (hs : starEach [e] X.env = (false, eval e X.env) :: starEach [] X.env := by rfl)
    (he : backTo pos (starEach [e] X.env) = (false, eval e X.env) :: backTo pos (starEach [] X.env) := by rfl) (hpl : (backTo pos (starEach [e] X.env)).any (·.1) = false := by rfl)
    (hall : (backToKw pos (keywordEach [⟨some kn, e2, kp⟩] X.env)).all (·.1.isSome) = true := by rfl) (hnone : (backToKw pos (keywordEach [⟨some kn, e2, kp⟩] X.env)).any (·.1.isNone) = false := by rfl) (hks : (backToKw pos (keywordEach [⟨some kn, e2, kp⟩] X.env)).filterMap (·.1) = [kn] := by rfl) :
    SimE X (.Call (.Name x p) [e] [⟨some kn, e2, kp⟩] pos) (eP pp (aCons f (aCons g aNil))) := fun Wx tk =>
  PE.imp (pe_callBK hc hg hm hv (pa_cons (h1 Wx tk) pa_nil hs) (pk_cons (h2 Wx tk) pk_nil) hn hdb he hpl hall hnone hks) fun σ H Q q => two_core (prim_core hp q)
theorem sim_sumS (hc : X.calm = true) (hg : Gl X "sum") (hm : X.mg "sum" = none) (h1 : SimU X e f) (h2 : SimU X e2 g) (hkn : kn = Str.ofString "start" := by rfl) (hs : starEach [e] X.env = (false, eval e X.env) :: starEach [] X.env := by rfl)
    (he : backTo pos (starEach [e] X.env) = (false, eval e X.env) :: backTo pos (starEach [] X.env) := by rfl) (hpl : (backTo pos (starEach [e] X.env)).any (·.1) = false := by rfl) :
    SimE X (.Call (.Name "sum" p) [e] [⟨some kn, e2, kp⟩] pos) (eP pSumS (aCons f (aCons g aNil))) := by
  subst hkn
  exact sim_bk1 (EvZ.cr_sumS hc) pr_sumS PyProof.Rows.boot_sum hg hm h1 h2 (by decide) (by decide) hs he hpl rfl rfl rfl
end
/-! divmod -/
def rDm : List V → Hp → VK → Prop := fun xs H Q => ∃ i j, xs = [.int i, .int j] ∧ CDiv i j ∧ ∀ p, H p = none → Q (.ref p) (upd H p (.tup [.int (i / j), .int (i % j)]))
def pDm : List T → Option T
  | [.int i, .int j] => if ltC 0 j && ltC j 1073741824 then some (.tup [.int (i / j), .int (i % j)]) else none
  | _ => none
theorem pr_dm {K : PySem.W.Frag} : Pr K rDm pDm := fun G F S H ts vs t Q w o e k => by
  unfold pDm at e
  split at e
  · rename_i i j
    split at e
    · rename_i hc
      obtain ⟨c1, c2⟩ := Bool.and_eq_true_iff.mp hc
      cases e
      obtain ⟨v, u, S1, S2, rfl, _, _, r1, r2⟩ := ops2 o
      obtain rfl : v = V.int i := r1
      obtain rfl : u = V.int j := r2
      refine ⟨i, j, rfl, ⟨of_ltC c1, of_ltC c2⟩, fun p np => k _ _ NoA _ (New.cold w np) ?_⟩
      refine ⟨p, [.int (i / j), .int (i % j)], rfl, .inl ⟨.inr rfl, upd_same⟩, ?_⟩
      exact ⟨_, _, NoA, NoA, rfl, rfl, ⟨_, _, NoA, NoA, rfl, rfl, rfl, fun _ z => z.elim, fun _ z => z.elim, fun _ z => z.elim⟩, fun _ z => z.elim, fun _ z => z.elim, fun _ z => z.elim⟩
    · cases e
  · cases e
theorem aInts_tup (ns : List Int) : aIntsT (.tup (ns.map .int)) = some ns := intsT_map ns
theorem aInts_lst (o : Bool) (ns : List Int) : aIntsT (.lst o (ns.map .int)) = some ns := by cases o <;> exact intsT_map ns
theorem p_sumT (ns : List Int) : pSumA [.tup (ns.map .int)] = some (.int ns.sum) := by
  show (match aIntsT (.tup (ns.map .int)) with
    | some ns => some (T.int ns.sum)
    | _ => none) = _
  rw [aInts_tup]
theorem p_sumL (o : Bool) (ns : List Int) : pSumA [.lst o (ns.map .int)] = some (.int ns.sum) := by
  show (match aIntsT (.lst o (ns.map .int)) with
    | some ns => some (T.int ns.sum)
    | _ => none) = _
  rw [aInts_lst]
theorem p_sumST (ns : List Int) (c : Int) (h : -(2 ^ 62) ≤ c) (h' : c < 2 ^ 62) : pSumS [.tup (ns.map .int), .int c] = some (.int (c + ns.sum)) := by
  have e : pSumS [.tup (ns.map .int), .int c] = if (leC (-(2 ^ 62)) c && ltC c (2 ^ 62)) = true then (match aIntsT (.tup (ns.map .int)) with
    | some ns => some (T.int (c + ns.sum))
    | _ => none) else none := by
    unfold pSumS
    rfl
  rw [e, leC_of h, ltC_of h', if_pos (show (true && true) = true from rfl), aInts_tup]
theorem p_dm (i j : Int) (h : 0 < j) (h' : j < 1073741824) : pDm [.int i, .int j] = some (.tup [.int (i / j), .int (i % j)]) := by
  have e : pDm [.int i, .int j] = if (ltC 0 j && ltC j 1073741824) = true then some (T.tup [.int (i / j), .int (i % j)]) else none := by
    unfold pDm
    rfl
  rw [e, ltC_of h, ltC_of h', if_pos (show (true && true) = true from rfl)]
end
end Ev

/-! EvSim2: more combinators at work. -/
namespace Ev
noncomputable section
open PySem PySem.Spec PyProof.Rows L2
def isObj (c : Cd) : T → Bool
  | .obj _ c' _ => decide (c' = c)
  | _ => false
@[simp] theorem isObj_o (o : Bool) (c : Cd) (xs : List T) : isObj c (.obj o c xs) = true := decide_eq_true rfl
@[simp] theorem ap_uObj (c : Cd) (f : SU) (st : SL) : uObj c f st = (f st).bind fun u st => (match u.get st with
  | some t => if isObj c t = true then .ok u st else .no
  | none => .no) := by
  unfold uObj
  congr 1
  funext u st
  cases u.get st with
  | none => rfl
  | some t =>
    cases t with
    | obj o c' xs =>
      show (if c' = c then R.ok u st else R.no) = if decide (c' = c) = true then _ else _
      by_cases h : c' = c
      · rw [if_pos h, if_pos (decide_eq_true h)]
      · rw [if_neg h, if_neg (by simpa using h)]
    | _ => rfl
@[simp] theorem ap_eMake (m : FS) (c : Cd) (ds : List T) (f : SA) (st : SL) : eMake m c ds f st = (f st).bind fun us st => doM m c (fun us => us ++ ds.map .v) us st := rfl
@[simp] theorem ap_eMakeK (m : FS) (c : Cd) (ixs : List Nat) (ds : List T) (f : SA) (st : SL) : eMakeK m c ixs ds f st = (f st).bind fun us st => doM m c (fun us => pick ixs (us ++ ds.map .v)) us st := rfl
@[simp] theorem ap_doM (m : FS) (c : Cd) (pm : List AV → List AV) (us : List AV) (st : SL) : doM m c pm us st = (match takeL (pm us) st with
  | none => .no
  | some (ts, st1) => (match m (.obj true c [] :: ts) with
    | .ok .non (o :: as) => .ok o (putL (pm us) as st1)
    | .ex x (_ :: as) => .ex x (putL (pm us) as st1)
    | _ => .no)) := rfl
@[simp] theorem ap_sPar3 (i j l : Nat) (f : SA) (st : SL) : sPar3 i j l f st = (f st).bind fun us st => (match vsOf us with
  | some [t, u, z] => .ok .nx (((st.set i (some t)).set j (some u)).set l (some z))
  | _ => .no) := rfl
@[simp] theorem pick_nil {α : Type} (l : List α) : pick [] l = [] := rfl
@[simp] theorem pick_c0 {α : Type} (x : α) (l : List α) (ixs : List Nat) (i : Nat) : pick (i :: ixs) (x :: l) = (match (x :: l)[i]? with
  | some y => y :: pick ixs (x :: l)
  | none => pick ixs (x :: l)) := by
  unfold pick
  rw [List.filterMap_cons]
  cases (x :: l)[i]? <;> rfl
theorem p_rep1 (t : T) (ft : frz t = true) (k : Int) (h0 : -(2 ^ 62) ≤ k) (h1 : k ≤ 1000000) : pMul [.lst true [t], .int k] = some (.lst true (List.replicate k.toNat t)) := by
  have e : pMul [.lst true [t], .int k] = if (frzL [t] && (leC (-(2 ^ 63)) k && (ltC k (2 ^ 63) && decide ([t].length * k.toNat ≤ sizeLine)))) = true then some (T.lst true (List.replicate k.toNat [t]).flatten) else none := by
    unfold pMul
    rfl
  have l : [t].length * k.toNat ≤ sizeLine := szN _ (by simp; omega)
  rw [e, leC_of (show -(2 ^ 63) ≤ k by omega), ltC_of (show k < 2 ^ 63 by omega), decide_eq_true l]
  have f : frzL [t] = true := by simp [ft]
  rw [f, if_pos (show (true && (true && (true && true))) = true from rfl)]
  congr 1
  congr 1
  induction k.toNat with
  | zero => rfl
  | succ n ih => rw [List.replicate_succ, List.flatten_cons, ih, List.replicate_succ]; rfl
theorem p_extI (xs ys : List T) (ob : Bool) (h : frzL ys = true) (hl : xs.length + ys.length ≤ 16777216) : mExt [.lst true xs, .lst ob ys] = .ok .non [.lst true (xs ++ ys), .lst ob ys] := by
  have e : mExt [.lst true xs, .lst ob ys] = if (frzL ys && decide (xs.length + ys.length ≤ sizeLine)) = true then RF.ok .non [.lst true (xs ++ ys), .lst ob ys] else .no := by
    unfold mExt
    rfl
  rw [e, h, decide_eq_true (szN _ hl), if_pos (show (true && true) = true from rfl)]
theorem p_addL (a b : Bool) (xs ys : List T) (h1 : frzL xs = true) (h2 : frzL ys = true) (hl : xs.length + ys.length ≤ 16777216) : pAdd [.lst a xs, .lst b ys] = some (.lst true (xs ++ ys)) := by
  have e : pAdd [.lst a xs, .lst b ys] = if (frzL xs && (frzL ys && decide (xs.length + ys.length ≤ sizeLine))) = true then some (T.lst true (xs ++ ys)) else none := by
    unfold pAdd
    rfl
  rw [e, h1, h2, decide_eq_true (szN _ hl), if_pos (show (true && (true && true)) = true from rfl)]
theorem at_disp (xs : List Int) (r : Nat) (h : r < xs.length) : ∃ n ∈ xs, atT (.lst true (xs.map .int)) ((r : Nat) : Int) = some (.int n) :=
  ⟨xs[r], List.getElem_mem h, at_mapI true (List.getElem?_eq_getElem h) rfl⟩
theorem p_appI (t : T) (xs : List T) (h : frz t = true) (hl : xs.length ≤ 1000000) : mApp [.lst true xs, t] = .ok .non [.lst true (xs ++ [t]), t] := by
  rw [p_app, h, decide_eq_true (szL _ (by omega)), if_pos (show (true && true) = true from rfl)]
theorem p_allT (n : Nat) : pAll [.lst true (List.replicate n (T.bl true))] = some (.bl true) := by
  show (blsT (List.replicate n (T.bl true))).map (fun bs => T.bl (bs.all id)) = _
  have e : List.replicate n (T.bl true) = (List.replicate n true).map T.bl := by rw [List.map_replicate]
  rw [e, blsT_map]
  show some (T.bl ((List.replicate n true).all id)) = _
  rw [show (List.replicate n true).all id = true by simp]
theorem p_anyF (n : Nat) : pAny [.lst true (List.replicate n (T.bl false))] = some (.bl false) := by
  show (blsT (List.replicate n (T.bl false))).map (fun bs => T.bl (bs.any id)) = _
  have e : List.replicate n (T.bl false) = (List.replicate n false).map T.bl := by rw [List.map_replicate]
  rw [e, blsT_map]
  show some (T.bl ((List.replicate n false).any id)) = _
  rw [show (List.replicate n false).any id = false by simp]
theorem p_allB (bs : List Bool) : pAll [.lst true (bs.map T.bl)] = some (.bl (bs.all id)) := by
  show (blsT (bs.map T.bl)).map (fun bs => T.bl (bs.all id)) = _
  rw [blsT_map]
  rfl
theorem p_anyB (bs : List Bool) : pAny [.lst true (bs.map T.bl)] = some (.bl (bs.any id)) := by
  show (blsT (bs.map T.bl)).map (fun bs => T.bl (bs.any id)) = _
  rw [blsT_map]
  rfl
theorem map_const {α : Type} (l : List α) (t : T) : l.map (fun _ => t) = List.replicate l.length t := by
  induction l with
  | nil => rfl
  | cons a l ih => rw [List.map_cons, ih]; rfl
theorem minI' (i j : Int) : (if j < i then j else i) = min i j := by
  rcases Int.lt_or_le j i with h | h
  · rw [if_pos h, Int.min_eq_right (by omega)]
  · rw [if_neg (by omega), Int.min_eq_left h]
theorem maxI' (i j : Int) : (if j > i then j else i) = max i j := by
  rcases Int.lt_or_le i j with h | h
  · rw [if_pos h, Int.max_eq_right (by omega)]
  · rw [if_neg (by omega), Int.max_eq_left h]
theorem cut_dropLast {α : Type} (xs : List α) : cutL xs none (some (-1)) = xs.dropLast := by
  unfold cutL
  have e0 : HT.sIx xs.length 0 none = 0 := rfl
  have e1 : HT.sIx xs.length xs.length (some (-1)) = xs.length - 1 := by
    unfold HT.sIx
    simp
    omega
  rw [e0, e1, List.drop_zero, Nat.sub_zero, List.dropLast_eq_take]
/-- a def's answer as an equation -/
theorem def_eq {n k : Nat} {P : Nat → Bool} {b : SS} {ts as : List T} {r : T} (hl : ts.length = n) (h : Ok (b (ts.map some ++ List.replicate (k - n) none)) fun a st => retF P ts (.ok a st) = .ok r as) : defF n k P b ts = .ok r as := by
  obtain ⟨a, st, e, h1⟩ := ok_eq h
  show (if ts.length = n then retF P ts (b (ts.map some ++ List.replicate (k - n) none)) else .no) = _
  rw [if_pos hl, e, h1]
end
end Ev

namespace Ev
noncomputable section
open PySem PySem.Spec PyProof.Rows L2
@[simp] theorem atT_L0 (o : Bool) (xs : List T) : atT (.lst o xs) 0 = (match xs[0]? with
    | some u => if frz u then some u else none
    | none => none) := atT_ofNat o xs 0
@[simp] theorem atT_T0 (xs : List T) : atT (.tup xs) 0 = (match xs[0]? with
    | some u => if frz u then some u else none
    | none => none) := atT_ofNatT xs 0
@[simp] theorem atT_L1 (o : Bool) (xs : List T) : atT (.lst o xs) 1 = (match xs[1]? with
    | some u => if frz u then some u else none
    | none => none) := atT_ofNat o xs 1
@[simp] theorem atT_T1 (xs : List T) : atT (.tup xs) 1 = (match xs[1]? with
    | some u => if frz u then some u else none
    | none => none) := atT_ofNatT xs 1
@[simp] theorem atT_L2 (o : Bool) (xs : List T) : atT (.lst o xs) 2 = (match xs[2]? with
    | some u => if frz u then some u else none
    | none => none) := atT_ofNat o xs 2
@[simp] theorem atT_T2 (xs : List T) : atT (.tup xs) 2 = (match xs[2]? with
    | some u => if frz u then some u else none
    | none => none) := atT_ofNatT xs 2
@[simp] theorem atT_L3 (o : Bool) (xs : List T) : atT (.lst o xs) 3 = (match xs[3]? with
    | some u => if frz u then some u else none
    | none => none) := atT_ofNat o xs 3
@[simp] theorem atT_T3 (xs : List T) : atT (.tup xs) 3 = (match xs[3]? with
    | some u => if frz u then some u else none
    | none => none) := atT_ofNatT xs 3
@[simp] theorem atT_L4 (o : Bool) (xs : List T) : atT (.lst o xs) 4 = (match xs[4]? with
    | some u => if frz u then some u else none
    | none => none) := atT_ofNat o xs 4
@[simp] theorem atT_T4 (xs : List T) : atT (.tup xs) 4 = (match xs[4]? with
    | some u => if frz u then some u else none
    | none => none) := atT_ofNatT xs 4
@[simp] theorem atT_L5 (o : Bool) (xs : List T) : atT (.lst o xs) 5 = (match xs[5]? with
    | some u => if frz u then some u else none
    | none => none) := atT_ofNat o xs 5
@[simp] theorem atT_T5 (xs : List T) : atT (.tup xs) 5 = (match xs[5]? with
    | some u => if frz u then some u else none
    | none => none) := atT_ofNatT xs 5
@[simp] theorem atT_L6 (o : Bool) (xs : List T) : atT (.lst o xs) 6 = (match xs[6]? with
    | some u => if frz u then some u else none
    | none => none) := atT_ofNat o xs 6
@[simp] theorem atT_T6 (xs : List T) : atT (.tup xs) 6 = (match xs[6]? with
    | some u => if frz u then some u else none
    | none => none) := atT_ofNatT xs 6
@[simp] theorem atT_L7 (o : Bool) (xs : List T) : atT (.lst o xs) 7 = (match xs[7]? with
    | some u => if frz u then some u else none
    | none => none) := atT_ofNat o xs 7
@[simp] theorem atT_T7 (xs : List T) : atT (.tup xs) 7 = (match xs[7]? with
    | some u => if frz u then some u else none
    | none => none) := atT_ofNatT xs 7
@[simp] theorem atT_L8 (o : Bool) (xs : List T) : atT (.lst o xs) 8 = (match xs[8]? with
    | some u => if frz u then some u else none
    | none => none) := atT_ofNat o xs 8
@[simp] theorem atT_T8 (xs : List T) : atT (.tup xs) 8 = (match xs[8]? with
    | some u => if frz u then some u else none
    | none => none) := atT_ofNatT xs 8
@[simp] theorem atT_L9 (o : Bool) (xs : List T) : atT (.lst o xs) 9 = (match xs[9]? with
    | some u => if frz u then some u else none
    | none => none) := atT_ofNat o xs 9
@[simp] theorem atT_T9 (xs : List T) : atT (.tup xs) 9 = (match xs[9]? with
    | some u => if frz u then some u else none
    | none => none) := atT_ofNatT xs 9
@[simp] theorem atT_L10 (o : Bool) (xs : List T) : atT (.lst o xs) 10 = (match xs[10]? with
    | some u => if frz u then some u else none
    | none => none) := atT_ofNat o xs 10
@[simp] theorem atT_T10 (xs : List T) : atT (.tup xs) 10 = (match xs[10]? with
    | some u => if frz u then some u else none
    | none => none) := atT_ofNatT xs 10
@[simp] theorem atT_L11 (o : Bool) (xs : List T) : atT (.lst o xs) 11 = (match xs[11]? with
    | some u => if frz u then some u else none
    | none => none) := atT_ofNat o xs 11
@[simp] theorem atT_T11 (xs : List T) : atT (.tup xs) 11 = (match xs[11]? with
    | some u => if frz u then some u else none
    | none => none) := atT_ofNatT xs 11
@[simp] theorem atT_L12 (o : Bool) (xs : List T) : atT (.lst o xs) 12 = (match xs[12]? with
    | some u => if frz u then some u else none
    | none => none) := atT_ofNat o xs 12
@[simp] theorem atT_T12 (xs : List T) : atT (.tup xs) 12 = (match xs[12]? with
    | some u => if frz u then some u else none
    | none => none) := atT_ofNatT xs 12
@[simp] theorem atT_L13 (o : Bool) (xs : List T) : atT (.lst o xs) 13 = (match xs[13]? with
    | some u => if frz u then some u else none
    | none => none) := atT_ofNat o xs 13
@[simp] theorem atT_T13 (xs : List T) : atT (.tup xs) 13 = (match xs[13]? with
    | some u => if frz u then some u else none
    | none => none) := atT_ofNatT xs 13
@[simp] theorem atT_L14 (o : Bool) (xs : List T) : atT (.lst o xs) 14 = (match xs[14]? with
    | some u => if frz u then some u else none
    | none => none) := atT_ofNat o xs 14
@[simp] theorem atT_T14 (xs : List T) : atT (.tup xs) 14 = (match xs[14]? with
    | some u => if frz u then some u else none
    | none => none) := atT_ofNatT xs 14
@[simp] theorem atT_L15 (o : Bool) (xs : List T) : atT (.lst o xs) 15 = (match xs[15]? with
    | some u => if frz u then some u else none
    | none => none) := atT_ofNat o xs 15
@[simp] theorem atT_T15 (xs : List T) : atT (.tup xs) 15 = (match xs[15]? with
    | some u => if frz u then some u else none
    | none => none) := atT_ofNatT xs 15
@[simp] theorem atT_L16 (o : Bool) (xs : List T) : atT (.lst o xs) 16 = (match xs[16]? with
    | some u => if frz u then some u else none
    | none => none) := atT_ofNat o xs 16
@[simp] theorem atT_T16 (xs : List T) : atT (.tup xs) 16 = (match xs[16]? with
    | some u => if frz u then some u else none
    | none => none) := atT_ofNatT xs 16
@[simp] theorem atT_L17 (o : Bool) (xs : List T) : atT (.lst o xs) 17 = (match xs[17]? with
    | some u => if frz u then some u else none
    | none => none) := atT_ofNat o xs 17
@[simp] theorem atT_T17 (xs : List T) : atT (.tup xs) 17 = (match xs[17]? with
    | some u => if frz u then some u else none
    | none => none) := atT_ofNatT xs 17
@[simp] theorem atT_L18 (o : Bool) (xs : List T) : atT (.lst o xs) 18 = (match xs[18]? with
    | some u => if frz u then some u else none
    | none => none) := atT_ofNat o xs 18
@[simp] theorem atT_T18 (xs : List T) : atT (.tup xs) 18 = (match xs[18]? with
    | some u => if frz u then some u else none
    | none => none) := atT_ofNatT xs 18
@[simp] theorem atT_L19 (o : Bool) (xs : List T) : atT (.lst o xs) 19 = (match xs[19]? with
    | some u => if frz u then some u else none
    | none => none) := atT_ofNat o xs 19
@[simp] theorem atT_T19 (xs : List T) : atT (.tup xs) 19 = (match xs[19]? with
    | some u => if frz u then some u else none
    | none => none) := atT_ofNatT xs 19
@[simp] theorem atT_L20 (o : Bool) (xs : List T) : atT (.lst o xs) 20 = (match xs[20]? with
    | some u => if frz u then some u else none
    | none => none) := atT_ofNat o xs 20
@[simp] theorem atT_T20 (xs : List T) : atT (.tup xs) 20 = (match xs[20]? with
    | some u => if frz u then some u else none
    | none => none) := atT_ofNatT xs 20
@[simp] theorem atT_L21 (o : Bool) (xs : List T) : atT (.lst o xs) 21 = (match xs[21]? with
    | some u => if frz u then some u else none
    | none => none) := atT_ofNat o xs 21
@[simp] theorem atT_T21 (xs : List T) : atT (.tup xs) 21 = (match xs[21]? with
    | some u => if frz u then some u else none
    | none => none) := atT_ofNatT xs 21
@[simp] theorem atT_L22 (o : Bool) (xs : List T) : atT (.lst o xs) 22 = (match xs[22]? with
    | some u => if frz u then some u else none
    | none => none) := atT_ofNat o xs 22
@[simp] theorem atT_T22 (xs : List T) : atT (.tup xs) 22 = (match xs[22]? with
    | some u => if frz u then some u else none
    | none => none) := atT_ofNatT xs 22
@[simp] theorem atT_L23 (o : Bool) (xs : List T) : atT (.lst o xs) 23 = (match xs[23]? with
    | some u => if frz u then some u else none
    | none => none) := atT_ofNat o xs 23
@[simp] theorem atT_T23 (xs : List T) : atT (.tup xs) 23 = (match xs[23]? with
    | some u => if frz u then some u else none
    | none => none) := atT_ofNatT xs 23
end
end Ev
namespace Ev
noncomputable section
open PySem PySem.Spec PyProof.Rows L2
theorem eqT_scr (ns : List Int) (o : Bool) : eqT (.scr ns) (.lst o []) = some ns.isEmpty := by
  have q := eqT_nil (dt_int id) (by decide) true o ns
  rw [← q]
  have e : pd (.scr ns) = pd (.lst true (ns.map fun a => T.int (id a))) := by
    show some (PyData.list (ns.map .int)) = (match pdL (ns.map fun a => T.int (id a)) with
      | some ds => some (PyData.list ds)
      | none => none)
    rw [pdL_map (dt_int id)]
    rfl
  unfold eqT
  rw [e]
end
end Ev

/-! EvSim3: more combinators at work. -/
namespace Ev
noncomputable section
open PySem PySem.Spec PyProof.Rows L2
def isStrT : T → Bool
  | .str _ => true
  | _ => false
@[simp] theorem isStrT_s (a : Str) : isStrT (.str a) = true := rfl
@[simp] theorem ap_uStr (f : SU) (st : SL) : uStr f st = (f st).bind fun u st => (match u.get st with
  | some t => if isStrT t = true then .ok u st else .no
  | none => .no) := by
  unfold uStr
  congr 1
  funext u st
  cases u.get st with
  | none => rfl
  | some t => cases t <;> rfl
/-- a while whose test changes nothing -/
theorem ok_whileS {c : ST} {b : SS} {K : Fl → SL → Prop} (I : Nat → SL → Prop) {n : Nat} {st : SL} (h0 : I n st)
    (hs : ∀ n st, I n st → ∃ k, c st = .ok k st ∧ (k = false → K .nx st) ∧ (k = true → ∀ K' : Fl → SL → Prop, (∀ m st2, m < n → I m st2 → K' .nx st2) → (∀ m st2, m < n → I m st2 → K' .ct st2) → (∀ u st2, K (.rt u) st2 → K' (.rt u) st2) → (∀ st2, K .nx st2 → K' .bk st2) → Ok (b st) K')) : Ok (sWh c b st) K :=
  ok_while I h0 fun n st h => let ⟨k, e, a, b⟩ := hs n st h; ⟨k, st, e, a, b⟩
end
end Ev

/-! EvUnl: a, b = x, x a tuple or a list. -/
namespace Ev
noncomputable section
open PySem PySem.Spec PyProof.Rows L2
def tgU (g : TSs) : TS' := fun t st => match t with
  | .tup ts => g ts st
  | .lst _ ts => g ts st
  | _ => none
theorem sim_gtupU {X : Cx} {P : Nat → Bool} {pos : Pos} {es : List Expr} {k : Nat} {gs : TSs} {n : Nat} (hc : X.calm = true) (h : SimGs X P es gs)
    (hn : (assignEach es X.env).length = n := by rfl) (hst : (assignEach es X.env).findIdx? (·.1) = none := by rfl) (hl : ∀ ts st st', gs ts st = some st' → ts.length = n) : SimG X P (.Tuple es k pos) (tgU gs) :=
  ⟨fun pins s σ H v u Q I r ⟨G, F, S, S2, st, t, st', w, d, rs, rv, e, kk⟩ => by
    cases t with
    | tup ts =>
      obtain ⟨a, vs, h1, h2, h3⟩ := rv
      have e' : gs ts st = some st' := e
      exact (pg_tup hc h hn hst).run pins s σ H v u Q I r ⟨a, vs, h1, h2.seq, by rw [← rpl_len h3]; exact hl ts st st' e', G, F, S, S2, st, ts, st', w, d, rs, h3, e', kk⟩
    | lst o ts =>
      obtain ⟨a, vs, h1, h2, h3⟩ := lst_at rv
      have e' : gs ts st = some st' := e
      exact (pg_unl hc h hn hst).run pins s σ H v u Q I r ⟨a, vs, h1, .of h2, by rw [← rpl_len h3]; exact hl ts st st' e', G, F, S, S2, st, ts, st', w, d, rs, h3, e', kk⟩
    | _ => cases e⟩
@[simp] theorem ap_tgU (g : TSs) (ts : List T) (st : SL) : tgU g (.tup ts) st = g ts st := rfl
@[simp] theorem ap_tgUl (g : TSs) (o : Bool) (ts : List T) (st : SL) : tgU g (.lst o ts) st = g ts st := rfl
end
end Ev

/-! EvRev: xs[::-1] of a list or a tuple. -/
namespace Ev
noncomputable section
open PySem PySem.Spec PyProof.Rows L2
section
variable {prog : Program} {w : World} {A : Around} {E : Value → Shared → Prop} {s : Shared}
theorem places_rev (n : Nat) : Builtin.Slice.slicePlaces ((n : Int) - 1) (-1) (-1) = n := by
  unfold Builtin.Slice.slicePlaces
  rw [if_neg (by omega)]
  by_cases h : 0 < n
  · rw [if_pos (by omega)]
    show ((((n : Int) - 1) - (-1) - 1) / 1 + 1).toNat = n
    rw [Int.ediv_one]
    omega
  · rw [if_neg (by omega)]
    show (0 : Nat) = n
    omega
theorem sliceApplied_rev {sl : Addr} {vl vu vs : Value} {n : Nat} {Q : Int × Int × Nat → Shared → Prop} (hs : s.heap.IsSliceOf sl vl vu vs) (pl : IsPart vl none) (pu : IsPart vu none) (ps : IsPart vs (some (-1)))
    (h : Q ((n : Int) - 1, -1, n) s) : wpAny (model prog w) A (Builtin.Slice.sliceApplied (.ref sl) (pure (n : Int))) Q E s := by
  obtain ⟨os, hos, hcs, hds⟩ := id hs
  unfold Builtin.Slice.sliceApplied Builtin.Slice.sliceFields
  refine wpAny_bind (wpAny_bind (wpAny_field hos hds (x := vl) rfl (wpAny_bind (wpAny_field hos hds (x := vu) rfl (wpAny_bind (wpAny_field hos hds (x := vs) rfl (wpAny_pure ?_)))))))
  refine wpAny_bind (HT.slicePart_ ps ?_)
  show wpAny _ _ (if ((-1 : Int) == 0) = true then _ else _) _ _ s
  rw [if_neg (by decide)]
  refine wpAny_bind (HT.slicePart_ pl (wpAny_bind (HT.slicePart_ pu (wpAny_bind (wpAny_pure ?_)))))
  show wpAny _ _ (pure ((n : Int) - 1, (-1 : Int), Builtin.Slice.slicePlaces ((n : Int) - 1) (-1) (-1))) _ _ s
  rw [places_rev]
  exact wpAny_pure h
theorem range_rev (n : Nat) : (List.range n).map (fun m => n - 1 - m) = (List.range n).reverse := by
  apply List.ext_getElem
  · simp
  · intro i h1 h2
    simp at h1
    simp
theorem pick_rev (xs : Array Value) : ((List.range xs.size).filterMap fun (m : Nat) => xs[((xs.size : Int) - 1 + (m : Int) * (-1)).toNat]?).toArray = xs.toList.reverse.toArray := by
  have e : (List.range xs.size).filterMap (fun (m : Nat) => xs[((xs.size : Int) - 1 + (m : Int) * (-1)).toNat]?) = ((List.range xs.size).map (fun m => xs.size - 1 - m)).filterMap fun m => xs[m]? := by
    rw [List.filterMap_map]
    have aux : ∀ (l : List Nat), (∀ m ∈ l, m < xs.size) → l.filterMap (fun (m : Nat) => xs[((xs.size : Int) - 1 + (m : Int) * (-1)).toNat]?) = l.filterMap ((fun m => xs[m]?) ∘ fun m => xs.size - 1 - m) := by
      intro l
      induction l with
      | nil => exact fun _ => rfl
      | cons m l ih =>
        intro h
        have hm := h m (List.mem_cons_self ..)
        rw [List.filterMap_cons, List.filterMap_cons, ih fun k hk => h k (List.mem_cons_of_mem _ hk)]
        rw [show ((xs.size : Int) - 1 + (m : Int) * (-1)).toNat = xs.size - 1 - m by omega]
        rfl
    exact aux _ fun m hm => List.mem_range.mp hm
  rw [e, range_rev, List.filterMap_reverse, PySem.W.krv_all]
theorem getItem_tuple_rev {t sl : Addr} {items : Array Value} {vl vu vs : Value} {Q : Value → Shared → Prop} (ht : IsTup s.heap t items) (hs : s.heap.IsSliceOf sl vl vu vs) (pl : IsPart vl none) (pu : IsPart vu none) (ps : IsPart vs (some (-1)))
    (h : Q (.ref s.heap.objs.size) { s with heap := s.heap.push { cls := .type "tuple", data := .seq items.toList.reverse.toArray } })
    (hsz : items.size ≤ sizeLine) : wpAny (model prog w) A (getItem (.ref t) (.ref sl)) Q E s := by
  have htake : sizeOk (.seq items.toList.reverse.toArray) := by
    show items.toList.reverse.toArray.size ≤ sizeLine
    rw [List.size_toArray, List.length_reverse, Array.length_toList]
    exact hsz
  obtain ⟨os, hos, hcs, hds⟩ := id hs
  have hTs : s.TypeIs (.ref sl) "slice" := ⟨os, hos, hcs⟩
  unfold getItem
  try with_reducible refine wpAny_holding ?_
  first | refine wpAny_bind (wpAny_pure ?_) | skip
  refine wpAny_bind (wpAny_sequenceKey ht.typeIs (by decide) ?_)
  refine wpAny_bind (wpAny_callSpecial?_slot (name := Str.ofString "__getitem__") ht.typeIs PyProof.Rows.slot_tuple_getitem
    (wpAny_call_entry PyProof.Rows.slot_tuple_getitem ht.typeIs entry_tuple_getitem ?_ (args_tuple_getitem _ _)))
  show wpAny _ _ (Builtin.Tuple.tupleItemsOf (.ref t) >>= _) _ _ s
  refine wpAny_bind (tupleItemsOf_ ht ?_)
  refine wpAny_bind (wpAny_typeOf hTs ?_)
  rw [if_pos (by decide)]
  refine wpAny_bind (sliceApplied_rev hs pl pu ps ?_)
  have hno : ¬ ((((items.size : Int) - 1) == 0 && (-1 : Int) == 1 && items.size == items.size) = true) := by
    rw [show ((-1 : Int) == 1) = false from rfl, Bool.and_false, Bool.false_and]
    exact Bool.false_ne_true
  show wpAny _ _ (if ((((items.size : Int) - 1) == 0 && (-1 : Int) == 1 && items.size == items.size) = true) then _ else _) _ _ s
  rw [if_neg hno, pick_rev]
  first
    | exact wpAny_bind (m := Builtin.Tuple.tupleExact _) (wpAny_newObj_type (wpAny_pure ⟨_, rfl, wpAny_pure h⟩) htake)
    | exact wpAny_bind (m := Builtin.Tuple.tupleExact _) (wpAny_newObj_type (wpAny_bind (wpAny_pure (wpAny_pure ⟨_, rfl, wpAny_pure h⟩))) htake)
    | exact wpAny_bind (wpAny_bind (m := Builtin.Tuple.tupleExact _) (wpAny_newObj_type (wpAny_pure (wpAny_pure ⟨_, rfl, wpAny_pure h⟩)) htake))
    | exact wpAny_bind (wpAny_bind (m := Builtin.Tuple.tupleExact _) (wpAny_newObj_type (wpAny_pure ⟨_, rfl, wpAny_pure h⟩) htake))
end
def rRev (K : PySem.W.Frag) : V → Hp → VK → Prop := fun x H Q => ∃ a xs, x = .ref a ∧ ((SqL K H a xs ∧ ∀ p, H p = none → Q (.ref p) (upd H p (.lst xs.reverse))) ∨ (SqT K H a xs ∧ ∀ p, H p = none → Q (.ref p) (upd H p (.tup xs.reverse))))
section
variable {X : Cx}
theorem pe_rev {e : Expr} {te : TE} {k : Nat} {p1 p2 p3 pos : Pos} (he : PE X e te) : PE X (.Subscript e (.Slice none none (some (.UnaryOp .USub (.Constant (.int 1) k p1) p2)) p3) pos) (fun σ H Q => te σ H fun x H1 => rRev X.K x H1 Q) := by
  refine ⟨fun pins s σ H Q I h => ?_⟩
  refine Subscript_ (thn (he.run pins s σ H _ I h) fun v s1 ⟨x, H1, I1, r1, q1⟩ => ?_)
  obtain ⟨a, xs, ex, q⟩ := q1
  subst ex
  cases r1
  have hst : PO X (some (.UnaryOp .USub (.Constant (.int 1) k p1) p2)) (tPart (tUn (rU fun i => .int (-i)) (tC (.int 1)))) := po_some (pe_un un_neg pe_int)
  refine wpAny_Slice (thn (po_none.run pins s1 σ H1 (fun o H2 => o = none ∧ H2 = H1) I1 ⟨rfl, rfl⟩) fun vl s2 ⟨l, H2, I2, pl, el, e2⟩ => ?_)
  subst el e2
  refine thn (po_none.run pins s2 σ H2 (fun o H3 => o = none ∧ H3 = H2) I2 ⟨rfl, rfl⟩) fun vu s3 ⟨u, H3, I3, pu, eu, e3⟩ => ?_
  subst eu e3
  refine thn (hst.run pins s3 σ H3 (fun o H4 => o = some (-1) ∧ H4 = H3) I3 ⟨1, rfl, -1, rfl, rfl, rfl⟩) fun vs s4 ⟨o, H4, I4, ps, eo, e4⟩ => ?_
  subst eo e4
  have I5 : Inv X pins σ H4 { s4 with heap := s4.heap.push { cls := .type "slice", data := .fields #[vl, vu, vs] } } := I4.kept (t' := s4.toks) fun b ob q => Heap.get?_push_of_some _ q
  show wpAny (model X.prog X.w) X.A (subscriptTail e (.Slice none none (some (.UnaryOp .USub (.Constant (.int 1) k p1) p2)) p3) (.ref a) (.ref s4.heap.objs.size)) (EP X pins σ Q) X.xe { s4 with heap := s4.heap.push { cls := .type "slice", data := .fields #[vl, vu, vs] } }
  rcases q with ⟨hx, q⟩ | ⟨hx, q⟩
  · obtain ⟨its, r, ht, hz⟩ := I5.list hx
    have hlen := r.length
    refine tail_any (ops := [.ref a, .ref s4.heap.objs.size]) ht.isList.typeIs (PySem.slot_list_getitem.lookup) ?_ (by with_unfolding_all rfl)
    refine wpAny_getItem_list_slice ht.isList (Heap.IsSliceOf.new _ vl vu vs) pl pu ps (by decide) ?_ (by rw [List.size_toArray]; omega)
    rw [PySem.W.krv_pick]
    refine ⟨.ref _, _, I5.laid (t' := s4.toks) (o := .lst xs.reverse) (fun b ob q => Heap.get?_push_of_some _ q) (Nat.le_refl _) ?_, rfl, q _ (I5.hok.fresh (Nat.le_refl _))⟩
    exact ⟨by rw [List.length_reverse]; exact hz, _, 0, r.reverse, Heap.get?_push_size _ rfl⟩
  · obtain ⟨its, r, ht, hz⟩ := I5.tuple hx
    have hlen := r.length
    refine tail_any (ops := [.ref a, .ref s4.heap.objs.size]) ht.typeIs (PyProof.Rows.slot_tuple_getitem.lookup) ?_ (by with_unfolding_all rfl)
    refine getItem_tuple_rev ht (Heap.IsSliceOf.new _ vl vu vs) pl pu ps ?_ (by rw [List.size_toArray]; omega)
    refine ⟨.ref _, _, I5.laid (t' := s4.toks) (o := .tup xs.reverse) (fun b ob q => Heap.get?_push_of_some _ q) (Nat.le_refl _) ?_, rfl, q _ (I5.hok.fresh (Nat.le_refl _))⟩
    exact ⟨by rw [List.length_reverse]; exact hz, _, r.reverse, IsTup.new _ _⟩
end
def pRevT : List T → Option T
  | [.lst _ xs] => if frzL xs then some (.lst true xs.reverse) else none
  | [.tup xs] => if frzL xs then some (.tup xs.reverse) else none
  | _ => none
theorem pr_revT {K : PySem.W.Frag} : Pr K (on1 fun x H Q => rRev K x H Q) pRevT := fun G F S H ts vs t Q w o e k => by
  unfold pRevT at e
  split at e
  · split at e
    · rename_i f
      cases e
      obtain ⟨v, S1, rfl, _, r1⟩ := ops1 o
      obtain ⟨p, zs, rfl, hp, q1⟩ := lst_at r1
      exact ⟨p, zs, rfl, .inl ⟨.of hp, new_lst w (pr_rev (cl_of f q1)) k⟩⟩
    · cases e
  · split at e
    · rename_i f
      cases e
      obtain ⟨v, S1, rfl, _, r1⟩ := ops1 o
      obtain ⟨p, zs, rfl, hp, q1⟩ := r1
      exact ⟨p, zs, rfl, .inr ⟨hp.seq, new_tup w (pr_rev (cl_of f q1)) k⟩⟩
    · cases e
  · cases e
theorem sim_rev {X : Cx} {a : Expr} {f : SU} {k : Nat} {p1 p2 p3 pos : Pos} (h1 : SimU X a f) : SimE X (.Subscript a (.Slice none none (some (.UnaryOp .USub (.Constant (.int 1) k p1) p2)) p3) pos) (eP pRevT (aCons f aNil)) := fun Wx tk =>
  PE.imp (pe_rev (h1 Wx tk)) fun σ H Q q => one_core (prim_core pr_revT q)
theorem p_revTI {α : Type} (f : α → T) (l : List α) (h : frzL (l.map f) = true) : pRevT [.tup (l.map f)] = some (.tup (l.reverse.map f)) := by
  show (if frzL (l.map f) then some (T.tup (l.map f).reverse) else none) = _
  rw [if_pos h, List.map_reverse]
theorem p_revLI {α : Type} (f : α → T) (o : Bool) (l : List α) (h : frzL (l.map f) = true) : pRevT [.lst o (l.map f)] = some (.lst true (l.reverse.map f)) := by
  show (if frzL (l.map f) then some (T.lst true (l.map f).reverse) else none) = _
  rw [if_pos h, List.map_reverse]
end
end Ev

/-! EvFrz: an expression that only looks: all that is owned is lent frozen, a scalar comes back. -/
namespace Ev
noncomputable section
open PySem PySem.Spec PyProof.Rows L2
def frzS : SL → SL
  | [] => []
  | none :: st => none :: frzS st
  | some t :: st => some (fz t) :: frzS st
theorem StR.frzS {K : PySem.W.Frag} {G G' : AS} {H : Hp} : ∀ {st : SL} {σ : L2.St} {S : AS}, StR K G H st σ S → (∀ a, S a → G' a) → (∀ a, G a → G' a) → StR K G' H (frzS st) σ NoA
  | [], σ, S, h, _, _ => h
  | none :: st, σ, S, ⟨y, σr, S1, S2, h1, h2, h3, h4, h5, h6⟩, s, g =>
    ⟨y, σr, NoA, NoA, h1, trivial, StR.frzS h3 (fun a z => s a (h5 a z)) g, fun _ z => z.elim, fun _ z => z.elim, fun _ z => z.elim⟩
  | some t :: st, σ, S, ⟨y, σr, S1, S2, h1, ⟨v, h2, h2'⟩, h3, h4, h5, h6⟩, s, g =>
    ⟨y, σr, NoA, NoA, h1, ⟨v, h2, Rp.fz t h2' (fun a z => s a (h4 a z)) g⟩, StR.frzS h3 (fun a z => s a (h5 a z)) g, fun _ z => z.elim, fun _ z => z.elim, fun _ z => z.elim⟩
def eFrz (f : SE) : SE := fun st => match f (frzS st) with
  | .ok r _ => if (scV r).isSome then .ok r st else .no
  | _ => .no
theorem sim_frz {X : Cx} {e : Expr} {f : SE} (h : SimE X e f) : SimE X e (eFrz f) := fun Wx tk => PE.imp (h Wx tk) fun σ H Q ⟨G, F, S, st, w, r, p⟩ => by
  refine ⟨fun a => G a ∨ S a, F, NoA, frzS st, ⟨fun a g f => g.elim (fun g => w.gf a g f) fun s => w.fs a f s, fun _ _ z => z.elim, fun _ _ z => z.elim, fun a g => g.elim (w.dG a) (w.dS a), w.dF, fun _ z => z.elim⟩,
    StR.frzS r (fun _ z => .inr z) (fun _ z => .inl z), ?_⟩
  have p0 : PostU X.K Wx G F H σ Q (R.bind (match f (frzS st) with
    | .ok r _ => if (scV r).isSome then .ok r st else .no
    | _ => .no) fun t st => .ok (.v t) st) := p
  show PostU X.K Wx (fun a => G a ∨ S a) F H σ Q (R.bind (f (frzS st)) fun t st => .ok (.v t) st)
  cases e : f (frzS st) with
  | ex x s => rw [e] at p0; exact p0.elim
  | no => rw [e] at p0; exact p0.elim
  | ok t s =>
    rw [e] at p0
    have p1 : PostU X.K Wx G F H σ Q (R.bind (if (scV t).isSome then .ok t st else .no) fun t st => .ok (.v t) st) := p0
    by_cases hs : (scV t).isSome = true
    · rw [if_pos hs] at p1
      intro v H2 G2 T1 T2 x2 w2 d2 ra rv
      have kp : ∀ a, G a ∨ S a → H2 a = H a := fun a z => x2.keep a (.inl z)
      refine p1 v H2 G S NoA ⟨fun _ z => z, fun a z => z.elim (fun z => kp a (.inl z)) fun z => x2.keep a (.inr z)⟩ ?_ (fun _ _ z => z.elim) (r.keep (fun _ z => z) fun a z => kp a z) (rp_scOf hs rv)
      exact ⟨w.gf, fun a g s => s.elim (fun s => w.gs a g s) fun z => z.elim, fun a f s => s.elim (fun s => w.fs a f s) fun z => z.elim, fun a g => by rw [kp a (.inl g)]; exact w.dG a g, fun a f => by rw [x2.keep a (.inr f)]; exact w.dF a f, fun a s => s.elim (fun s => by rw [kp a (.inr s)]; exact w.dS a s) fun z => z.elim⟩
    · rw [if_neg hs] at p1
      exact p1.elim
@[simp] theorem ap_eFrz (f : SE) (st : SL) : eFrz f st = (match f (frzS st) with
  | .ok r _ => if (scV r).isSome then .ok r st else .no
  | _ => .no) := rfl
@[simp] theorem frzS_nil : frzS [] = [] := rfl
@[simp] theorem frzS_none (st : SL) : frzS (none :: st) = none :: frzS st := rfl
@[simp] theorem frzS_some (t : T) (st : SL) : frzS (some t :: st) = some (fz t) :: frzS st := rfl
end
end Ev

/-! EvSet: sorted(set(xs)), xs a list of pairs of whole numbers. -/
namespace Ev
noncomputable section
open PySem PySem.Spec PyProof.Rows L2
abbrev ltD (a b : Int × Int) : Prop := a.1 < b.1 ∨ (a.1 = b.1 ∧ a.2 < b.2)
/-- into its place, but once -/
def insD (x : Int × Int) : List (Int × Int) → List (Int × Int)
  | [] => [x]
  | y :: l => if x = y then y :: l else if x.1 < y.1 ∨ (x.1 = y.1 ∧ x.2 < y.2) then x :: y :: l else y :: insD x l
def setL : List (Int × Int) → List (Int × Int)
  | [] => []
  | x :: l => insD x (setL l)
theorem insD_mem {x z : Int × Int} : ∀ {l : List (Int × Int)}, z ∈ insD x l ↔ z = x ∨ z ∈ l
  | [] => by simp [insD]
  | y :: l => by
    unfold insD
    split
    · rename_i e
      subst e
      simp
    · split
      · simp
      · rw [List.mem_cons, insD_mem (l := l), List.mem_cons]
        constructor
        · rintro (h | h | h)
          · exact .inr (.inl h)
          · exact .inl h
          · exact .inr (.inr h)
        · rintro (h | h | h)
          · exact .inr (.inl h)
          · exact .inl h
          · exact .inr (.inr h)
theorem setL_mem {z : Int × Int} : ∀ {l : List (Int × Int)}, z ∈ setL l ↔ z ∈ l
  | [] => Iff.rfl
  | x :: l => by
    show z ∈ insD x (setL l) ↔ _
    rw [insD_mem, setL_mem (l := l), List.mem_cons]
theorem insD_sorted {x : Int × Int} : ∀ {l : List (Int × Int)}, l.Pairwise ltD → (insD x l).Pairwise ltD
  | [], _ => List.pairwise_singleton _ _
  | y :: l, h => by
    obtain ⟨h1, h2⟩ := List.pairwise_cons.mp h
    unfold insD
    split
    · exact h
    · rename_i ne
      split
      · rename_i lt
        refine List.pairwise_cons.mpr ⟨fun z hz => ?_, h⟩
        rcases List.mem_cons.mp hz with e | hz
        · rw [e]; exact lt
        · have := h1 z hz
          unfold ltD at this ⊢
          omega
      · rename_i nlt
        refine List.pairwise_cons.mpr ⟨fun z hz => ?_, insD_sorted h2⟩
        rcases insD_mem.mp hz with e | hz
        · rw [e]
          have : ¬ (x.1 = y.1 ∧ x.2 = y.2) := fun q => ne (Prod.ext q.1 q.2)
          unfold ltD
          omega
        · exact h1 z hz
theorem setL_sorted : ∀ (l : List (Int × Int)), (setL l).Pairwise ltD
  | [] => List.Pairwise.nil
  | x :: l => insD_sorted (setL_sorted l)
theorem same_sorted : ∀ {l m : List (Int × Int)}, l.Pairwise ltD → m.Pairwise ltD → (∀ z, z ∈ l ↔ z ∈ m) → l = m
  | [], [], _, _, _ => rfl
  | [], y :: m, _, _, h => absurd ((h y).mpr (List.mem_cons_self ..)) (by simp)
  | x :: l, [], _, _, h => absurd ((h x).mp (List.mem_cons_self ..)) (by simp)
  | x :: l, y :: m, h1, h2, h => by
    obtain ⟨a1, a2⟩ := List.pairwise_cons.mp h1
    obtain ⟨b1, b2⟩ := List.pairwise_cons.mp h2
    have e : x = y := by
      rcases List.mem_cons.mp ((h x).mp (List.mem_cons_self ..)) with e | hx
      · exact e
      · rcases List.mem_cons.mp ((h y).mpr (List.mem_cons_self ..)) with e | hy
        · exact e.symm
        · have p := a1 y hy
          have q := b1 x hx
          unfold ltD at p q
          omega
    subst e
    have : l = m := same_sorted a2 b2 fun z => by
      constructor
      · intro hz
        rcases List.mem_cons.mp ((h z).mp (List.mem_cons_of_mem _ hz)) with e | q
        · subst e
          have p := a1 z hz
          unfold ltD at p
          omega
        · exact q
      · intro hz
        rcases List.mem_cons.mp ((h z).mpr (List.mem_cons_of_mem _ hz)) with e | q
        · subst e
          have p := b1 z hz
          unfold ltD at p
          omega
        · exact q
    rw [this]
def bdB : Int := 1099511627776
def inB (p : Int × Int) : Bool := decide (0 ≤ p.1) && (decide (p.1 < bdB) && (decide (0 ≤ p.2) && decide (p.2 < bdB)))
def pSetS : List T → Option T
  | [.lst _ ts] => match pairsT ts with
    | some ps => if decide (ps.length < 64) && ps.all inB then some (.lst true ((setL ps).map pairT)) else none
    | none => none
  | _ => none
def rSetS (K : PySem.W.Frag) (P : Program) (w : World) : List V → Hp → VK → Prop := fun vs H Q => rSetOfT K P w vs H fun v H1 => rSortedT K P w [v] H1 Q
/-- the tuples by their places -/
theorem places {K : PySem.W.Frag} {G : AS} {H : Hp} : ∀ {ps : List (Int × Int)} {vs : List V}, Paired (fun p v => Rp K G H (pairT p) v NoA) ps vs →
    ∃ ks : List (Addr × List Int), vs = ks.map (fun p => V.ref p.1) ∧ ks.map (·.2) = ps.map (fun p => [p.1, p.2]) ∧ ∀ k ∈ ks, ∃ p ∈ ps, k.2 = [p.1, p.2] ∧ Rp K G H (pairT p) (.ref k.1) NoA
  | _, _, .nil => ⟨[], rfl, rfl, fun _ z => nomatch z⟩
  | p :: ps, v :: vs, .cons q t => by
    obtain ⟨a, rfl, _⟩ := pair_rp q
    obtain ⟨ks, h1, h2, h3⟩ := places t
    refine ⟨(a, [p.1, p.2]) :: ks, by rw [h1]; rfl, by rw [List.map_cons, List.map_cons, h2], fun k hk => ?_⟩
    rcases List.mem_cons.mp hk with rfl | hk
    · exact ⟨p, List.mem_cons_self .., rfl, q⟩
    · obtain ⟨p', m, e, r⟩ := h3 k hk
      exact ⟨p', List.mem_cons_of_mem _ m, e, r⟩
theorem New.after {G : AS} {H H1 : Hp} {G' Sn : AS} {H' : Hp} (h : ∀ a, H a ≠ none → H1 a = H a) (h' : ∀ a, H1 a = none → H a = none) (n : New G H1 G' Sn H') : New G H G' Sn H' :=
  ⟨n.sub, fun a g => (n.gn a g).imp id (h' a), fun a s => h' a (n.sn a s), n.gs, fun a k => by rw [n.keep a (by rw [h a k]; exact k), h a k], n.dG, n.dS⟩
theorem pr_setS {K : PySem.W.Frag} {P : Program} {wd : World} : Pr K (rSetS K P wd) pSetS := fun G F S H ts vs t Q w o e k => by
  unfold pSetS at e
  split at e
  · rename_i ob us
    split at e
    · rename_i ps hps
      split at e
      · rename_i hc
        cases e
        obtain ⟨c1, c2⟩ := Bool.and_eq_true_iff.mp hc
        have cl := of_decide_eq_true c1
        rw [List.all_eq_true] at c2
        obtain ⟨v, S1, rfl, _, r1⟩ := ops1 o
        obtain ⟨l, zs, rfl, hp, q1⟩ := lst_at r1
        rw [pairsT_some hps] at q1
        obtain ⟨ks, rfl, hk2, hk⟩ := places (pairs_cl q1)
        have hkl : ks.length = ps.length := by
          have := congrArg List.length hk2
          simpa using this
        have hbd : ∀ k ∈ ks, k.2.length = 2 ∧ TS.Bd bdB k.2 := fun k0 hk0 => by
          obtain ⟨p, m, e, r⟩ := hk k0 hk0
          rw [e]
          have b := c2 p m
          unfold inB at b
          simp only [Bool.and_eq_true, decide_eq_true_eq] at b
          refine ⟨rfl, fun z hz => ?_⟩
          simp only [List.mem_cons, List.not_mem_nil, or_false] at hz
          rcases hz with rfl | rfl
          · exact ⟨b.1, b.2.1⟩
          · exact ⟨b.2.2.1, b.2.2.2⟩
        refine ⟨l, ks, rfl, .of hp, fun p hp' => ?_, by omega, fun a L na hL1 hL2 => ?_⟩
        · obtain ⟨q, m, e, r⟩ := hk p hp'
          obtain ⟨t', e1, h1⟩ := pair_rp r
          cases e1
          rw [e]
          exact h1
        · have w1 : Wd G F S (upd H a (SetTO P wd a L)) := by
            have ne : ∀ b, H b ≠ none → upd H a (SetTO P wd a L) b ≠ none := fun b hb => by
              rw [upd_ne fun e => hb (by rw [e]; exact na)]
              exact hb
            exact ⟨w.gf, w.gs, w.fs, fun b g => ne b (w.dG b g), fun b f => ne b (w.dF b f), fun b s => ne b (w.dS b s)⟩
          have kp : ∀ b, H b ≠ none → upd H a (SetTO P wd a L) b = H b := fun b hb => upd_ne fun e => hb (by rw [e]; exact na)
          have kr : ∀ p ∈ ks, ∃ q ∈ ps, p.2 = [q.1, q.2] ∧ Rp K G (upd H a (SetTO P wd a L)) (pairT q) (.ref p.1) NoA := fun p hp' => by
            obtain ⟨q, m, e, r⟩ := hk p hp'
            exact ⟨q, m, e, Rp.keep _ r (fun _ z => z) fun b z => kp b (z.elim (w.dG b) fun z => z.elim)⟩
          refine ⟨a, L, 2, bdB, rfl, upd_same, fun p hp' => ?_, by decide, fun p hp' => hbd p (hL1 p hp'), fun L' q pm nd lf pw nq => ?_⟩
          · obtain ⟨q, m, e, r⟩ := kr p (hL1 p hp')
            obtain ⟨t', e1, h1⟩ := pair_rp r
            cases e1
            rw [e]
            exact h1
          · -- what is sorted
            have hsub : ∀ k ∈ L', k ∈ ks := fun k0 h0 => hL1 k0 (pm.mem_iff.mp h0)
            have ex : ∀ (M : List (Addr × List Int)), (∀ k ∈ M, k ∈ ks) → ∃ ms : List (Int × Int), Paired (fun p v => Rp K G (upd H a (SetTO P wd a L)) (pairT p) v NoA) ms (M.map fun q => V.ref q.1) ∧ M.map (·.2) = ms.map (fun p => [p.1, p.2]) := by
              intro M
              induction M with
              | nil => intro _; exact ⟨[], .nil, rfl⟩
              | cons m M ih =>
                intro hM
                obtain ⟨ms, h1, h2⟩ := ih fun k h0 => hM k (List.mem_cons_of_mem _ h0)
                obtain ⟨p, _, e, r⟩ := kr m (hM m (List.mem_cons_self ..))
                exact ⟨p :: ms, .cons r h1, by rw [List.map_cons, List.map_cons, h2, e]⟩
            obtain ⟨ms, hm1, hm2⟩ := ex L' hsub
            have inj : ∀ p q : Int × Int, [p.1, p.2] = [q.1, q.2] → p = q := fun p q h => by
              injection h with a1 a2
              injection a2 with a2 _
              exact Prod.ext a1 a2
            have hms : ms = setL ps := by
              refine same_sorted ?_ (setL_sorted ps) fun z => ?_
              · have s1 : (L'.map (·.2)).Pairwise (fun x y => TS.code bdB x ≤ TS.code bdB y ∧ x ≠ y ∧ (∃ k ∈ ks, k.2 = x) ∧ ∃ k ∈ ks, k.2 = y) := by
                  refine List.pairwise_and_iff.mpr ⟨List.pairwise_map.mpr pw, List.pairwise_and_iff.mpr ⟨nd, ?_⟩⟩
                  refine List.Pairwise.imp_of_mem (R := fun _ _ => True) (fun {x y} hx hy _ => ?_) (List.pairwise_of_forall fun _ _ => trivial)
                  obtain ⟨k1, m1, e1⟩ := List.mem_map.mp hx
                  obtain ⟨k2, m2, e2⟩ := List.mem_map.mp hy
                  exact ⟨⟨k1, hsub k1 m1, e1⟩, k2, hsub k2 m2, e2⟩
                rw [hm2] at s1
                refine (List.pairwise_map.mp s1).imp fun {x y} h => ?_
                obtain ⟨h1, h2, ⟨k1, m1, e1⟩, k2, m2, e2⟩ := h
                have b1 := (hbd k1 m1).2
                have b2 := (hbd k2 m2).2
                rw [e1] at b1
                rw [e2] at b2
                have lx := code_lex b1 b2 h1
                have ne : ¬ (x.1 = y.1 ∧ x.2 = y.2) := fun q => h2 (by rw [q.1, q.2])
                unfold ltD
                omega
              · rw [setL_mem]
                constructor
                · intro hz
                  have : [z.1, z.2] ∈ L'.map (·.2) := by rw [hm2]; exact List.mem_map.mpr ⟨z, hz, rfl⟩
                  obtain ⟨k0, m0, e0⟩ := List.mem_map.mp this
                  obtain ⟨p, mp, e, _⟩ := hk k0 (hsub k0 m0)
                  rw [e] at e0
                  rw [← inj _ _ e0]
                  exact mp
                · intro hz
                  have : [z.1, z.2] ∈ ks.map (·.2) := by rw [hk2]; exact List.mem_map.mpr ⟨z, hz, rfl⟩
                  obtain ⟨k0, m0, e0⟩ := List.mem_map.mp this
                  have h1 := hL2 k0 m0
                  rw [e0] at h1
                  obtain ⟨k1, m1, e1⟩ := List.mem_map.mp h1
                  have h2 : [z.1, z.2] ∈ L'.map (·.2) := by rw [← e1]; exact List.mem_map.mpr ⟨k1, pm.mem_iff.mpr m1, rfl⟩
                  rw [hm2] at h2
                  obtain ⟨z', hz', e2⟩ := List.mem_map.mp h2
                  rw [← inj _ _ e2]
                  exact hz'
            rw [← hms] at k
            refine new_lst (G := G) (F := F) (S := S) (H := upd H a (SetTO P wd a L)) w1 (cl_pairs hm1) (fun v G' Sn H' n r => k v G' Sn H' (New.after kp (fun b hb => ?_) n) r) q nq
            by_cases e : b = a
            · rw [e]; exact na
            · rw [upd_ne e] at hb; exact hb
      · cases e
    · cases e
  · cases e
section
variable {X : Cx}
theorem sim_setS {e : Expr} {f : SU} {p p2 pos pos2 : Pos} (hc : X.calm = true) (hu : X.A.units + 64 < cLine) (hg : Gl X "sorted") (hm : X.mg "sorted" = none) (hg2 : Gl X "set") (hm2 : X.mg "set" = none) (h : SimU X e f)
    (hb : bootBuiltins "sorted" = some (.builtin "sorted")) (hb2 : bootBuiltins "set" = some (.type "set")) (he : starEach [e] X.env = (false, eval e X.env) :: starEach [] X.env := by rfl)
    (he2 : starEach [.Call (.Name "set" p2) [e] [] pos2] X.env = (false, eval (.Call (.Name "set" p2) [e] [] pos2) X.env) :: starEach [] X.env := by rfl) :
    SimE X (.Call (.Name "sorted" p) [.Call (.Name "set" p2) [e] [] pos2] [] pos) (eP pSetS (aCons f aNil)) := fun Wx tk => by
  have i1 : PE X (.Call (.Name "set" p2) [e] [] pos2) (tCB (rSetOfT X.K X.prog X.w) (tCons (RdU X.K Wx f) tNil)) := pe_callTy (cr_setOfT hc hu) hg2 hm2 hb2 (pa_cons (h Wx tk) pa_nil he) (by decide) (by decide) he
  have i2 := pe_callB (pos := pos) (p := p) (cr_sortedT (X := X) hc) hg hm hb (pa_cons i1 pa_nil he2) (by decide) (by decide) he2
  refine PE.imp i2 fun σ H Q q => ?_
  have q1 := prim_core (pr_setS (P := X.prog) (wd := X.w)) q
  exact one_core q1
end
theorem p_setS (o : Bool) (l : List (Int × Int)) (h : l.length < 64) (hb : ∀ p ∈ l, (0 ≤ p.1 ∧ p.1 < 1000000000000) ∧ 0 ≤ p.2 ∧ p.2 < 1000000000000) : pSetS [.lst o (l.map pairT)] = some (.lst true ((setL l).map pairT)) := by
  have a : l.all inB = true := List.all_eq_true.mpr fun p hp => by
    have b := hb p hp
    unfold inB bdB
    simp only [Bool.and_eq_true, decide_eq_true_eq]
    omega
  show (match pairsT (l.map pairT) with
    | some ps => if decide (ps.length < 64) && ps.all inB then some (T.lst true ((setL ps).map pairT)) else none
    | none => none) = _
  rw [pairsT_map]
  show (if decide (l.length < 64) && l.all inB then some (T.lst true ((setL l).map pairT)) else none) = _
  rw [decide_eq_true h, a]
  rfl
end
end Ev

/-! EvPath: what is owned deep inside is changed where it stands: x.f[k].append(y), x.f[k] = y, x.f += 1. -/
namespace Ev
noncomputable section
open PySem PySem.Spec PyProof.Rows L2
/-- one of a row is changed -/
theorem rpl_lens {K : PySem.W.Frag} {G : AS} {H : Hp} : ∀ {xs : List T} {vs : List V} {S : AS} {j : Nat} {t : T}, RpL K G H xs vs S → xs[j]? = some t →
    ∃ y A, vs[j]? = some y ∧ Rp K G H t y A ∧ (∀ a, A a → S a) ∧ ∀ (H' : Hp) (G' : AS) (t' : T) (A' N : AS), (∀ a, G a → G' a) → (∀ a, G a ∨ (S a ∧ ¬ A a) → H' a = H a) → Rp K G' H' t' y A' → (∀ a, A' a → A a ∨ N a) → (∀ a, S a → N a → False) →
      RpL K G' H' (xs.set j t') vs (fun a => S a ∨ N a)
  | [], _, _, _, _, _, e => by simp at e
  | x :: xs, _, S, 0, t, ⟨v, vr, S1, S2, h1, h2, h3, h4, h5, h6⟩, e => by
    have e' : x = t := by simpa using e
    subst e'
    rw [h1]
    refine ⟨v, S1, rfl, h2, h4, fun H' G' t' A' N g k r a1 a2 => ?_⟩
    exact ⟨v, vr, A', S2, rfl, r, RpL.keep xs h3 g fun a z => k a (z.imp id fun z => ⟨h5 a z, fun q => h6 a q z⟩), fun a z => (a1 a z).imp (h4 a) id, fun a z => .inl (h5 a z), fun a z1 z2 => (a1 a z1).elim (fun q => h6 a q z2) fun q => a2 a (h5 a z2) q⟩
  | x :: xs, _, S, j + 1, t, ⟨v, vr, S1, S2, h1, h2, h3, h4, h5, h6⟩, e => by
    obtain ⟨y, A, q1, q2, q3, q4⟩ := rpl_lens h3 (show xs[j]? = some t by simpa using e)
    rw [h1]
    refine ⟨y, A, by simpa using q1, q2, fun a z => h5 a (q3 a z), fun H' G' t' A' N g k r a1 a2 => ?_⟩
    have q5 := q4 H' G' t' A' N g (fun a z => k a (z.imp id fun z => ⟨h5 a z.1, z.2⟩)) r a1 (fun a z => a2 a (h5 a z))
    exact ⟨v, vr, S1, fun a => S2 a ∨ N a, rfl, Rp.keep _ h2 g fun a z => k a (z.imp id fun z => ⟨h4 a z, fun q => h6 a z (q3 a q)⟩), q5, fun a z => .inl (h4 a z), fun a z => z.imp (h5 a) id, fun a z1 z2 => z2.elim (h6 a z1) fun q => a2 a (h4 a z1) q⟩

/-- a way into what a slot holds: its fields, its items by the number in another slot -/
inductive Pth where
  | nm (i : Nat)
  | fld (p : Pth) (c : Cd) (j : Nat) (f : Str)
  | ix (p : Pth) (m : Nat)
def ixSt (st : SL) (m n : Nat) : Option Nat := match (st[m]?).join with
  | some (.int i) => ixN n i
  | _ => none
def getP (st : SL) : Pth → Option T
  | .nm i => (st[i]?).join
  | .fld p c j _ => match getP st p with
    | some (.obj true c' xs) => if c' = c then xs[j]? else none
    | _ => none
  | .ix p m => match getP st p with
    | some (.lst true xs) => (match ixSt st m xs.length with
      | some k => xs[k]?
      | none => none)
    | some (.tup xs) => (match ixSt st m xs.length with
      | some k => xs[k]?
      | none => none)
    | _ => none
def putP (st : SL) : Pth → T → SL
  | .nm i, t => st.set i (some t)
  | .fld p c j _, t => match getP st p with
    | some (.obj true c' xs) => putP st p (.obj true c' (xs.set j t))
    | _ => st
  | .ix p m, t => match getP st p with
    | some (.lst true xs) => (match ixSt st m xs.length with
      | some k => putP st p (.lst true (xs.set k t))
      | none => st)
    | some (.tup xs) => (match ixSt st m xs.length with
      | some k => putP st p (.tup (xs.set k t))
      | none => st)
    | _ => st
def tPth (K : PySem.W.Frag) : Pth → TE
  | .nm i => tVar i
  | .fld p _ _ f => tFld K (tPth K p) f
  | .ix p m => tOp (rIx K) (tPth K p) (tVar m)
def PthOk (K : PySem.W.Frag) : Pth → Prop
  | .nm _ => True
  | .fld p c j f => PthOk K p ∧ ClsOk K c ∧ c.fl.Nodup ∧ c.fl[j]? = some f
  | .ix p _ => PthOk K p
theorem ixSt_at {K : PySem.W.Frag} {G : AS} {H : Hp} {σ : L2.St} {st : SL} {S : AS} {m n k : Nat} (r : StR K G H st σ S) (e : ixSt st m n = some k) : ∃ i, σ[m]? = some (some (.int i)) ∧ ixN n i = some k := by
  unfold ixSt at e
  split at e
  · rename_i i hi
    obtain ⟨v, A, B, h1, h2, _⟩ := r.get (join_some hi)
    rw [show v = V.int i from h2] at h1
    exact ⟨i, h1, e⟩
  · cases e
theorem lens {K : PySem.W.Frag} {G : AS} {H : Hp} {σ : L2.St} {st : SL} {S : AS} (r : StR K G H st σ S) : ∀ (p : Pth) {t : T}, PthOk K p → getP st p = some t →
    ∃ v A, (∀ Q : VK, Q v H → tPth K p σ H Q) ∧ Rp K G H t v A ∧ (∀ a, A a → S a) ∧ ∀ (H' : Hp) (G' : AS) (t' : T) (A' N : AS), (∀ a, G a → G' a) → (∀ a, G a ∨ (S a ∧ ¬ A a) → H' a = H a) → Rp K G' H' t' v A' → (∀ a, A' a → A a ∨ N a) → (∀ a, S a → N a → False) →
      StR K G' H' (putP st p t') σ (fun a => S a ∨ N a)
  | .nm i, t, _, e => by
    obtain ⟨v, A, B, h1, h2, h3, h4, h5, h6⟩ := r.get (join_some e)
    refine ⟨v, A, fun Q q => ⟨v, h1, q⟩, h2, h3, fun H' G' t' A' N g k r' a1 a2 => ?_⟩
    have r6 := h6.keep g (H' := H') fun a z => k a (z.imp id fun z => ⟨h4 a z, fun q => h5 a q z⟩)
    have q := StR.fit (i := i) r6 h1 r' fun b z1 z2 => (a1 b z2).elim (fun q => h5 b q z1) fun q => a2 b (h4 b z1) q
    rw [set_some_none] at q
    exact q.mono fun a z => z.elim (fun z => .inl (h4 a z)) fun z => (a1 a z).imp (h3 a) id
  | .fld p c j f, t, ok, e => by
    obtain ⟨ok1, C, nd, hj⟩ := ok
    unfold getP at e
    split at e
    · rename_i c' xs h0
      split at e
      · rename_i hc
        subst hc
        obtain ⟨v, A, q1, q2, q3, q4⟩ := lens r p ok1 h0
        obtain ⟨a, dx, vs, rfl, k1, k2, k3, k4⟩ := q2
        obtain ⟨y, B, l1, l2, l3, l4⟩ := rpl_lens k4 e
        refine ⟨y, B, fun Q q => q1 _ ⟨a, _, dx, _, y, rfl, k1, C.cl, C.no f (List.mem_of_getElem? hj), lookup_zip nd hj l1, q⟩, l2, fun b z => q3 b (l3 b z).1, fun H' G' t' A' N g k r' a1 a2 => ?_⟩
        have hB : ∀ b, B b → A b ∧ b ≠ a := l3
        have r2 := l4 H' G' t' A' N g (fun b z => k b (z.imp id fun z => ⟨q3 b z.1.1, z.2⟩)) r' a1 (fun b z => a2 b (q3 b z.1))
        have ha : H' a = H a := k a (.inr ⟨q3 a k3, fun z => (l3 a z).2 rfl⟩)
        have ro : Rp K G' H' (.obj true c' (xs.set j t')) (.ref a) (fun b => A b ∨ N b) :=
          ⟨a, dx, vs, rfl, by rw [ha]; exact k1, by rw [List.length_set]; exact k2, .inl k3, RpL.mono _ r2 fun b z => z.elim (fun z => ⟨.inl z.1, z.2⟩) fun z => ⟨.inr z, fun q => a2 a (q3 a k3) (q ▸ z)⟩⟩
        have out := q4 H' G' (.obj true c' (xs.set j t')) (fun b => A b ∨ N b) N g (fun b z => k b (z.imp id fun z => ⟨z.1, fun q => z.2 (hB b q).1⟩)) ro (fun _ z => z) a2
        show StR K G' H' (match getP st p with
          | some (.obj true c' xs) => putP st p (.obj true c' (xs.set j t'))
          | _ => st) σ _
        rw [h0]
        exact out
      · cases e
    · cases e
  | .ix p m, t, ok, e => by
    unfold getP at e
    split at e
    · rename_i xs h0
      split at e
      · rename_i k hk
        obtain ⟨v, A, q1, q2, q3, q4⟩ := lens r p ok h0
        obtain ⟨a, vs, rfl, k3, k1, k4⟩ := q2
        obtain ⟨y, B, l1, l2, l3, l4⟩ := rpl_lens k4 e
        obtain ⟨i, s1, s2⟩ := ixSt_at r hk
        rw [rpl_len k4] at s2
        refine ⟨y, B, fun Q q => q1 _ ⟨.int i, s1, .inl ⟨a, vs, i, y, rfl, rfl, .of k1, ?_, q⟩⟩, l2, fun b z => q3 b (l3 b z).1, fun H' G' t' A' N g k' r' a1 a2 => ?_⟩
        · unfold atI
          rw [s2]
          exact l1
        · have hB : ∀ b, B b → A b ∧ b ≠ a := l3
          have r2 := l4 H' G' t' A' N g (fun b z => k' b (z.imp id fun z => ⟨q3 b z.1.1, z.2⟩)) r' a1 (fun b z => a2 b (q3 b z.1))
          have ha : H' a = H a := k' a (.inr ⟨q3 a k3, fun z => (l3 a z).2 rfl⟩)
          have ro : Rp K G' H' (.lst true (xs.set k t')) (.ref a) (fun b => A b ∨ N b) :=
            ⟨a, vs, rfl, .inl k3, by rw [ha]; exact k1, RpL.mono _ r2 fun b z => z.elim (fun z => ⟨.inl z.1, z.2⟩) fun z => ⟨.inr z, fun q => a2 a (q3 a k3) (q ▸ z)⟩⟩
          have out := q4 H' G' (.lst true (xs.set k t')) (fun b => A b ∨ N b) N g (fun b z => k' b (z.imp id fun z => ⟨z.1, fun q => z.2 (hB b q).1⟩)) ro (fun _ z => z) a2
          show StR K G' H' (match getP st p with
            | some (.lst true xs) => (match ixSt st m xs.length with
              | some k => putP st p (.lst true (xs.set k t'))
              | none => st)
            | some (.tup xs) => (match ixSt st m xs.length with
              | some k => putP st p (.tup (xs.set k t'))
              | none => st)
            | _ => st) σ _
          rw [h0]
          show StR K G' H' (match ixSt st m xs.length with
              | some k => putP st p (.lst true (xs.set k t'))
              | none => st) σ _
          rw [hk]
          exact out
      · cases e
    · rename_i xs h0
      split at e
      · rename_i k hk
        obtain ⟨v, A, q1, q2, q3, q4⟩ := lens r p ok h0
        obtain ⟨a, vs, rfl, k1, k4⟩ := q2
        obtain ⟨y, B, l1, l2, l3, l4⟩ := rpl_lens k4 e
        obtain ⟨i, s1, s2⟩ := ixSt_at r hk
        rw [rpl_len k4] at s2
        refine ⟨y, B, fun Q q => q1 _ ⟨.int i, s1, .inr (.inl ⟨a, vs, i, y, rfl, rfl, k1.seq, ?_, q⟩)⟩, l2, fun b z => q3 b (l3 b z), fun H' G' t' A' N g k' r' a1 a2 => ?_⟩
        · unfold atI
          rw [s2]
          exact l1
        · have r2 := l4 H' G' t' A' N g (fun b z => k' b (z.imp id fun z => ⟨q3 b z.1, z.2⟩)) r' a1 (fun b z => a2 b (q3 b z))
          have ro : Rp K G' H' (.tup (xs.set k t')) (.ref a) (fun b => A b ∨ N b) :=
            ⟨a, vs, rfl, TupA.keep k1 (g a) fun z => k' a (.inl z), r2⟩
          have out := q4 H' G' (.tup (xs.set k t')) (fun b => A b ∨ N b) N g (fun b z => k' b (z.imp id fun z => ⟨z.1, fun q => z.2 (l3 b q)⟩)) ro (fun _ z => z) a2
          show StR K G' H' (match getP st p with
            | some (.lst true xs) => (match ixSt st m xs.length with
              | some k => putP st p (.lst true (xs.set k t'))
              | none => st)
            | some (.tup xs) => (match ixSt st m xs.length with
              | some k => putP st p (.tup (xs.set k t'))
              | none => st)
            | _ => st) σ _
          rw [h0]
          show StR K G' H' (match ixSt st m xs.length with
              | some k => putP st p (.tup (xs.set k t'))
              | none => st) σ _
          rw [hk]
          exact out
      · cases e
    · cases e
/-! ### the code's ways -/
structure PthE (X : Cx) (e : Expr) (p : Pth) : Prop where
  pe : PE X e (tPth X.K p)
  ok : PthOk X.K p
theorem pth_nm {X : Cx} (i : Nat) {x : Str} {pos : Pos} (hN : X.N[i]? = some x := by rfl) (hv : Vis X.env.scope x := by first | exact Or.inl rfl | exact Or.inr (Or.inl rfl) | exact Or.inr (Or.inr rfl)) (hd : (x == ("__debug__" : Str)) = false := by decide)
    (hcd : (x == ("__classdict__" : Str)) = false := by decide) : PthE X (.Name x pos) (.nm i) := ⟨pe_var hN hv hd hcd, trivial⟩
theorem pth_fld {X : Cx} {e : Expr} {p : Pth} {c : Cd} {j : Nat} {f : Str} {pos : Pos} (C : ClsOk X.K c) (n : c.fl.Nodup) (hj : c.fl[j]? = some f) (h : PthE X e p) (hb : attributeBase e f X.env (eval e X.env) = eval e X.env := by rfl) :
    PthE X (.Attribute e f pos) (.fld p c j f) := ⟨pe_fld h.pe hb, h.ok, C, n, hj⟩
theorem pth_ix {X : Cx} {e : Expr} {p : Pth} {m : Nat} {y : Str} {pp pos : Pos} (h : PthE X e p) (hN : X.N[m]? = some y := by rfl) (hv : Vis X.env.scope y := by first | exact Or.inl rfl | exact Or.inr (Or.inl rfl) | exact Or.inr (Or.inr rfl)) (hd : (y == ("__debug__" : Str)) = false := by decide)
    (hcd : (y == ("__classdict__" : Str)) = false := by decide) (hs : PlainIx (.Name y pp) := by intro _ _; rfl) : PthE X (.Subscript e (.Name y pp) pos) (.ix p m) := ⟨pe_ix ix_seq h.pe (pe_var hN hv hd hcd) hs, h.ok⟩
/-! ### p.append(y) -/
def sAppP (p : Pth) (f : SU) : SS := fun st => match getP st p with
  | some (.lst true xs) => (match f (frzS st) with
    | .ok (.v t) _ => if (scV t).isSome && decide (xs.length < sizeLine) then .ok .nx (putP st p (.lst true (xs ++ [t]))) else .no
    | _ => .no)
  | _ => .no
/-- what is lent frozen -/
theorem wd_frz {G F S : AS} {H : Hp} (w : Wd G F S H) : Wd (fun a => G a ∨ S a) F NoA H := ⟨fun a g f => g.elim (fun g => w.gf a g f) fun s => w.fs a f s, fun _ _ z => z.elim, fun _ _ z => z.elim, fun a g => g.elim (w.dG a) (w.dS a), w.dF, fun _ z => z.elim⟩
theorem rplc_snoc {K : PySem.W.Frag} {G : AS} {H : Hp} {t : T} {v : V} (h : Rp K G H t v NoA) : ∀ {xs : List T} {zs : List V} {S : AS}, RpL K G H xs zs S → RpL K G H (xs ++ [t]) (zs ++ [v]) S
  | [], zs, S, q => by
    rw [show zs = [] from q]
    exact ⟨v, [], NoA, NoA, rfl, h, rfl, fun _ z => z.elim, fun _ z => z.elim, fun _ z => z.elim⟩
  | x :: xs, _, S, ⟨w, wr, A, B, h1, h2, h3, h4, h5, h6⟩ => by
    rw [h1]
    exact ⟨w, wr ++ [v], A, B, rfl, h2, rplc_snoc h h3, h4, h5, h6⟩
/-- the change itself: the list at the end of the way -/
theorem put_list {K : PySem.W.Frag} {G F S : AS} {H H1 : Hp} {σ : L2.St} {st : SL} {P : Nat → Bool} {Wx : WX} {D : Ends} {p : Pth} {ys : List T} {ws : List V} {q : Addr} {A N : AS} {H2 : Hp} (k2 : ∀ a, G a ∨ S a → H2 a = H a) (w : Wd G F S H) (qA : A q) (AS' : ∀ a, A a → S a)
    (kp : ∀ a, G a ∨ (F a ∨ S a) → H1 a = H a) (hN : ∀ a, N a → H1 a ≠ none) (nG : ∀ a, N a → G a → False) (nF : ∀ a, N a → F a → False) (nS : ∀ a, S a → N a → False)
    (len : ∀ (H' : Hp) (G' : AS) (t' : T) (A' N : AS), (∀ a, G a → G' a) → (∀ a, G a ∨ (S a ∧ ¬ A a) → H' a = H2 a) → Rp K G' H' t' (.ref q) A' → (∀ a, A' a → A a ∨ N a) → (∀ a, S a → N a → False) → StR K G' H' (putP st p t') σ (fun a => S a ∨ N a))
    (rl : RpL K G (upd H1 q (.lst ws)) ys ws (fun b => (A b ∧ b ≠ q) ∨ N b)) (post : PostS K P Wx G F H σ D (.ok .nx (putP st p (.lst true ys)))) : D.nx σ (upd H1 q (.lst ws)) := by
  have sq := AS' q qA
  have ne : ∀ a, a ≠ q → upd H1 q (.lst ws) a = H1 a := fun a h => upd_ne h
  have kp2 : ∀ a, G a ∨ F a → upd H1 q (.lst ws) a = H a := fun a z => by
    rw [ne a fun e => by subst e; exact z.elim (fun z => w.gs _ z sq) fun z => w.fs _ z sq]
    exact kp a (z.imp id .inl)
  refine post σ _ G (fun a => S a ∨ N a) ⟨fun _ z => z, kp2⟩ ?_ ?_ Pk.refl
  · refine ⟨w.gf, fun a g z => z.elim (w.gs a g) fun z => nG a z g, fun a f z => z.elim (w.fs a f) fun z => nF a z f, fun a g => ?_, fun a f => ?_, fun a z => ?_⟩
    · rw [kp2 a (.inl g)]; exact w.dG a g
    · rw [kp2 a (.inr f)]; exact w.dF a f
    · by_cases e : a = q
      · rw [e, upd_same]; exact Option.some_ne_none _
      · rw [ne a e]
        exact z.elim (fun z => by rw [kp a (.inr (.inr z))]; exact w.dS a z) (hN a)
  · refine len _ G _ (fun a => A a ∨ N a) N (fun _ z => z) (fun a z => ?_) ⟨q, ws, rfl, .inl qA, upd_same, RpL.mono _ rl fun b z => z.elim (fun z => ⟨.inl z.1, z.2⟩) fun z => ⟨.inr z, fun e => nS q sq (e ▸ z)⟩⟩ (fun _ z => z) nS
    rcases z with z | z
    · rw [k2 a (.inl z)]
      exact kp2 a (.inl z)
    · rw [ne a fun e => z.2 (e ▸ qA), k2 a (.inr z.1)]
      exact kp a (.inr (.inr z.1))
theorem sim_appP {X : Cx} {P : Nat → Bool} {o e : Expr} {apos cpos : Pos} {ps : Pos} {p : Pth} {f : SU} (pa : PlainAttrs "list") (slot : Slot "list" "append" "list.append") (hty : typeOf (.builtin "list.append") = pure (.type "method_descriptor"))
    (ho : PthE X o p) (he : SimU X e f) (hbase : attributeBase o "append" X.env (eval o X.env) = eval o X.env := by rfl)
    (hfew : ((backTo cpos (starEach (e :: []) X.env)).all (fun x => !x.1) && (backToKw cpos (keywordEach [] X.env)).all (fun x => x.1.isSome)
      && decide ((e :: []).length + ([] : List Keyword).length + (if ([] : List Keyword).isEmpty then 0 else 1) < 30)) = true := by rfl)
    (hline : (apos.endLine == cpos.line) = true := by rfl) (hs2 : starEach (e :: []) X.env = (false, eval e X.env) :: starEach [] X.env := by rfl) (hplain : (backTo cpos (starEach [] X.env)).any (·.1) = false := by rfl) :
    SimS X P (.Expr (.Call (.Attribute o "append" apos) [e] [] cpos) ps) (sAppP p f) := fun Wx tk =>
  PS.imp (ps_expr (pe_bm pa slot hty mt_append ho.pe (pa_cons (he Wx tk) pa_nil hs2) hbase hfew hline hs2 hplain)) fun D σ H ⟨G, F, S, st, w, r, post⟩ => by
    unfold sAppP at post
    split at post
    · rename_i xs h0
      obtain ⟨v0, A, q1, ⟨q, zs, rfl, qA, k1, k4⟩, q3, q4⟩ := lens r p ho.ok h0
      refine q1 _ ⟨tyV_of (t := .lst true xs) (S := A) ⟨q, zs, rfl, qA, k1, k4⟩ rfl, ?_⟩
      show RdU X.K Wx f σ H fun y H1 => rAppend (.ref q) [y] H1 fun _ H3 => D.nx σ H3
      refine ⟨fun a => G a ∨ S a, F, NoA, frzS st, wd_frz w, StR.frzS r (fun _ z => .inr z) (fun _ z => .inl z), ?_⟩
      cases e : f (frzS st) with
      | no => rw [e] at post; exact post.elim
      | ex x s => rw [e] at post; exact post.elim
      | ok u st1 =>
        rw [e] at post
        cases u with
        | s i => exact post.elim
        | v t =>
          have post1 : PostS X.K P Wx G F H σ D (if (scV t).isSome && decide (xs.length < sizeLine) then .ok .nx (putP st p (.lst true (xs ++ [t]))) else .no) := post
          by_cases hc : ((scV t).isSome && decide (xs.length < sizeLine)) = true
          · rw [if_pos hc] at post1
            obtain ⟨c1, c2⟩ := Bool.and_eq_true_iff.mp hc
            intro y H1 G1 S1 S2 x1 w1 d1 r1 a1
            have kp : ∀ a, G a ∨ (F a ∨ S a) → H1 a = H a := fun a z => x1.keep a (z.elim (fun z => .inl (.inl z)) fun z => z.elim .inr fun z => .inl (.inr z))
            refine ⟨q, zs, y, rfl, rfl, by rw [kp q (.inr (.inr (q3 q qA)))]; exact k1, by rw [← rpl_len k4]; exact of_decide_eq_true c2, ?_⟩
            refine put_list (N := NoA) (H2 := H) (fun _ _ => rfl) w qA q3 kp (fun _ z => z.elim) (fun _ z => z.elim) (fun _ z => z.elim) (fun _ _ z => z.elim) q4 ?_ post1
            have rk : RpL X.K G (upd H1 q (.lst (zs ++ [y]))) xs zs (fun b => A b ∧ b ≠ q) := RpL.keep xs k4 (fun _ z => z) fun b z => by
              rw [upd_ne fun e => by subst e; exact z.elim (fun z => w.gs _ z (q3 _ qA)) fun z => z.2 rfl]
              exact kp b (z.imp id fun z => .inr (q3 b z.1))
            exact RpL.mono _ (rplc_snoc (rp_scOf c1 a1) rk) fun b z => .inl z
          · rw [if_neg hc] at post1
            exact post1.elim
    · exact post.elim
/-! ### p[k] = e -/
def flt : T → Bool
  | .lst true ts => ts.all fun t => (scV t).isSome
  | t => (scV t).isSome
def sSetP (p : Pth) (m : Nat) (f : SE) : SS := fun st => match getP st p with
  | some (.lst true xs) => (match f (frzS st) with
    | .ok t _ => if flt t then (match ixSt st m xs.length with
      | some k => .ok .nx (putP st p (.lst true (xs.set k t)))
      | none => .no) else .no
    | _ => .no)
  | _ => .no
theorem rpl_scs {K : PySem.W.Frag} {G G' : AS} {H H' : Hp} : ∀ {ts : List T} {vs : List V} {S : AS}, (ts.all fun t => (scV t).isSome) = true → RpL K G H ts vs S → RpL K G' H' ts vs NoA
  | [], vs, S, _, h => h
  | t :: ts, _, S, c, ⟨v, vr, A, B, h1, h2, h3, _⟩ => by
    rw [List.all_cons, Bool.and_eq_true] at c
    rw [h1]
    exact ⟨v, vr, NoA, NoA, rfl, rp_scOf c.1 h2, rpl_scs c.2 h3, fun _ z => z.elim, fun _ z => z.elim, fun _ z => z.elim⟩
/-- what hangs on nothing but its own cell -/
theorem rp_flt {K : PySem.W.Frag} {G G' : AS} {H H' : Hp} {t : T} {v : V} {S : AS} (h : flt t = true) (r : Rp K G H t v S) (k : ∀ a, S a → H' a = H a) : Rp K G' H' t v S := by
  cases t with
  | lst o ts =>
    cases o with
    | true =>
      obtain ⟨a, vs, h1, h2, h3, h4⟩ := r
      exact ⟨a, vs, h1, h2, by rw [k a h2]; exact h3, RpL.mono _ (rpl_scs h h4) fun _ z => z.elim⟩
    | false => cases h
  | _ => first | exact r | cases h
theorem rpl_setN {K : PySem.W.Frag} {G : AS} {H : Hp} {t : T} {v : V} {N : AS} (ht : Rp K G H t v N) : ∀ {xs : List T} {zs : List V} {S : AS} (j : Nat), RpL K G H xs zs S → (∀ a, S a → N a → False) → RpL K G H (xs.set j t) (zs.set j v) (fun a => S a ∨ N a)
  | [], zs, S, j, h, _ => by
    rw [show zs = [] from h]
    exact (rfl : ([] : List V).set j v = [])
  | x :: xs, _, S, 0, ⟨w, wr, A, B, h1, h2, h3, h4, h5, h6⟩, d => by
    rw [h1]
    exact ⟨v, wr, N, B, rfl, ht, h3, fun _ z => .inr z, fun a z => .inl (h5 a z), fun a z1 z2 => d a (h5 a z2) z1⟩
  | x :: xs, _, S, j + 1, ⟨w, wr, A, B, h1, h2, h3, h4, h5, h6⟩, d => by
    rw [h1]
    exact ⟨w, wr.set j v, A, fun a => B a ∨ N a, rfl, h2, rpl_setN ht j h3 fun a z1 z2 => d a (h5 a z1) z2, fun a z => .inl (h4 a z), fun a z => z.imp (h5 a) id, fun a z1 z2 => z2.elim (h6 a z1) fun z => d a (h4 a z1) z⟩
theorem sim_setP {X : Cx} {P : Nat → Bool} {o e : Expr} {y : Str} {yp pos tpos : Pos} {p : Pth} {m : Nat} {f : SE} (he : SimE X e f) (ho : PthE X o p) (hN : X.N[m]? = some y := by rfl) (hv : Vis X.env.scope y := by first | exact Or.inl rfl | exact Or.inr (Or.inl rfl) | exact Or.inr (Or.inr rfl)) (hd : (y == ("__debug__" : Str)) = false := by decide)
    (hcd : (y == ("__classdict__" : Str)) = false := by decide)
    (ha : ∀ v, assign (.Subscript o (.Name y yp) tpos) X.env v = (do
      let ov ← holding [v] (eval o X.env)
      let iv ← holding [v, ov] (eval (.Name y yp) X.env)
      standAt tpos
      holding [v, ov, iv] (setItem ov iv v)
      release [v, ov, iv] []) := by intro _; rfl)
    (hs : swapsWithSole [.Subscript o (.Name y yp) tpos] e pos.line X.env = pure false := by rfl) (hw : swappedStores [.Subscript o (.Name y yp) tpos] e X.env = pure none := by rfl)
    (h1 : (assignEach [.Subscript o (.Name y yp) tpos] X.env).map (·.2) = [assign (.Subscript o (.Name y yp) tpos) X.env] := by rfl) : SimS X P (.Assign [.Subscript o (.Name y yp) tpos] e pos) (sSetP p m f) := fun Wx tk =>
  PS.imp (ps_asg (he Wx tk) (pg_sub ho.pe (pe_var hN hv hd hcd) set_list ha) hs hw h1) fun D σ H ⟨G, F, S, st, w, r, post⟩ => by
    unfold sSetP at post
    split at post
    · rename_i xs h0
      show RdU X.K Wx (uV f) σ H fun y H1 => gSub (tPth X.K p) (tVar m) rSetL y σ H1 D.nx
      refine ⟨fun a => G a ∨ S a, F, NoA, frzS st, wd_frz w, StR.frzS r (fun _ z => .inr z) (fun _ z => .inl z), ?_⟩
      show PostU X.K Wx (fun a => G a ∨ S a) F H σ _ ((f (frzS st)).bind fun t st => .ok (.v t) st)
      cases e : f (frzS st) with
      | no => rw [e] at post; exact post.elim
      | ex x s => rw [e] at post; exact post.elim
      | ok t st1 =>
        rw [e] at post
        have post1 : PostS X.K P Wx G F H σ D (if flt t then (match ixSt st m xs.length with
          | some k => .ok .nx (putP st p (.lst true (xs.set k t)))
          | none => .no) else .no) := post
        by_cases hc : flt t = true
        · rw [if_pos hc] at post1
          cases hk : ixSt st m xs.length with
          | none => rw [hk] at post1; exact post1.elim
          | some k =>
            rw [hk] at post1
            intro y H1 G1 S1 S2 x1 w1 d1 r1 a1
            have kp : ∀ a, G a ∨ (F a ∨ S a) → H1 a = H a := fun a z => x1.keep a (z.elim (fun z => .inl (.inl z)) fun z => z.elim .inr fun z => .inl (.inr z))
            have r' := r.keep (G' := G) (H' := H1) (fun _ z => z) fun a z => kp a (z.imp id .inr)
            obtain ⟨v0, A, q1, ⟨q, zs, rfl, qA, k1, k4⟩, q3, q4⟩ := lens r' p ho.ok h0
            obtain ⟨i, s1, s2⟩ := ixSt_at r' hk
            rw [rpl_len k4] at s2
            refine q1 _ ⟨.int i, s1, q, zs, i, k, rfl, rfl, k1, s2, ?_⟩
            have nS : ∀ a, S a → S2 a → False := fun a z z2 => w1.gs a (x1.sub a (.inr z)) (.inr z2)
            refine put_list (N := S2) (H2 := H1) (fun a z => kp a (z.imp id .inr)) w qA q3 kp (fun a z => w1.dS a (.inr z)) (fun a z g => w1.gs a (x1.sub a (.inl g)) (.inr z)) (fun a z f => w1.fs a f (.inr z)) nS q4 ?_ post1
            have rk : RpL X.K G (upd H1 q (.lst (zs.set k y))) xs zs (fun b => A b ∧ b ≠ q) := RpL.keep xs k4 (fun _ z => z) fun b z => by
              rw [upd_ne fun e => by subst e; exact z.elim (fun z => w.gs _ z (q3 _ qA)) fun z => z.2 rfl]
            exact rpl_setN (rp_flt hc a1 fun a z => upd_ne fun e : a = q => nS q (q3 q qA) (Eq.subst (motive := S2) e z)) k rk fun a z1 z2 => nS a (q3 a z1.1) z2
        · rw [if_neg hc] at post1
          exact post1.elim
    · exact post.elim
/-! ### p.f += n -/
def sAugP (p : Pth) (c : Cd) (j : Nat) (n : Int) : SS := fun st => match getP st p with
  | some (.obj true c' xs) => if c' = c then (match xs[j]? with
    | some (.int i) => .ok .nx (putP st p (.obj true c (setA xs j (.int (i + n)))))
    | _ => .no) else .no
  | _ => .no
theorem sim_augP {X : Cx} {P : Nat → Bool} {o : Expr} {f : Str} {c : Cd} {j k : Nat} {n : Int} {p : Pth} {pos tpos kp : Pos} (C : ClsOk X.K c) (nd : c.fl.Nodup) (hj : c.fl[j]? = some f) (few : c.fl.length < 1000) (ho : PthE X o p) :
    SimS X P (.AugAssign (.Attribute o f tpos) .Add (.Constant (.int n) k kp) pos) (sAugP p c j n) := fun Wx tk =>
  PS.imp (ps_fldaug ho.pe pe_int in_add) fun D σ H ⟨G, F, S, st, w, r, post⟩ => by
    unfold sAugP at post
    split at post
    · rename_i c' xs h0
      split at post
      · rename_i hc
        subst hc
        split at post
        · rename_i i hi
          obtain ⟨v0, A, q1, ⟨a, dx, vs, rfl, k1, k2, k3, k4⟩, q3, q4⟩ := lens r p ho.ok h0
          obtain ⟨y, B, l1, l2, l3⟩ := rpl_get k4 hi
          rw [show y = V.int i from l2] at l1
          have sa := q3 a k3
          have lv := rpl_len k4
          have jx : j < xs.length := (List.getElem?_eq_some_iff.mp hi).1
          have jlt : j < c'.fl.length := (List.getElem?_eq_some_iff.mp hj).1
          refine q1 _ ⟨a, _, dx, _, .int i, rfl, k1, C.cl, C.no f (List.mem_of_getElem? hj), lookup_zip nd hj l1, i, n, rfl, rfl, dx, c'.fl.zip vs, k1, by rw [List.length_zip]; omega, ?_⟩
          rw [putF_zip nd hj (by omega)]
          have ne : ∀ b, b ≠ a → upd H a (.ins (He.ga X.K c'.nm) dx (c'.fl.zip (setA vs j (V.int (i + n))))) b = H b := fun b h => upd_ne h
          have kp2 : ∀ b, G b ∨ F b → upd H a (.ins (He.ga X.K c'.nm) dx (c'.fl.zip (setA vs j (V.int (i + n))))) b = H b := fun b z => ne b fun e => by
            subst e
            exact z.elim (fun z => w.gs _ z sa) fun z => w.fs _ z sa
          have rk : RpL X.K G (upd H a (.ins (He.ga X.K c'.nm) dx (c'.fl.zip (setA vs j (V.int (i + n)))))) (setA xs j (.int (i + n))) (setA vs j (V.int (i + n))) (fun b => (A b ∧ b ≠ a) ∨ NoA b) :=
            rpl_setA (t := .int (i + n)) (v := V.int (i + n)) (St := NoA) rfl j (RpL.keep xs k4 (fun _ z => z) fun b z => ne b fun e => by
              subst e
              exact z.elim (fun z => w.gs _ z sa) fun z => z.2 rfl) (by omega) (fun _ _ z => z.elim)
          have ro : Rp X.K G (upd H a (.ins (He.ga X.K c'.nm) dx (c'.fl.zip (setA vs j (V.int (i + n)))))) (.obj true c' (setA xs j (.int (i + n)))) (.ref a) A :=
            ⟨a, dx, _, rfl, upd_same, setA_length _ k2 jlt (by omega), k3, RpL.mono _ rk fun b z => z.elim (fun z => z) fun z => z.elim⟩
          refine post σ _ G (fun b => S b ∨ NoA b) ⟨fun _ z => z, kp2⟩ ?_ (q4 _ G _ A NoA (fun _ z => z) (fun b z => ?_) ro (fun _ z => .inl z) (fun _ _ z => z.elim)) Pk.refl
          · refine ⟨w.gf, fun b g z => z.elim (w.gs b g) fun z => z.elim, fun b f z => z.elim (w.fs b f) fun z => z.elim, fun b g => ?_, fun b f => ?_, fun b z => ?_⟩
            · rw [kp2 b (.inl g)]; exact w.dG b g
            · rw [kp2 b (.inr f)]; exact w.dF b f
            · by_cases e : b = a
              · rw [e, upd_same]; exact Option.some_ne_none _
              · rw [ne b e]
                exact z.elim (w.dS b) fun z => z.elim
          · rcases z with z | z
            · exact kp2 b (.inl z)
            · exact ne b fun e => z.2 (e ▸ k3)
        · exact post.elim
      · exact post.elim
    · exact post.elim
/-- what is looked up: all that is owned is lent frozen, a row of scalars or a scalar comes back -/
@[simp] theorem ap_sAppP (p : Pth) (f : SU) (st : SL) : sAppP p f st = (match getP st p with
  | some (.lst true xs) => (match f (frzS st) with
    | .ok (.v t) _ => if (scV t).isSome && decide (xs.length < sizeLine) then .ok .nx (putP st p (.lst true (xs ++ [t]))) else .no
    | _ => .no)
  | _ => .no) := rfl
@[simp] theorem ap_sSetP (p : Pth) (m : Nat) (f : SE) (st : SL) : sSetP p m f st = (match getP st p with
  | some (.lst true xs) => (match f (frzS st) with
    | .ok t _ => if flt t then (match ixSt st m xs.length with
      | some k => .ok .nx (putP st p (.lst true (xs.set k t)))
      | none => .no) else .no
    | _ => .no)
  | _ => .no) := rfl
@[simp] theorem ap_sAugP (p : Pth) (c : Cd) (j : Nat) (n : Int) (st : SL) : sAugP p c j n st = (match getP st p with
  | some (.obj true c' xs) => if c' = c then (match xs[j]? with
    | some (.int i) => .ok .nx (putP st p (.obj true c (setA xs j (.int (i + n)))))
    | _ => .no) else .no
  | _ => .no) := rfl
end
end Ev

/-! EvIsB: x is True, x is not True, x a truth. -/
namespace Ev
noncomputable section
open PySem PySem.Spec PyProof.Rows L2
section
variable {X : Cx}
theorem bl_beq (a b : Bool) : (Value.bool a == Value.bool b) = (a == b) := by
  cases a <;> cases b <;> rfl
theorem op_isB : OpR X (compareOp .Is) (fun x y H Q => ∃ a b, x = .bl a ∧ y = .bl b ∧ Q (.bl (a == b)) H) := by
  intro pins s σ H x y v u Q I rx ry h
  obtain ⟨a, b, rfl, rfl, q⟩ := h
  cases rx
  cases ry
  exact wpAny_is_plain rfl (fin_bl I q (bl_beq a b).symm)
theorem op_notB : OpR X (compareOp .IsNot) (fun x y H Q => ∃ a b, x = .bl a ∧ y = .bl b ∧ Q (.bl (!(a == b))) H) := by
  intro pins s σ H x y v u Q I rx ry h
  obtain ⟨a, b, rfl, rfl, q⟩ := h
  cases rx
  cases ry
  exact wpAny_isNot_plain rfl (fin_bl I q (congrArg not (bl_beq a b).symm))
end
def pIsB : List T → Option T
  | [.bl a, .bl b] => some (.bl (a == b))
  | _ => none
def pNotB : List T → Option T
  | [.bl a, .bl b] => some (.bl (!(a == b)))
  | _ => none
theorem pr_isB {K : PySem.W.Frag} : Pr K (on2 fun x y H Q => ∃ a b, x = .bl a ∧ y = .bl b ∧ Q (.bl (a == b)) H) pIsB := fun G F S H ts vs t Q w o e k => by
  unfold pIsB at e
  split at e
  · rename_i a b
    cases e
    obtain ⟨v, u, S1, S2, rfl, _, _, r1, r2⟩ := ops2 o
    exact ⟨a, b, r1, r2, old w (t := .bl (a == b)) rfl k⟩
  · cases e
theorem pr_notB {K : PySem.W.Frag} : Pr K (on2 fun x y H Q => ∃ a b, x = .bl a ∧ y = .bl b ∧ Q (.bl (!(a == b))) H) pNotB := fun G F S H ts vs t Q w o e k => by
  unfold pNotB at e
  split at e
  · rename_i a b
    cases e
    obtain ⟨v, u, S1, S2, rfl, _, _, r1, r2⟩ := ops2 o
    exact ⟨a, b, r1, r2, old w (t := .bl (!(a == b))) rfl k⟩
  · cases e
@[simp] theorem p_isB (a b : Bool) : pIsB [.bl a, .bl b] = some (.bl (a == b)) := rfl
@[simp] theorem p_notB (a b : Bool) : pNotB [.bl a, .bl b] = some (.bl (!(a == b))) := rfl
end
end Ev

/-! the greatest fill, and the longest way: no program in sight -/
namespace Lp
/-- the greatest sum of takes whose hands find room -/
def gf (t : Nat → Int) (h : Nat → Nat) : Nat → Int
  | 0 => 0
  | n + 1 =>
    let a := gf t h n
    let a := if h0 : 1 ≤ h 0 ∧ h 0 ≤ n + 1 then max a (gf t h (n + 1 - h 0) + t 0) else a
    let a := if h0 : 1 ≤ h 1 ∧ h 1 ≤ n + 1 then max a (gf t h (n + 1 - h 1) + t 1) else a
    let a := if h0 : 1 ≤ h 2 ∧ h 2 ≤ n + 1 then max a (gf t h (n + 1 - h 2) + t 2) else a
    if h0 : 1 ≤ h 3 ∧ h 3 ≤ n + 1 then max a (gf t h (n + 1 - h 3) + t 3) else a
termination_by n => n
section
variable {t : Nat → Int} {h : Nat → Nat}
theorem gf_0 : gf t h 0 = 0 := by rw [gf]
/-- what is found in turn -/
def pm (t : Nat → Int) (h : Nat → Nat) (n : Nat) : Nat → Int
  | 0 => gf t h n
  | j + 1 => if h j ≤ n + 1 then max (pm t h n j) (gf t h (n + 1 - h j) + t j) else pm t h n j
theorem gf_pm (h1 : ∀ k, k < 4 → 1 ≤ h k) (n : Nat) : gf t h (n + 1) = pm t h n 4 := by
  rw [gf]
  have a := h1 0 (by omega)
  have b := h1 1 (by omega)
  have c := h1 2 (by omega)
  have d := h1 3 (by omega)
  simp only [pm, a, b, c, d, true_and, dite_eq_ite]
theorem pm_le (n j : Nat) : gf t h n ≤ pm t h n j := by
  induction j with
  | zero => exact Int.le_refl _
  | succ j ih =>
    unfold pm
    split
    · omega
    · exact ih
theorem pm_ge (n : Nat) {k : Nat} (hk : h k ≤ n + 1) : ∀ j, k < j → gf t h (n + 1 - h k) + t k ≤ pm t h n j := by
  intro j
  induction j with
  | zero => intro z; omega
  | succ j ih =>
    intro z
    unfold pm
    rcases Nat.lt_or_ge k j with q | q
    · have := ih q
      split <;> omega
    · have : k = j := by omega
      subst this
      rw [if_pos hk]
      omega
theorem pm_is (n j : Nat) : pm t h n j = gf t h n ∨ ∃ k, k < j ∧ h k ≤ n + 1 ∧ pm t h n j = gf t h (n + 1 - h k) + t k := by
  induction j with
  | zero => exact .inl rfl
  | succ j ih =>
    unfold pm
    have go : pm t h n j = gf t h n ∨ ∃ k, k < j + 1 ∧ h k ≤ n + 1 ∧ pm t h n j = gf t h (n + 1 - h k) + t k := by
      rcases ih with q | ⟨k, k1, k2, k3⟩
      · exact .inl q
      · exact .inr ⟨k, by omega, k2, k3⟩
    split
    · rename_i hj
      rcases Int.le_total (pm t h n j) (gf t h (n + 1 - h j) + t j) with q | q
      · exact .inr ⟨j, by omega, hj, by omega⟩
      · rw [Int.max_eq_left q]; exact go
    · exact go
variable (h1 : ∀ k, k < 4 → 1 ≤ h k)
include h1
theorem gf_mono1 (n : Nat) : gf t h n ≤ gf t h (n + 1) := by
  rw [gf_pm h1]
  exact pm_le n 4
theorem gf_mono {m n : Nat} (l : m ≤ n) : gf t h m ≤ gf t h n := by
  induction n with
  | zero => have : m = 0 := by omega
            rw [this]; exact Int.le_refl _
  | succ n ih =>
    rcases Nat.lt_or_ge n m with q | q
    · have : m = n + 1 := by omega
      rw [this]; exact Int.le_refl _
    · exact Int.le_trans (ih q) (gf_mono1 h1 n)
theorem gf_nn (n : Nat) : 0 ≤ gf t h n := by
  have := gf_mono (t := t) h1 (Nat.zero_le n)
  rw [gf_0] at this
  exact this
theorem gf_add {k n : Nat} (k4 : k < 4) (hk : h k ≤ n) : gf t h (n - h k) + t k ≤ gf t h n := by
  have := h1 k k4
  obtain ⟨m, rfl⟩ : ∃ m, n = m + 1 := ⟨n - 1, by omega⟩
  rw [gf_pm h1 m]
  exact pm_ge m hk 4 k4
/-! as lists of kinds -/
def hS (h : Nat → Nat) : List Nat → Nat
  | [] => 0
  | k :: ks => h k + hS h ks
def tS (t : Nat → Int) : List Nat → Int
  | [] => 0
  | k :: ks => t k + tS t ks
omit h1 in
theorem hS_app (a b : List Nat) : hS h (a ++ b) = hS h a + hS h b := by
  induction a with
  | nil => simp [hS]
  | cons x a ih => simp [hS, ih]; omega
omit h1 in
theorem tS_app (a b : List Nat) : tS t (a ++ b) = tS t a + tS t b := by
  induction a with
  | nil => simp [tS]
  | cons x a ih => simp [tS, ih]; omega
theorem gf_list {ks : List Nat} : (∀ k ∈ ks, k < 4) → ∀ {n : Nat}, hS h ks ≤ n → tS t ks ≤ gf t h n := by
  induction ks with
  | nil => intro _ n _; exact gf_nn h1 n
  | cons k ks ih =>
    intro hk n hn
    have k4 := hk k (List.mem_cons_self ..)
    simp only [hS, tS] at hn ⊢
    have a := ih (fun j hj => hk j (List.mem_cons_of_mem _ hj)) (n := n - h k) (by omega)
    have b := gf_add (t := t) h1 k4 (n := n) (by omega)
    omega
theorem gf_is (n : Nat) : ∃ ks : List Nat, (∀ k ∈ ks, k < 4) ∧ hS h ks ≤ n ∧ tS t ks = gf t h n := by
  induction n using Nat.strongRecOn with
  | _ n ih =>
    cases n with
    | zero => exact ⟨[], fun _ z => (nomatch z), Nat.le_refl _, gf_0.symm⟩
    | succ n =>
      rw [gf_pm h1]
      rcases pm_is (t := t) (h := h) n 4 with q | ⟨k, k4, hk, q⟩
      · obtain ⟨ks, a, b, c⟩ := ih n (by omega)
        exact ⟨ks, a, by omega, by rw [q, c]⟩
      · have := h1 k k4
        obtain ⟨ks, a, b, c⟩ := ih (n + 1 - h k) (by omega)
        refine ⟨k :: ks, fun j hj => ?_, ?_, ?_⟩
        · rcases List.mem_cons.mp hj with rfl | hj
          · exact k4
          · exact a j hj
        · simp only [hS]; omega
        · simp only [tS]; rw [q, c]; omega
/-! by a kind that no other is above -/
structure Top (t : Nat → Int) (h : Nat → Nat) (b : Nat) : Prop where
  lt : b < 4
  pos : 0 ≤ t b
  top : ∀ k, k < 4 → t k * h b ≤ t b * h k
  le : ∀ k, k < 4 → h k ≤ 4
omit h1 in
theorem top_list {b : Nat} (T : Top t h b) {ks : List Nat} : (∀ k ∈ ks, k < 4) → tS t ks * h b ≤ t b * hS h ks := by
  induction ks with
  | nil => intro _; simp [tS, hS]
  | cons k ks ih =>
    intro hk
    have a := ih fun j hj => hk j (List.mem_cons_of_mem _ hj)
    have c := T.top k (hk k (List.mem_cons_self ..))
    simp only [hS, tS]
    push_cast
    rw [Int.add_mul, Int.mul_add]
    omega
/-- some of so many are together a multiple -/
theorem pig {b : Nat} (T : Top t h b) {ks : List Nat} (hk : ∀ k ∈ ks, k < 4) (hl : h b ≤ ks.length) : ∃ us vs : List Nat, us ≠ [] ∧ (∀ k ∈ us, k < 4) ∧ (∀ k ∈ vs, k < 4) ∧ us.length + vs.length = ks.length ∧ hS h us + hS h vs = hS h ks ∧ tS t us + tS t vs = tS t ks ∧ hS h us % h b = 0 := by
  have b1 := h1 b T.lt
  have b4 := T.le b T.lt
  have cut : ∀ p us q : List Nat, ks = p ++ us ++ q → us ≠ [] → hS h us % h b = 0 → ∃ us vs : List Nat, us ≠ [] ∧ (∀ k ∈ us, k < 4) ∧ (∀ k ∈ vs, k < 4) ∧ us.length + vs.length = ks.length ∧ hS h us + hS h vs = hS h ks ∧ tS t us + tS t vs = tS t ks ∧ hS h us % h b = 0 := by
    rintro p us q rfl hu hm
    refine ⟨us, p ++ q, hu, fun k z => hk k (by simp [z]), fun k z => hk k (by
      rcases List.mem_append.mp z with z | z <;> simp [z]), ?_, ?_, ?_, hm⟩
    · simp; omega
    · rw [hS_app, hS_app, hS_app]; omega
    · rw [tS_app, tS_app, tS_app]; omega
  have hb : h b = 1 ∨ h b = 2 ∨ h b = 3 ∨ h b = 4 := by omega
  rcases hb with e | e | e | e
  · match ks, hl with
    | a :: q, _ => exact cut [] [a] q rfl (by simp) (by rw [e]; omega)
    | [], z => rw [e] at z; simp at z
  · match ks, hl with
    | a :: c :: q, _ =>
      by_cases x1 : h a % 2 = 0
      · exact cut [] [a] (c :: q) rfl (by simp) (by rw [e]; simp only [hS]; omega)
      by_cases x2 : h c % 2 = 0
      · exact cut [a] [c] q rfl (by simp) (by rw [e]; simp only [hS]; omega)
      exact cut [] [a, c] q rfl (by simp) (by rw [e]; simp only [hS]; omega)
    | [_], z => rw [e] at z; simp at z
    | [], z => rw [e] at z; simp at z
  · match ks, hl with
    | a :: c :: d :: q, _ =>
      by_cases x1 : h a % 3 = 0
      · exact cut [] [a] (c :: d :: q) rfl (by simp) (by rw [e]; simp only [hS]; omega)
      by_cases x2 : h c % 3 = 0
      · exact cut [a] [c] (d :: q) rfl (by simp) (by rw [e]; simp only [hS]; omega)
      by_cases x3 : h d % 3 = 0
      · exact cut [a, c] [d] q rfl (by simp) (by rw [e]; simp only [hS]; omega)
      by_cases x4 : (h a + h c) % 3 = 0
      · exact cut [] [a, c] (d :: q) rfl (by simp) (by rw [e]; simp only [hS]; omega)
      by_cases x5 : (h c + h d) % 3 = 0
      · exact cut [a] [c, d] q rfl (by simp) (by rw [e]; simp only [hS]; omega)
      exact cut [] [a, c, d] q rfl (by simp) (by rw [e]; simp only [hS]; omega)
    | [_, _], z => rw [e] at z; simp at z
    | [_], z => rw [e] at z; simp at z
    | [], z => rw [e] at z; simp at z
  · match ks, hl with
    | a :: c :: d :: f :: q, _ =>
      by_cases x1 : h a % 4 = 0
      · exact cut [] [a] (c :: d :: f :: q) rfl (by simp) (by rw [e]; simp only [hS]; omega)
      by_cases x2 : h c % 4 = 0
      · exact cut [a] [c] (d :: f :: q) rfl (by simp) (by rw [e]; simp only [hS]; omega)
      by_cases x3 : h d % 4 = 0
      · exact cut [a, c] [d] (f :: q) rfl (by simp) (by rw [e]; simp only [hS]; omega)
      by_cases x4 : h f % 4 = 0
      · exact cut [a, c, d] [f] q rfl (by simp) (by rw [e]; simp only [hS]; omega)
      by_cases x5 : (h a + h c) % 4 = 0
      · exact cut [] [a, c] (d :: f :: q) rfl (by simp) (by rw [e]; simp only [hS]; omega)
      by_cases x6 : (h c + h d) % 4 = 0
      · exact cut [a] [c, d] (f :: q) rfl (by simp) (by rw [e]; simp only [hS]; omega)
      by_cases x7 : (h d + h f) % 4 = 0
      · exact cut [a, c] [d, f] q rfl (by simp) (by rw [e]; simp only [hS]; omega)
      by_cases x8 : (h a + h c + h d) % 4 = 0
      · exact cut [] [a, c, d] (f :: q) rfl (by simp) (by rw [e]; simp only [hS]; omega)
      by_cases x9 : (h c + h d + h f) % 4 = 0
      · exact cut [a] [c, d, f] q rfl (by simp) (by rw [e]; simp only [hS]; omega)
      exact cut [] [a, c, d, f] q rfl (by simp) (by rw [e]; simp only [hS]; omega)
    | [_, _, _], z => rw [e] at z; simp at z
    | [_, _], z => rw [e] at z; simp at z
    | [_], z => rw [e] at z; simp at z
    | [], z => rw [e] at z; simp at z
/-- so few others, and the one -/
theorem few {b : Nat} (T : Top t h b) : ∀ (l : Nat) {ks : List Nat} {c n : Nat}, ks.length = l → (∀ k ∈ ks, k < 4) → hS h ks + c * h b ≤ n → ∃ (us : List Nat) (c' : Nat), (∀ k ∈ us, k < 4) ∧ us.length < h b ∧ hS h us + c' * h b ≤ n ∧ tS t ks + c * t b ≤ tS t us + c' * t b := by
  intro l
  induction l using Nat.strongRecOn with
  | _ l ih =>
    intro ks c n hl hk hn
    rcases Nat.lt_or_ge ks.length (h b) with q | q
    · exact ⟨ks, c, hk, q, hn, Int.le_refl _⟩
    · obtain ⟨us, vs, u0, u4, v4, ul, uh, ut, um⟩ := pig h1 T hk q
      have b1 := h1 b T.lt
      have hul : us.length ≠ 0 := fun z => u0 (List.length_eq_zero_iff.mp z)
      obtain ⟨d, hd⟩ : ∃ d, hS h us = d * h b := ⟨hS h us / h b, (Nat.div_mul_cancel (Nat.dvd_of_mod_eq_zero um)).symm⟩
      obtain ⟨ws, c', w4, wl, wn, wt⟩ := ih vs.length (by omega) (ks := vs) (c := c + d) (n := n) rfl v4 (by rw [Nat.add_mul]; omega)
      refine ⟨ws, c', w4, wl, wn, Int.le_trans ?_ wt⟩
      have tl := top_list T u4
      rw [hd] at tl
      push_cast at tl
      have e : t b * ((d : Int) * h b) = (d * t b) * h b := by rw [← Int.mul_assoc, Int.mul_comm (t b)]
      rw [e] at tl
      have tl' : tS t us ≤ d * t b := Int.le_of_mul_le_mul_right tl (by omega)
      push_cast
      rw [Int.add_mul]
      omega
omit h1 in
theorem hS_few {b : Nat} (T : Top t h b) {us : List Nat} (u4 : ∀ k ∈ us, k < 4) : hS h us ≤ 4 * us.length := by
  induction us with
  | nil => simp [hS]
  | cons k us ih =>
    have a := ih fun j hj => u4 j (List.mem_cons_of_mem _ hj)
    have c := T.le k (u4 k (List.mem_cons_self ..))
    simp only [hS, List.length_cons]
    omega
/-- from twelve on by the one alone -/
theorem gf_far {b : Nat} (T : Top t h b) {n : Nat} (hn : 12 ≤ n) : gf t h (n + h b) = gf t h n + t b := by
  apply Int.le_antisymm
  · obtain ⟨ks, k4, kn, ke⟩ := gf_is (t := t) h1 (n + h b)
    obtain ⟨us, c, u4, ul, un, ut⟩ := few h1 T ks.length (c := 0) (n := n + h b) rfl k4 (by omega)
    have hu := hS_few T u4
    have b4 := T.le b T.lt
    have tp := T.pos
    rw [ke] at ut
    simp at ut
    cases c with
    | zero =>
      have := gf_list (t := t) h1 u4 (n := n) (by omega)
      simp at ut
      omega
    | succ c =>
      -- the one, once less
      have rep : ∀ c : Nat, ∃ ws : List Nat, (∀ k ∈ ws, k < 4) ∧ hS h ws = hS h us + c * h b ∧ tS t ws = tS t us + c * t b := by
        intro c
        induction c with
        | zero => exact ⟨us, u4, by simp, by simp⟩
        | succ c ih =>
          obtain ⟨ws, w4, e1, e2⟩ := ih
          refine ⟨b :: ws, fun k hk => ?_, ?_, ?_⟩
          · rcases List.mem_cons.mp hk with rfl | hk
            · exact T.lt
            · exact w4 k hk
          · simp only [hS]; rw [e1, Nat.add_mul]; omega
          · simp only [tS]; rw [e2]; push_cast; rw [Int.add_mul]; omega
      obtain ⟨ws, w4, e1, e2⟩ := rep c
      rw [Nat.add_mul] at un
      have := gf_list (t := t) h1 w4 (n := n) (by omega)
      push_cast at ut
      rw [Int.add_mul] at ut
      omega
  · have := gf_add (t := t) h1 T.lt (n := n + h b) (by omega)
    rw [Nat.add_sub_cancel] at this
    exact this
theorem gf_farN {b : Nat} (T : Top t h b) {n : Nat} (hn : 12 ≤ n) (c : Nat) : gf t h (n + c * h b) = gf t h n + c * t b := by
  induction c with
  | zero => simp
  | succ c ih =>
    rw [Nat.add_mul, Nat.one_mul, ← Nat.add_assoc, gf_far h1 T (by omega), ih]
    push_cast
    rw [Int.add_mul]
    omega
end
end Lp

/-! the longest way from piece to piece, from kind to kind -/
namespace Lp
def bb (t : Nat → Int) (h : Nat → Nat) (i : Nat) : Nat → Int
  | 0 =>
    let x := if h0 : 0 < i then max 0 (bb t h (i - 1) 0) else 0
    if h0 : 1 ≤ h 0 ∧ h 0 ≤ i then max x (bb t h (i - h 0) 1) else x
  | k + 1 =>
    let rd := bb t h i k + t k
    if h4 : k + 1 < 4 then
      let x := if h0 : 0 < i then max rd (bb t h (i - 1) (k + 1)) else rd
      if h0 : 1 ≤ h (k + 1) ∧ h (k + 1) ≤ i then max x (bb t h (i - h (k + 1)) (k + 2)) else x
    else rd
termination_by k => (i, k)
def rd (t : Nat → Int) (h : Nat → Nat) (i : Nat) : Nat → Int
  | 0 => 0
  | k + 1 => bb t h i k + t k
section
variable {t : Nat → Int} {h : Nat → Nat} (h1 : ∀ k, k < 4 → 1 ≤ h k)
include h1
theorem bb_eq (i k : Nat) (k4 : k < 4) : bb t h i k = (if h k ≤ i then max (if 0 < i then max (rd t h i k) (bb t h (i - 1) k) else rd t h i k) (bb t h (i - h k) (k + 1)) else (if 0 < i then max (rd t h i k) (bb t h (i - 1) k) else rd t h i k)) := by
  have a := h1 k k4
  cases k with
  | zero =>
    rw [bb]
    simp only [a, true_and, dite_eq_ite]
    rfl
  | succ k =>
    rw [bb]
    simp only [a, k4, true_and, dite_eq_ite, if_true]
    rfl
omit h1 in
theorem bb_4 (i : Nat) : bb t h i 4 = bb t h i 3 + t 3 := by
  rw [bb]
  rfl
theorem bb_rd {i k : Nat} (k4 : k < 4) : rd t h i k ≤ bb t h i k := by
  rw [bb_eq h1 i k k4]
  split <;> split <;> omega
theorem bb_ahead {i k : Nat} (k4 : k < 4) (i0 : 0 < i) : bb t h (i - 1) k ≤ bb t h i k := by
  rw [bb_eq h1 i k k4, if_pos i0]
  split <;> omega
theorem bb_hand {i k : Nat} (k4 : k < 4) (hi : h k ≤ i) : bb t h (i - h k) (k + 1) ≤ bb t h i k := by
  rw [bb_eq h1 i k k4, if_pos hi]
  split <;> omega
theorem bb_is {i k : Nat} (k4 : k < 4) : bb t h i k = rd t h i k ∨ (0 < i ∧ bb t h i k = bb t h (i - 1) k) ∨ (h k ≤ i ∧ bb t h i k = bb t h (i - h k) (k + 1)) := by
  have e := bb_eq (t := t) h1 i k k4
  split at e <;> split at e <;> omega
def pre (t : Nat → Int) : Nat → Int
  | 0 => 0
  | k + 1 => pre t k + t k
theorem bb_up : ∀ (i : Nat) (k : Nat), k ≤ 4 → bb t h i k ≤ pre t k + gf t h i := by
  intro i
  induction i using Nat.strongRecOn with
  | _ i ih =>
    intro k
    induction k with
    | zero =>
      intro _
      have := h1 0 (by omega)
      rcases bb_is (t := t) h1 (i := i) (k := 0) (by omega) with q | ⟨i0, q⟩ | ⟨hi, q⟩
      · rw [q]
        have := gf_nn (t := t) h1 i
        simp only [rd, pre]; omega
      · have a := ih (i - 1) (by omega) 0 (by omega)
        have b := gf_mono (t := t) h1 (Nat.sub_le i 1)
        omega
      · have a := ih (i - h 0) (by omega) 1 (by omega)
        have b := gf_add (t := t) h1 (k := 0) (by omega) hi
        have q' : bb t h i 0 = bb t h (i - h 0) 1 := q
        simp only [pre] at a ⊢
        omega
    | succ k ihk =>
      intro k4
      have r : rd t h i (k + 1) ≤ pre t (k + 1) + gf t h i := by
        have := ihk (by omega)
        simp only [rd, pre]
        omega
      rcases Nat.lt_or_ge (k + 1) 4 with q4 | q4
      · have := h1 (k + 1) q4
        rcases bb_is (t := t) h1 (i := i) q4 with q | ⟨i0, q⟩ | ⟨hi, q⟩
        · rw [q]; exact r
        · have a := ih (i - 1) (by omega) (k + 1) (by omega)
          have b := gf_mono (t := t) h1 (Nat.sub_le i 1)
          omega
        · have a := ih (i - h (k + 1)) (by omega) (k + 1 + 1) (by omega)
          have b := gf_add (t := t) h1 q4 hi
          have c : pre t (k + 1 + 1) = pre t (k + 1) + t (k + 1) := rfl
          omega
      · have : k = 3 := by omega
        subst this
        rw [bb_4]
        exact r
theorem bb_gain {k : Nat} (k4 : k < 4) : ∀ (i : Nat), h k ≤ i → ∀ j, k < j → j ≤ 4 → bb t h (i - h k) j + t k ≤ bb t h i j := by
  intro i
  induction i using Nat.strongRecOn with
  | _ i ih =>
    intro hi j
    induction j with
    | zero => intro z; omega
    | succ j ihj =>
      intro kj j4
      have up : rd t h i (j + 1) ≤ bb t h i (j + 1) := by
        rcases Nat.lt_or_ge (j + 1) 4 with q | q
        · exact bb_rd h1 q
        · have : j = 3 := by omega
          subst this
          rw [bb_4]
          exact Int.le_refl _
      rcases Nat.lt_or_ge k j with q | q
      · have low : rd t h (i - h k) (j + 1) + t k ≤ rd t h i (j + 1) := by
          have := ihj q (by omega)
          simp only [rd]
          omega
        rcases Nat.lt_or_ge (j + 1) 4 with q4 | q4
        · have hj := h1 (j + 1) q4
          rcases bb_is (t := t) h1 (i := i - h k) q4 with e | ⟨i0, e⟩ | ⟨hh, e⟩
          · omega
          · have a := ih (i - 1) (by omega) (by omega) (j + 1) kj j4
            have b := bb_ahead (t := t) h1 q4 (i := i) (by omega)
            have c : i - 1 - h k = i - h k - 1 := by omega
            rw [c] at a
            omega
          · have a := ih (i - h (j + 1)) (by omega) (by omega) (j + 1 + 1) (by omega) (by omega)
            have b := bb_hand (t := t) h1 q4 (i := i) (by omega)
            have c : i - h (j + 1) - h k = i - h k - h (j + 1) := by omega
            rw [c] at a
            omega
        · have : j = 3 := by omega
          subst this
          rw [bb_4]
          exact Int.le_trans low up
      · have : k = j := by omega
        subst this
        have a := bb_hand (t := t) h1 k4 hi
        simp only [rd] at up
        omega
theorem bb_mono4 (i : Nat) : bb t h i 4 ≤ bb t h (i + 1) 4 := by
  rw [bb_4, bb_4]
  have := bb_ahead (t := t) h1 (k := 3) (i := i + 1) (by omega) (by omega)
  rw [Nat.add_sub_cancel] at this
  omega
/-- piece by piece, or at once -/
theorem bb_end (i : Nat) : bb t h i 4 = pre t 4 + gf t h i := by
  apply Int.le_antisymm (bb_up h1 i 4 (by omega))
  induction i using Nat.strongRecOn with
  | _ i ih =>
    cases i with
    | zero =>
      rw [gf_0]
      have r : ∀ k, k < 4 → pre t k ≤ rd t h 0 k → pre t (k + 1) ≤ rd t h 0 (k + 1) := fun k k4 q => by
        have := bb_rd (t := t) h1 (i := 0) k4
        simp only [pre, rd]
        omega
      have e0 : pre t 0 ≤ rd t h 0 0 := Int.le_refl _
      have := r 3 (by omega) (r 2 (by omega) (r 1 (by omega) (r 0 (by omega) e0)))
      rw [bb_4]
      have z : pre t 4 ≤ bb t h 0 3 + t 3 := this
      omega
    | succ n =>
      rw [gf_pm h1]
      rcases pm_is (t := t) (h := h) n 4 with q | ⟨k, k4, hk, q⟩
      · rw [q]
        exact Int.le_trans (ih n (by omega)) (bb_mono4 h1 n)
      · have := h1 k k4
        have a := ih (n + 1 - h k) (by omega)
        have b := bb_gain (t := t) h1 k4 (n + 1) hk 4 k4 (by omega)
        rw [q]
        omega
end
end Lp

/-! pieces that never wait: no program in sight -/
namespace Lp
def lastL (h : Nat) (l : List Int) : List Int := l.drop (l.length - h)
theorem lastL_snoc (h : Nat) (h1 : 1 ≤ h) (l : List Int) (x : Int) : lastL h (lastL h l ++ [x]) = lastL h (l ++ [x]) := by
  unfold lastL
  rcases Nat.lt_or_ge l.length h with q | q
  · have e : l.length - h = 0 := by omega
    rw [e, List.drop_zero]
  · have e1 : (l.drop (l.length - h) ++ [x]).length - h = 1 := by
      rw [List.length_append, List.length_drop, List.length_singleton]; omega
    have e2 : (l ++ [x]).length - h = (l.length - h) + 1 := by
      rw [List.length_append, List.length_singleton]; omega
    rw [e1, e2, List.drop_append, List.drop_append, List.drop_drop]
    have e3 : 1 - (l.drop (l.length - h)).length = 0 := by rw [List.length_drop]; omega
    have e4 : l.length - h + 1 - l.length = 0 := by omega
    rw [e3, e4]
/-- when the pieces leave a kind -/
def lvs (t : Nat → Int) (pre : Nat → Int) (a : List Int) (k n : Nat) : List Int := (a.take n).map (· + pre (k + 1))
theorem lvs_snoc {t pre : Nat → Int} {a : List Int} {k i : Nat} {x : Int} (hx : a[i]? = some x) : lvs t pre a k (i + 1) = lvs t pre a k i ++ [x + pre (k + 1)] := by
  unfold lvs
  rw [List.take_succ, hx, List.map_append]
  rfl
theorem lvs_len {t pre : Nat → Int} {a : List Int} {k i : Nat} (hi : i ≤ a.length) : (lvs t pre a k i).length = i := by
  unfold lvs
  rw [List.length_map, List.length_take]
  omega
/-- all of them, kinds below m one piece on -/
def lvT (t pre : Nat → Int) (h : Nat → Nat) (a : List Int) (i m : Nat) : List (List Int) := (List.range 4).map fun j => lastL (h j) (lvs t pre a j (if j < m then i + 1 else i))
theorem lvT_len {t pre : Nat → Int} {h : Nat → Nat} {a : List Int} {i m : Nat} : (lvT t pre h a i m).length = 4 := by unfold lvT; simp
theorem lvT_get {t pre : Nat → Int} {h : Nat → Nat} {a : List Int} {i m k : Nat} (hk : k < 4) (hm : m ≤ k) : (lvT t pre h a i m)[k]? = some (lastL (h k) (lvs t pre a k i)) := by
  unfold lvT
  rw [List.getElem?_map, List.getElem?_range hk]
  show some (lastL (h k) (lvs t pre a k (if k < m then i + 1 else i))) = _
  rw [if_neg (by omega)]
theorem lvT_next {t pre : Nat → Int} {h : Nat → Nat} (h1 : ∀ k, k < 4 → 1 ≤ h k) {a : List Int} {i m : Nat} {x : Int} (hx : a[i]? = some x) (hm : m < 4) : (lvT t pre h a i m).set m (lastL (h m) (lastL (h m) (lvs t pre a m i) ++ [x + pre (m + 1)])) = lvT t pre h a i (m + 1) := by
  rw [lastL_snoc _ (h1 m hm), ← lvs_snoc (t := t) (k := m) hx]
  apply List.ext_getElem?
  intro j
  rw [List.getElem?_set]
  unfold lvT
  rw [List.length_map, List.length_range]
  rcases Nat.lt_or_ge j 4 with q | q
  · rw [List.getElem?_map, List.getElem?_map, List.getElem?_range q]
    by_cases e : m = j
    · subst e
      rw [if_pos rfl, if_pos hm]
      show _ = some (lastL (h m) (lvs t pre a m (if m < m + 1 then i + 1 else i)))
      rw [if_pos (by omega)]
    · rw [if_neg e]
      show some (lastL (h j) (lvs t pre a j (if j < m then i + 1 else i))) = some (lastL (h j) (lvs t pre a j (if j < m + 1 then i + 1 else i)))
      by_cases z : j < m
      · rw [if_pos z, if_pos (by omega)]
      · rw [if_neg z, if_neg (by omega)]
  · rw [if_neg (by omega)]
    rw [List.getElem?_eq_none (by simp; omega), List.getElem?_eq_none (by simp; omega)]
theorem lvT_done {t pre : Nat → Int} {h : Nat → Nat} {a : List Int} {i : Nat} : lvT t pre h a i 4 = lvT t pre h a (i + 1) 0 := by
  unfold lvT
  refine List.map_congr_left fun j hj => ?_
  have := List.mem_range.mp hj
  rw [if_pos (by omega), if_neg (by omega)]
theorem lvT_zero {t pre : Nat → Int} {h : Nat → Nat} {a : List Int} : lvT t pre h a 0 0 = [[], [], [], []] := by
  unfold lvT lvs lastL
  simp [List.range_succ]
theorem last_sorted (h : Nat) {l : List Int} {x : Int} (s : (l ++ [x]).Pairwise (· ≤ ·)) : (lastL h l ++ [x]).Pairwise (· ≤ ·) := by
  refine List.Pairwise.sublist ?_ s
  exact List.Sublist.append (List.drop_sublist ..) (List.Sublist.refl _)
theorem lvs_sorted {t pre : Nat → Int} {a : List Int} (s : a.Pairwise (· ≤ ·)) (k n : Nat) : (lvs t pre a k n).Pairwise (· ≤ ·) := by
  unfold lvs
  exact List.pairwise_map.mpr ((s.sublist (List.take_sublist ..)).imp fun h => by omega)
theorem last_len (h : Nat) (l : List Int) : (lastL h l).length ≤ h := by
  unfold lastL
  rw [List.length_drop]; omega
/-- the hand is free in time -/
theorem free_le {t pre : Nat → Int} (hp : ∀ k, pre (k + 1) = pre k + t k) {h : Nat} (h1 : 1 ≤ h) {a : List Int} {i k : Nat} {x : Int} (hx : a[i]? = some x) (x0 : 0 ≤ x + pre k)
    (far : ∀ j y, j + h = i → a[j]? = some y → y + t k ≤ x) : (if (lastL h (lvs t pre a k i)).length = h then (lastL h (lvs t pre a k i)).headD 0 else 0) ≤ x + pre k := by
  have hi : i < a.length := (List.getElem?_eq_some_iff.mp hx).1
  split
  · rename_i e
    have ll : (lvs t pre a k i).length = i := lvs_len (by omega)
    unfold lastL at e ⊢
    rw [List.length_drop, ll] at e
    rw [ll]
    have hj : i - h + h = i := by omega
    have g : (lvs t pre a k i)[i - h]? = some (a[i - h]'(by omega) + pre (k + 1)) := by
      unfold lvs
      rw [List.getElem?_map, List.getElem?_take, if_pos (by omega), List.getElem?_eq_getElem (by omega)]
      rfl
    have hd : (List.drop (i - h) (lvs t pre a k i)).headD 0 = a[i - h]'(by omega) + pre (k + 1) := by
      have : (List.drop (i - h) (lvs t pre a k i))[0]? = some (a[i - h]'(by omega) + pre (k + 1)) := by
        rw [List.getElem?_drop, Nat.add_zero]; exact g
      cases hdd : List.drop (i - h) (lvs t pre a k i) with
      | nil => rw [hdd] at this; simp at this
      | cons y ys => rw [hdd] at this; simpa using this
    rw [hd, hp]
    have := far (i - h) _ hj (List.getElem?_eq_getElem (by omega))
    omega
  · exact x0
end Lp

/-! pieces that are passed on: no program in sight -/
namespace Lp
open Ev
/-- when a piece begins where all are asked at once and no hole wants more -/
def pb (t : Nat → Int) (h : Nat → Nat) (i : Nat) : Nat → Int
  | 0 => if h0 : 1 ≤ h 0 ∧ h 0 ≤ i then max 0 (pb t h (i - h 0) 1) else 0
  | k + 1 =>
    let rd := pb t h i k + t k
    if h4 : k + 1 < 4 then
      if h0 : 1 ≤ h (k + 1) ∧ h (k + 1) ≤ i then max rd (pb t h (i - h (k + 1)) (k + 2)) else rd
    else rd
termination_by k => (i, k)
def rp (t : Nat → Int) (h : Nat → Nat) (i : Nat) : Nat → Int
  | 0 => 0
  | k + 1 => pb t h i k + t k
section
variable {t : Nat → Int} {h : Nat → Nat} (h1 : ∀ k, k < 4 → 1 ≤ h k)
include h1
theorem pb_eq (i k : Nat) (k4 : k < 4) : pb t h i k = (if h k ≤ i then max (rp t h i k) (pb t h (i - h k) (k + 1)) else rp t h i k) := by
  have a := h1 k k4
  cases k with
  | zero =>
    rw [pb]
    simp only [a, true_and, dite_eq_ite]
    rfl
  | succ k =>
    rw [pb]
    simp only [a, k4, true_and, dite_eq_ite, if_true]
    rfl
omit h1 in
theorem pb_4 (i : Nat) : pb t h i 4 = pb t h i 3 + t 3 := by
  rw [pb]
  rfl
theorem pb_rd {i k : Nat} (k4 : k < 4) : rp t h i k ≤ pb t h i k := by
  rw [pb_eq h1 i k k4]
  split <;> omega
theorem pb_hand {i k : Nat} (k4 : k < 4) (hi : h k ≤ i) : pb t h (i - h k) (k + 1) ≤ pb t h i k := by
  rw [pb_eq h1 i k k4, if_pos hi]
  omega
theorem pb_is {i k : Nat} (k4 : k < 4) : pb t h i k = rp t h i k ∨ (h k ≤ i ∧ pb t h i k = pb t h (i - h k) (k + 1)) := by
  have e := pb_eq (t := t) h1 i k k4
  split at e <;> omega
theorem pb_up : ∀ (i : Nat) (k : Nat), k ≤ 4 → pb t h i k ≤ pre t k + gf t h i := by
  intro i
  induction i using Nat.strongRecOn with
  | _ i ih =>
    intro k
    induction k with
    | zero =>
      intro _
      have := h1 0 (by omega)
      rcases pb_is (t := t) h1 (i := i) (k := 0) (by omega) with q | ⟨hi, q⟩
      · rw [q]
        have := gf_nn (t := t) h1 i
        simp only [rp, pre]; omega
      · have a := ih (i - h 0) (by omega) 1 (by omega)
        have b := gf_add (t := t) h1 (k := 0) (by omega) hi
        have q' : pb t h i 0 = pb t h (i - h 0) 1 := q
        simp only [pre] at a ⊢
        omega
    | succ k ihk =>
      intro k4
      have r : rp t h i (k + 1) ≤ pre t (k + 1) + gf t h i := by
        have := ihk (by omega)
        simp only [rp, pre]
        omega
      rcases Nat.lt_or_ge (k + 1) 4 with q4 | q4
      · have := h1 (k + 1) q4
        rcases pb_is (t := t) h1 (i := i) q4 with q | ⟨hi, q⟩
        · rw [q]; exact r
        · have a := ih (i - h (k + 1)) (by omega) (k + 1 + 1) (by omega)
          have b := gf_add (t := t) h1 q4 hi
          have c : pre t (k + 1 + 1) = pre t (k + 1) + t (k + 1) := rfl
          omega
      · have : k = 3 := by omega
        subst this
        rw [pb_4]
        exact r
theorem pb_mono : ∀ (i : Nat) (k : Nat), k ≤ 4 → pb t h i k ≤ pb t h (i + 1) k := by
  intro i
  induction i using Nat.strongRecOn with
  | _ i ih =>
    intro k
    induction k with
    | zero =>
      intro _
      have := h1 0 (by omega)
      have r0 := pb_rd (t := t) h1 (i := i + 1) (k := 0) (by omega)
      rcases pb_is (t := t) h1 (i := i) (k := 0) (by omega) with q | ⟨hi, q⟩
      · rw [q]; exact r0
      · have a := ih (i - h 0) (by omega) 1 (by omega)
        have b := pb_hand (t := t) h1 (i := i + 1) (k := 0) (by omega) (by omega)
        rw [show i + 1 - h 0 = i - h 0 + 1 by omega] at b
        have q' : pb t h i 0 = pb t h (i - h 0) 1 := q
        have b' : pb t h (i - h 0 + 1) 1 ≤ pb t h (i + 1) 0 := b
        omega
    | succ k ihk =>
      intro k4
      have r : rp t h i (k + 1) ≤ rp t h (i + 1) (k + 1) := by
        have := ihk (by omega)
        simp only [rp]
        omega
      rcases Nat.lt_or_ge (k + 1) 4 with q4 | q4
      · have := h1 (k + 1) q4
        have r0 := pb_rd (t := t) h1 (i := i + 1) q4
        rcases pb_is (t := t) h1 (i := i) q4 with q | ⟨hi, q⟩
        · omega
        · have a := ih (i - h (k + 1)) (by omega) (k + 1 + 1) (by omega)
          have b := pb_hand (t := t) h1 (i := i + 1) q4 (by omega)
          rw [show i + 1 - h (k + 1) = i - h (k + 1) + 1 by omega] at b
          omega
      · have : k = 3 := by omega
        subst this
        rw [pb_4, pb_4]
        exact r
theorem pb_le {i j k : Nat} (k4 : k ≤ 4) (l : i ≤ j) : pb t h i k ≤ pb t h j k := by
  induction j with
  | zero => have : i = 0 := by omega
            rw [this]; exact Int.le_refl _
  | succ j ih =>
    rcases Nat.lt_or_ge j i with q | q
    · have : i = j + 1 := by omega
      rw [this]; exact Int.le_refl _
    · exact Int.le_trans (ih q) (pb_mono h1 j k k4)
theorem pb_gain {k : Nat} (k4 : k < 4) : ∀ (i : Nat), h k ≤ i → ∀ j, k < j → j ≤ 4 → pb t h (i - h k) j + t k ≤ pb t h i j := by
  intro i
  induction i using Nat.strongRecOn with
  | _ i ih =>
    intro hi j
    induction j with
    | zero => intro z; omega
    | succ j ihj =>
      intro kj j4
      have up : rp t h i (j + 1) ≤ pb t h i (j + 1) := by
        rcases Nat.lt_or_ge (j + 1) 4 with q | q
        · exact pb_rd h1 q
        · have : j = 3 := by omega
          subst this
          rw [pb_4]
          exact Int.le_refl _
      rcases Nat.lt_or_ge k j with q | q
      · have low : rp t h (i - h k) (j + 1) + t k ≤ rp t h i (j + 1) := by
          have := ihj q (by omega)
          simp only [rp]
          omega
        rcases Nat.lt_or_ge (j + 1) 4 with q4 | q4
        · have hj := h1 (j + 1) q4
          rcases pb_is (t := t) h1 (i := i - h k) q4 with e | ⟨hh, e⟩
          · omega
          · have a := ih (i - h (j + 1)) (by omega) (by omega) (j + 1 + 1) (by omega) (by omega)
            have b := pb_hand (t := t) h1 q4 (i := i) (by omega)
            have c : i - h (j + 1) - h k = i - h k - h (j + 1) := by omega
            rw [c] at a
            omega
        · have : j = 3 := by omega
          subst this
          rw [pb_4]
          exact Int.le_trans low up
      · have : k = j := by omega
        subst this
        have a := pb_hand (t := t) h1 k4 hi
        simp only [rp] at up
        omega
/-- the last one is closed at the least end -/
theorem pb_end (i : Nat) : pb t h i 4 = pre t 4 + gf t h i := by
  apply Int.le_antisymm (pb_up h1 i 4 (by omega))
  induction i using Nat.strongRecOn with
  | _ i ih =>
    cases i with
    | zero =>
      rw [gf_0]
      have r : ∀ k, k < 4 → pre t k ≤ rp t h 0 k → pre t (k + 1) ≤ rp t h 0 (k + 1) := fun k k4 q => by
        have := pb_rd (t := t) h1 (i := 0) k4
        simp only [pre, rp]
        omega
      have e0 : pre t 0 ≤ rp t h 0 0 := Int.le_refl _
      have := r 3 (by omega) (r 2 (by omega) (r 1 (by omega) (r 0 (by omega) e0)))
      rw [pb_4]
      have z : pre t 4 ≤ pb t h 0 3 + t 3 := this
      omega
    | succ n =>
      rw [gf_pm h1]
      rcases pm_is (t := t) (h := h) n 4 with q | ⟨k, k4, hk, q⟩
      · rw [q]
        exact Int.le_trans (ih n (by omega)) (pb_mono h1 n 4 (by omega))
      · have := h1 k k4
        have a := ih (n + 1 - h k) (by omega)
        have b := pb_gain (t := t) h1 k4 (n + 1) hk 4 k4 (by omega)
        rw [q]
        omega
end
end Lp

/-! the greatest so many of what is left: no program in sight -/
namespace Lp
open Ev
theorem srtI_pw (ns : List Int) : (srtI ns).Pairwise (· ≤ ·) := by
  have := srt_sorted (l := ns) ltI_tr ltI_as
  refine this.imp fun {a b} h => ?_
  unfold ltI at h
  simp at h
  exact h
theorem srtI_perm (ns : List Int) : (srtI ns).Perm ns := srt_perm
theorem srtI_len (ns : List Int) : (srtI ns).length = ns.length := (srtI_perm ns).length_eq
/-- how many are no less -/
def cnt (v : Int) (l : List Int) : Nat := l.countP fun y => decide (v ≤ y)
theorem cnt_app (v : Int) (a b : List Int) : cnt v (a ++ b) = cnt v a + cnt v b := by unfold cnt; exact List.countP_append
theorem cnt_perm {v : Int} {a b : List Int} (p : a.Perm b) : cnt v a = cnt v b := by unfold cnt; exact p.countP_eq _
theorem cnt_le (v : Int) (l : List Int) : cnt v l ≤ l.length := by unfold cnt; exact List.countP_le_length
theorem cnt_all {v : Int} {l : List Int} (h : ∀ y ∈ l, v ≤ y) : cnt v l = l.length := by
  unfold cnt
  exact List.countP_eq_length.mpr fun y hy => decide_eq_true (h y hy)
theorem cnt_none {v : Int} {l : List Int} (h : ∀ y ∈ l, y < v) : cnt v l = 0 := by
  unfold cnt
  exact List.countP_eq_zero.mpr fun y hy => by
    have := h y hy
    simp
    omega
theorem of_cnt {v : Int} {l : List Int} (h : cnt v l = l.length) : ∀ y ∈ l, v ≤ y := fun y hy => by
  unfold cnt at h
  exact of_decide_eq_true (List.countP_eq_length.mp h y hy)
/-- what rises: the lesser ones, then the others -/
theorem cut_at (v : Int) : ∀ {l : List Int}, l.Pairwise (· ≤ ·) → ∃ a b, l = a ++ b ∧ (∀ y ∈ a, y < v) ∧ ∀ y ∈ b, v ≤ y
  | [], _ => ⟨[], [], rfl, (fun _ z => nomatch z), fun _ z => nomatch z⟩
  | x :: l, h => by
    obtain ⟨h1, h2⟩ := List.pairwise_cons.mp h
    by_cases c : v ≤ x
    · refine ⟨[], x :: l, rfl, (fun _ z => nomatch z), fun y hy => ?_⟩
      rcases List.mem_cons.mp hy with rfl | hy
      · exact c
      · have := h1 y hy; omega
    · obtain ⟨a, b, e, ha, hb⟩ := cut_at v h2
      refine ⟨x :: a, b, by rw [e]; rfl, fun y hy => ?_, hb⟩
      rcases List.mem_cons.mp hy with rfl | hy
      · omega
      · exact ha y hy
theorem cnt_last (v : Int) (h : Nat) {l : List Int} (s : l.Pairwise (· ≤ ·)) : cnt v (lastL h l) = min h (cnt v l) := by
  obtain ⟨a, b, rfl, ha, hb⟩ := cut_at v s
  unfold lastL
  rw [List.drop_append, cnt_app, cnt_app, cnt_none ha, cnt_all hb, cnt_none (fun y hy => ha y (List.mem_of_mem_drop hy)), cnt_all (fun y hy => hb y (List.mem_of_mem_drop hy)), List.length_append, List.length_drop]
  omega
/-- the greatest so many -/
structure Grt (l E : List Int) (h : Nat) : Prop where
  len : l.length = min E.length h
  up : l.Pairwise (· ≤ ·)
  cnt : ∀ v, cnt v l = min h (cnt v E)
theorem Grt.nil (h : Nat) : Grt [] [] h := ⟨by simp, List.Pairwise.nil, fun v => by simp [Lp.cnt]⟩
theorem Grt.snoc {l E : List Int} {h : Nat} (t : Grt l E h) (x : Int)   : Grt (lastL h (srtI (l ++ [x]))) (E ++ [x]) h := by
  refine ⟨?_, (srtI_pw _).sublist (List.drop_sublist ..), fun v => ?_⟩
  · have := t.len
    unfold lastL
    rw [List.length_drop, srtI_len, List.length_append, List.length_append, List.length_singleton]
    omega
  · rw [cnt_last v h (srtI_pw _), cnt_perm (srtI_perm _), cnt_app, cnt_app, t.cnt]
    have := cnt_le v [x]
    simp only [List.length_singleton] at this
    omega
theorem head_mem {l : List Int} (h : 0 < l.length) : l.headD 0 ∈ l := by
  match l, h with
  | x :: l, _ => exact List.mem_cons_self ..
theorem head_le {l : List Int} (s : l.Pairwise (· ≤ ·)) : ∀ y ∈ l, l.headD 0 ≤ y := by
  match l with
  | [] => intro y hy; cases hy
  | x :: l =>
    intro y hy
    rcases List.mem_cons.mp hy with rfl | hy
    · exact Int.le_refl _
    · exact (List.pairwise_cons.mp s).1 y hy
/-- so many are no less: the one so many from the greatest is no less -/
theorem Grt.ge {l E : List Int} {h : Nat} (t : Grt l E h) (h1 : 1 ≤ h) (he : h ≤ E.length) {v : Int} (hv : h ≤ Lp.cnt v E) : v ≤ l.headD 0 := by
  have a := t.len
  have b := t.cnt v
  exact of_cnt (v := v) (l := l) (by omega) _ (head_mem (by omega))
/-- and no more than that -/
theorem Grt.le {l E : List Int} {h : Nat} (t : Grt l E h) (he : h ≤ E.length) : h ≤ Lp.cnt (l.headD 0) E := by
  have a := t.len
  have b := t.cnt (l.headD 0)
  rw [cnt_all (head_le t.up)] at b
  omega
/-- the last so many are no less -/
theorem cnt_tail {E : List Int} {h : Nat} {v : Int} (he : h ≤ E.length) (far : ∀ j y, E.length - h ≤ j → E[j]? = some y → v ≤ y) : h ≤ cnt v E := by
  have e : E = E.take (E.length - h) ++ E.drop (E.length - h) := (List.take_append_drop ..).symm
  have c : cnt v (E.drop (E.length - h)) = h := by
    rw [cnt_all fun y hy => ?_, List.length_drop]
    · omega
    · obtain ⟨j, hj⟩ := List.getElem?_of_mem hy
      rw [List.getElem?_drop] at hj
      exact far _ y (by omega) hj
  have := cnt_app v (E.take (E.length - h)) (E.drop (E.length - h))
  rw [← e, c] at this
  omega
/-- when a hand is free -/
def frI (h : Nat) (l : List Int) : Int := if l.length = h then l.headD 0 else 0
theorem fr_mono {l E l2 : List Int} {x : Int} {h : Nat} (h1 : 1 ≤ h) (t : Grt l E h) (t2 : Grt l2 (E ++ [x]) h) (nn : ∀ y ∈ E ++ [x], 0 ≤ y) : frI h l ≤ frI h l2 := by
  have a := t.len
  have b := t2.len
  rw [List.length_append, List.length_singleton] at b
  unfold frI
  by_cases c : l.length = h
  · rw [if_pos c, if_pos (by omega)]
    refine t2.ge h1 (by rw [List.length_append, List.length_singleton]; omega) ?_
    rw [cnt_app]
    have := t.le (by omega)
    omega
  · rw [if_neg c]
    split
    · refine t2.ge h1 (by rw [List.length_append, List.length_singleton]; omega) ?_
      rw [cnt_all nn, List.length_append, List.length_singleton]
      omega
    · exact Int.le_refl _
end Lp

/-! the walk of law_k13_no_asks_are_quicker, printed by walk.py -/
namespace W_k13
open PySem PySem.Spec PyProof.Rows L2 Ev
noncomputable section
theorem _root_.L2.Room.units65 {k : Nat} {A : Around} (r : Room k A) : A.units + 65 < cLine := by have := r.un; omega
def top (i : Nat) : Stmt := PySem.Challenge.pw_hotpass_k13_no_asks_are_quicker.main.body.getD i (.Pass ⟨0, 0, 0, 0⟩)
def mt (i j : Nat) : Stmt := match top i with
  | .ClassDef _ _ _ b _ _ _ _ _ _ _ => b.getD j (.Pass ⟨0, 0, 0, 0⟩)
  | s => s
def d0 : He.DefD := ⟨("greatest_fill", none), "greatest_fill", "greatest_fill", defArgs (top 3), defBody (top 3), defScope (top 3), [], []⟩
def d1 : He.DefD := ⟨("is_name", none), "is_name", "is_name", defArgs (top 11), defBody (top 11), defScope (top 11), [], []⟩
def d2 : He.DefD := ⟨("is_number", none), "is_number", "is_number", defArgs (top 12), defBody (top 12), defScope (top 12), [], []⟩
def d3 : He.DefD := ⟨("is_within", none), "is_within", "is_within", defArgs (top 13), defBody (top 13), defScope (top 13), [], []⟩
def d4 : He.DefD := ⟨("is_row", none), "is_row", "is_row", defArgs (top 14), defBody (top 14), defScope (top 14), [], []⟩
def d5 : He.DefD := ⟨("are_four", none), "are_four", "are_four", defArgs (top 18), defBody (top 18), defScope (top 18), [], []⟩
def d6 : He.DefD := ⟨("part_of", none), "part_of", "part_of", defArgs (top 19), defBody (top 19), defScope (top 19), [], []⟩
def d7 : He.DefD := ⟨("Gang", some "__init__"), "__init__", "Gang.__init__", defArgs (mt 20 0), defBody (mt 20 0), defScope (mt 20 0), [.non], []⟩
def d8 : He.DefD := ⟨("Gang", some "pace"), "pace", "Gang.pace", defArgs (mt 20 7), defBody (mt 20 7), defScope (mt 20 7), [], []⟩
def d9 : He.DefD := ⟨("Gang", some "binds"), "binds", "Gang.binds", defArgs (mt 20 8), defBody (mt 20 8), defScope (mt 20 8), [], []⟩
def d10 : He.DefD := ⟨("least_end", none), "least_end", "least_end", defArgs (top 4), defBody (top 4), defScope (top 4), [], []⟩
def d11 : He.DefD := ⟨("Line", some "__init__"), "__init__", "Line.__init__", defArgs (mt 24 0), defBody (mt 24 0), defScope (mt 24 0), [], []⟩
def d12 : He.DefD := ⟨("free_from", none), "free_from", "free_from", defArgs (top 25), defBody (top 25), defScope (top 25), [], []⟩
def d13 : He.DefD := ⟨("leaves", none), "leaves", "leaves", defArgs (top 26), defBody (top 26), defScope (top 26), [], []⟩
def d14 : He.DefD := ⟨("is_let_go", none), "is_let_go", "is_let_go", defArgs (top 27), defBody (top 27), defScope (top 27), [], []⟩
def d15 : He.DefD := ⟨("hole_filled", none), "hole_filled", "hole_filled", defArgs (top 28), defBody (top 28), defScope (top 28), [], []⟩
def d16 : He.DefD := ⟨("one_passed", none), "one_passed", "one_passed", defArgs (top 29), defBody (top 29), defScope (top 29), [], []⟩
def d17 : He.DefD := ⟨("passed", none), "passed", "passed", defArgs (top 30), defBody (top 30), defScope (top 30), [.non, .non, .non], []⟩
def d18 : He.DefD := ⟨("_law_tape", none), "_law_tape", "_law_tape", defArgs (top 32), defBody (top 32), defScope (top 32), [], []⟩
def d19 : He.DefD := ⟨("_law_draw", none), "_law_draw", "_law_draw", defArgs (top 33), defBody (top 33), defScope (top 33), [], []⟩
def d20 : He.DefD := ⟨("_law_folded", none), "_law_folded", "_law_folded", defArgs (top 34), defBody (top 34), defScope (top 34), [], []⟩
def d21 : He.DefD := ⟨("_law_names", none), "_law_names", "_law_names", defArgs (top 35), defBody (top 35), defScope (top 35), [], []⟩
def d22 : He.DefD := ⟨("_law_takes", none), "_law_takes", "_law_takes", defArgs (top 36), defBody (top 36), defScope (top 36), [], []⟩
def d23 : He.DefD := ⟨("_law_hands", none), "_law_hands", "_law_hands", defArgs (top 37), defBody (top 37), defScope (top 37), [], []⟩
def d24 : He.DefD := ⟨("_law_asks", none), "_law_asks", "_law_asks", defArgs (top 38), defBody (top 38), defScope (top 38), [], []⟩
def d25 : He.DefD := ⟨("_law_last", none), "_law_last", "_law_last", defArgs (top 39), defBody (top 39), defScope (top 39), [], []⟩
def d26 : He.DefD := ⟨("_law_stretches_right", none), "_law_stretches_right", "_law_stretches_right", defArgs (top 40), defBody (top 40), defScope (top 40), [], []⟩
def d27 : He.DefD := ⟨("_law_right", none), "_law_right", "_law_right", defArgs (top 41), defBody (top 41), defScope (top 41), [], []⟩
def d28 : He.DefD := ⟨("law", none), "law", "law", defArgs (top 42), defBody (top 42), defScope (top 42), [], []⟩
def t_KINDS : T := .tup [.str "heater", .str "thrower", .str "holder", .str "closer"]
def td_KINDS : List He.Dv := [.str "heater", .str "thrower", .str "holder", .str "closer"]
def c_BadGang : Cd := ⟨"BadGang", ["what"]⟩
def c_Gang : Cd := ⟨"Gang", ["name", "takes", "hands"]⟩
def c_Line : Cd := ⟨"Line", ["crew", "wants", "warm", "leaving", "filled"]⟩
def fn : List He.DefD := [d0, d1, d2, d3, d4, d5, d6, d7, d8, d9, d10, d11, d12, d13, d14, d15, d16, d17, d18, d19, d20, d21, d22, d23, d24, d25, d26, d27, d28]
def fa : List He.Fa := [.glo "greatest_fill", .glo "is_name", .glo "is_number", .glo "is_within", .glo "is_row", .glo "are_four", .glo "part_of", .glo "least_end", .glo "free_from", .glo "leaves", .glo "is_let_go", .glo "hole_filled", .glo "one_passed", .glo "passed", .glo "_law_tape", .glo "_law_draw", .glo "_law_folded", .glo "_law_names", .glo "_law_takes", .glo "_law_hands", .glo "_law_asks", .glo "_law_last", .glo "_law_stretches_right", .glo "_law_right", .glo "law", .free "abs", .free "all", .free "any", .free "bool", .free "dict", .free "enumerate", .free "int", .free "isinstance", .free "len", .free "list", .free "max", .free "min", .free "range", .free "sorted", .free "str", .free "sum", .free "tuple", .free "zip", .int "HOLDER" (2), .int "LAST_KIND" (3), .str "LETTERS" "abcdefghijklmnopqrstuvwxyz", .int "MOST_HANDS" (4), .int "MOST_LETTERS" (8), .int "MOST_TAKE" (1000000), .int "SPARE" (16), .cls "Gang", .noat "Gang" "name", .noat "Gang" "takes", .noat "Gang" "hands", .cls "Line", .noat "Line" "crew", .noat "Line" "wants", .noat "Line" "warm", .noat "Line" "leaving", .noat "Line" "filled", .mkr "Gang", .glo "Gang", .mkr "Line", .glo "Line", .glo "KINDS", .meth "Gang" "binds", .meth "Gang" "pace"]
abbrev R : PySem.W.OpenRow := PySem.W.OpenLaw.row PySem.Challenge.rw_hotpass_k13_no_asks_are_quicker
def ex (K : PySem.W.Frag) : Bool := He.tupB K "KINDS" td_KINDS
abbrev hk : PySem.W.Hook := hookY 5 fa fn ex
def ob (s : PySem.W.SharedT) : He.AlD × Bool := obsYG 5 fa fn ex (HandSHeadRun.getT s)
theorem ob_eq (s : PySem.W.SharedT) : ob s = hk.obs s.abs := obsYG_eq (HandSHeadRun.getT_eq s)
def names : List PySem.Str := (["_wall", "__name__", "SPARE", "greatest_fill", "least_end", "BadGang", "LETTERS", "MOST_LETTERS", "KINDS", "is_name", "is_number", "is_within", "is_row", "MOST_TAKE", "MOST_HANDS", "are_four", "part_of", "Gang", "HOLDER", "LAST_KIND", "Line", "free_from", "leaves", "is_let_go"] : List PySem.Str) ++ (["hole_filled", "one_passed", "passed", "_law_tape", "_law_draw", "_law_folded", "_law_names", "_law_takes", "_law_hands", "_law_asks", "_law_last", "_law_stretches_right", "_law_right"] : List PySem.Str)
theorem run (w : World) : HandSHeadRun.RunEq R (PySem.W.view R.prog [42]) hk ob 4000 names w := by
  intro os
  kernel_rfl

/-! ### greatest_fill -/
def ngreatest_fill : List Str := ["gang", "room", "found", "size", "some", "take", "many"]
theorem scgreatest_fill : FnScope ngreatest_fill ["gang", "room"] (defScope (top 3)) := ⟨rfl, rfl, rfl, by decide +kernel, rfl, by decide +kernel, by decide +kernel⟩
def Pgreatest_fill : Nat → Bool := fun i => [0, 1].contains i
def kgreatest_fill_1 : SS := (sIf (bOf (eP pLe (aCons (uVar 6) (aCons (uVar 3) aNil)))) (sExpr (uV (eCall mApp [] (aCons (uChk "list" (uVar 4)) (aCons (uV (eP pAdd (aCons (uV (eP pIx (aCons (uVar 2) (aCons (uV (eP pSub (aCons (uVar 3) (aCons (uVar 6) aNil)))) aNil)))) (aCons (uVar 5) aNil)))) aNil))))) sNext)
def lgreatest_fill_2 : SS := sFor (iZs id (eP (pFld c_Gang 1) (aCons (uVar 0) aNil)) (eP (pFld c_Gang 2) (aCons (uVar 0) aNil))) (tgT (tgCons (tgN 5) (tgCons (tgN 6) tgNil))) (sWp [5, 6] kgreatest_fill_1)
def kgreatest_fill_3 : SS := (sSeq (sAsg (eLst (aCons (uV (eP pIx (aCons (uVar 2) (aCons (uV (eP pNeg (aCons (uV (eC (.int 1))) aNil))) aNil)))) aNil)) (tgN 4)) (sSeq (sDp [5, 6] lgreatest_fill_2) (sExpr (uV (eCall mApp [] (aCons (uChk "list" (uVar 2)) (aCons (uV (eP pMaxL (aCons (uVar 4) aNil))) aNil)))))))
def lgreatest_fill_4 : SS := sFor (iInts rg2 (aCons (uV (eC (.int 1))) (aCons (uV (eP pAdd (aCons (uVar 1) (aCons (uV (eC (.int 1))) aNil)))) aNil))) (tgN 3) (sWp [3, 4, 5, 6] kgreatest_fill_3)
def bgreatest_fill : SS := (sSeq (sAsg (eLst (aCons (uV (eC (.int 0))) aNil)) (tgN 2)) (sSeq (sDp [3, 4, 5, 6] lgreatest_fill_4) (sRet (eP pIx (aCons (uVar 2) (aCons (uVar 1) aNil))))))
def mgreatest_fill : FS := defF 2 7 Pgreatest_fill bgreatest_fill
theorem okgreatest_fill {P : Program} {w : World} {K : PySem.W.Frag} {mg : Str → Option Value} {base : Heap} {f : Addr} {fd : FuncData} (F : FunD K "greatest_fill" "greatest_fill" (defArgs (top 3)) (defBody (top 3)) (defScope (top 3)) [] [] f fd) (C_Gang : ClsOk K c_Gang) (u_max : mg "max" = none) (u_range : mg "range" = none) (u_zip : mg "zip" = none) : FnOk P w K mg base (L2.CX P w) 1 f fd ["gang", "room"] (SpF K 2 mgreatest_fill) :=
  fn_sim F scgreatest_fill rfl rfl fun cdv A outer s H E hr => by
    have nd := scgreatest_fill.nd
    exact (sim_bcons (sim_set nd rfl (by first | exact Or.inl rfl | exact Or.inr rfl) rfl (sim_lst (sim_cons sim_int sim_nil))) (sim_bcons (sim_dp (sim_for (passes_of rfl) rfl (sim_irg2 rfl u_range (sim_cons sim_int (sim_cons (sim_add (sim_var 1) sim_int) sim_nil))) (sim_gname nd rfl (by first | exact Or.inl rfl | exact Or.inr rfl) rfl) (sim_wp (sim_bcons (sim_set nd rfl (by first | exact Or.inl rfl | exact Or.inr rfl) rfl (sim_lst (sim_cons (sim_ix (sim_var 2) (sim_neg sim_int)) sim_nil))) (sim_bcons (sim_dp (sim_for (passes_of rfl) rfl (sim_izs rfl u_zip (sim_fld C_Gang (by decide +kernel) rfl (sim_var 0)) (sim_fld C_Gang (by decide +kernel) rfl (sim_var 0))) (sim_gtup rfl (sim_gcons (sim_gname nd rfl (by first | exact Or.inl rfl | exact Or.inr rfl) rfl) (sim_gcons (sim_gname nd rfl (by first | exact Or.inl rfl | exact Or.inr rfl) rfl) sim_gnil)) rfl rfl (len_cons (len_cons len_nil))) (sim_wp (sim_bone (sim_if (sim_tle (sim_var 6) (sim_var 3)) (sim_bone (sim_expr (sim_mt PySem.F.plainAttrs_list PySem.F.slot_list_append PySem.F.type_list_append mt_append ms_app (sim_var 4) (sim_cons (sim_add (sim_ix (sim_var 2) (sim_sub (sim_var 3) (sim_var 6))) (sim_var 5)) sim_nil) (lenA_cons lenA_nil) rfl))) sim_bnil))))) (sim_bone (sim_expr (sim_mt PySem.F.plainAttrs_list PySem.F.slot_list_append PySem.F.type_list_append mt_append ms_app (sim_var 2) (sim_cons (sim_blt (cr_max rfl) pr_maxL PyProof.Rows.boot_max rfl u_max (sim_cons (sim_var 4) sim_nil)) sim_nil) (lenA_cons lenA_nil) rfl)))))))) (sim_bone (sim_ret (sim_ix (sim_var 2) (sim_var 1))))))

/-! ### is_name -/
def nis_name : List Str := ["thing", "sign"]
theorem scis_name : FnScope nis_name ["thing"] (defScope (top 11)) := ⟨rfl, rfl, rfl, by decide +kernel, rfl, by decide +kernel, by decide +kernel⟩
def Pis_name : Nat → Bool := fun i => [0].contains i
def cis_name_1 : SE := eLc (iOf itAll (uVar 0)) (tgN 1) tYesB (eP (pInX false) (aCons (uVar 1) (aCons (uV (eC (.str "abcdefghijklmnopqrstuvwxyz"))) aNil))) [1]
def bis_name : SS := (sSeq (sIf (tOrB (tNotB (tTru (uV (eP pIsi (aCons (uVar 0) (aCons (uV (eC (.ty "str"))) aNil)))))) (tNotB (bOf (eOf (uCh (fun i j => decide (i ≤ j)) (fun i j => decide (i ≤ j)) (uV (eC (.int 1))) (uV (eP pLen (aCons (uVar 0) aNil))) (uV (eC (.int 8)))))))) (sRet (eC (.bl false))) sNext) (sRet (eP pAll (aCons (uV cis_name_1) aNil))))
def mis_name : FS := defF 1 2 Pis_name bis_name
theorem okis_name {P : Program} {w : World} {K : PySem.W.Frag} {mg : Str → Option Value} {base : Heap} {f : Addr} {fd : FuncData} (F : FunD K "is_name" "is_name" (defArgs (top 11)) (defBody (top 11)) (defScope (top 11)) [] [] f fd) (u_all : mg "all" = none) (u_isinstance : mg "isinstance" = none) (u_len : mg "len" = none) (u_str : mg "str" = none) (c_LETTERS : ∃ t, mg "LETTERS" = some (.str "abcdefghijklmnopqrstuvwxyz" t)) (c_MOST_LETTERS : ∃ t, mg "MOST_LETTERS" = some (.int 8 t)) : FnOk P w K mg base (L2.CX P w) 1 f fd ["thing"] (SpF K 1 mis_name) :=
  fn_sim F scis_name rfl rfl fun cdv A outer s H E hr => by
    have nd := scis_name.nd
    exact (sim_bcons (sim_if (SimW.t (sim_wor (sim_tnot (sim_tru (sim_blt call_isiA pr_isi PyProof.Rows.boot_isinstance rfl u_isinstance (sim_cons (sim_var 0) (sim_cons (sim_const (pe_bltn (v := .ty "str") rfl u_str (by decide +kernel : bootBuiltins "str" = some (.type "str")) rfl)) sim_nil))))) (sim_wor1 (sim_tnot (sim_tch op_le op_le sim_int (sim_blt call_len pr_len boot_len rfl u_len (sim_cons (sim_var 0) sim_nil)) (sim_const (pe_glob (v := .int 8) rfl c_MOST_LETTERS.choose_spec ⟨_, rfl⟩))))))) (sim_bone (sim_ret sim_bl)) sim_bnil) (sim_bone (sim_ret (sim_blt (cr_all rfl) pr_all PyProof.Rows.boot_all rfl u_all (sim_cons (sim_lc (own := [("sign", 1)]) rfl nd (sim_iall (sim_var 0)) (blkOk_by (by kernel_rfl)) (fun _ _ _ _ _ => (sim_gname nd rfl (by first | exact Or.inl rfl | exact Or.inr rfl) rfl)) (fun _ _ _ _ _ => sim_ts0) (fun _ _ _ _ _ => (sim_cmp (op_inX hr.units65) pr_inX (sim_var 1) (sim_const (pe_glob (v := .str "abcdefghijklmnopqrstuvwxyz") rfl c_LETTERS.choose_spec ⟨_, rfl⟩)) (by rfl)))) sim_nil)))))

/-! ### is_number -/
def nis_number : List Str := ["thing"]
theorem scis_number : FnScope nis_number ["thing"] (defScope (top 12)) := ⟨rfl, rfl, rfl, by decide +kernel, rfl, by decide +kernel, by decide +kernel⟩
def Pis_number : Nat → Bool := fun i => [0].contains i
def bis_number : SS := (sRet (eAnd (eP pIsi (aCons (uVar 0) (aCons (uV (eC (.ty "int"))) aNil))) (eNot (eP pIsi (aCons (uVar 0) (aCons (uV (eC (.ty "bool"))) aNil))))))
def mis_number : FS := defF 1 1 Pis_number bis_number
theorem okis_number {P : Program} {w : World} {K : PySem.W.Frag} {mg : Str → Option Value} {base : Heap} {f : Addr} {fd : FuncData} (F : FunD K "is_number" "is_number" (defArgs (top 12)) (defBody (top 12)) (defScope (top 12)) [] [] f fd) (u_bool : mg "bool" = none) (u_int : mg "int" = none) (u_isinstance : mg "isinstance" = none) : FnOk P w K mg base (L2.CX P w) 1 f fd ["thing"] (SpF K 1 mis_number) :=
  fn_sim F scis_number rfl rfl fun cdv A outer s H E hr => by
    have nd := scis_number.nd
    exact (sim_bone (sim_ret (sim_and (sim_blt call_isiA pr_isi PyProof.Rows.boot_isinstance rfl u_isinstance (sim_cons (sim_var 0) (sim_cons (sim_const (pe_bltn (v := .ty "int") rfl u_int (by decide +kernel : bootBuiltins "int" = some (.type "int")) rfl)) sim_nil))) (sim_one (sim_not (sim_blt call_isiA pr_isi PyProof.Rows.boot_isinstance rfl u_isinstance (sim_cons (sim_var 0) (sim_cons (sim_const (pe_bltn (v := .ty "bool") rfl u_bool (by decide +kernel : bootBuiltins "bool" = some (.type "bool")) rfl)) sim_nil))))))))

/-! ### is_within -/
def nis_within : List Str := ["thing", "least", "most"]
theorem scis_within : FnScope nis_within ["thing", "least", "most"] (defScope (top 13)) := ⟨rfl, rfl, rfl, by decide +kernel, rfl, by decide +kernel, by decide +kernel⟩
def Pis_within : Nat → Bool := fun i => [0, 1, 2].contains i
def bis_within : SS := (sRet (eAnd (eCallP mis_number [] (aCons (uVar 0) aNil)) (eOf (uCh (fun i j => decide (i ≤ j)) (fun i j => decide (i ≤ j)) (uVar 1) (uVar 0) (uVar 2)))))
def mis_within : FS := defF 3 3 Pis_within bis_within
theorem okis_within {P : Program} {w : World} {K : PySem.W.Frag} {mg : Str → Option Value} {base : Heap} {f : Addr} {fd : FuncData} (F : FunD K "is_within" "is_within" (defArgs (top 13)) (defBody (top 13)) (defScope (top 13)) [] [] f fd) {fis_number : Addr} {fdis_number : FuncData} (Ois_number : FnOk P w K mg base (L2.CX P w) 1 fis_number fdis_number ["thing"] (SpF K 1 mis_number)) (gis_number : mg "is_number" = some (.ref fis_number)) (kis_number : PySem.W.keepIn K (.ref fis_number) = true) (Bis_number : Binds K fdis_number ["thing"] []) : FnOk P w K mg base (L2.CX P w) 2 f fd ["thing", "least", "most"] (SpF K 3 mis_within) :=
  fn_sim F scis_within rfl rfl fun cdv A outer s H E hr => by
    have nd := scis_within.nd
    exact (sim_bone (sim_ret (sim_and (sim_callP (Ois_number.mono (by decide)) hr rfl gis_number kis_number Bis_number .nil .nil (sim_cons (sim_var 0) sim_nil) (lenA_cons lenA_nil) rfl) (sim_one (sim_of (sim_uch op_le op_le (sim_var 1) (sim_var 0) (sim_var 2)))))))

/-! ### is_row -/
def nis_row : List Str := ["thing"]
theorem scis_row : FnScope nis_row ["thing"] (defScope (top 14)) := ⟨rfl, rfl, rfl, by decide +kernel, rfl, by decide +kernel, by decide +kernel⟩
def Pis_row : Nat → Bool := fun i => [0].contains i
def bis_row : SS := (sRet (eP pIsi (aCons (uVar 0) (aCons (uV (eTup (aCons (uV (eC (.ty "list"))) (aCons (uV (eC (.ty "tuple"))) aNil)))) aNil))))
def mis_row : FS := defF 1 1 Pis_row bis_row
theorem okis_row {P : Program} {w : World} {K : PySem.W.Frag} {mg : Str → Option Value} {base : Heap} {f : Addr} {fd : FuncData} (F : FunD K "is_row" "is_row" (defArgs (top 14)) (defBody (top 14)) (defScope (top 14)) [] [] f fd) (u_isinstance : mg "isinstance" = none) (u_list : mg "list" = none) (u_tuple : mg "tuple" = none) : FnOk P w K mg base (L2.CX P w) 1 f fd ["thing"] (SpF K 1 mis_row) :=
  fn_sim F scis_row rfl rfl fun cdv A outer s H E hr => by
    have nd := scis_row.nd
    exact (sim_bone (sim_ret (sim_blt call_isiA pr_isi PyProof.Rows.boot_isinstance rfl u_isinstance (sim_cons (sim_var 0) (sim_cons (sim_tup (sim_cons (sim_const (pe_bltn (v := .ty "list") rfl u_list (by decide +kernel : bootBuiltins "list" = some (.type "list")) rfl)) (sim_cons (sim_const (pe_bltn (v := .ty "tuple") rfl u_tuple (by decide +kernel : bootBuiltins "tuple" = some (.type "tuple")) rfl)) sim_nil))) sim_nil)))))

/-! ### are_four -/
def nare_four : List Str := ["thing", "most", "one"]
theorem scare_four : FnScope nare_four ["thing", "most"] (defScope (top 18)) := ⟨rfl, rfl, rfl, by decide +kernel, rfl, by decide +kernel, by decide +kernel⟩
def Pare_four : Nat → Bool := fun i => [0, 1].contains i
def care_four_1 : SE := eLc (iOf itAny (uVar 0)) (tgN 2) tYesB (eCold (eCallP mis_within [] (aCons (uVar 2) (aCons (uV (eC (.int 1))) (aCons (uVar 1) aNil))))) [2]
def bare_four : SS := (sRet (eAnd (eCallP mis_row [] (aCons (uVar 0) aNil)) (eAnd (eP pEq (aCons (uV (eP pLen (aCons (uVar 0) aNil))) (aCons (uV (eP pLen (aCons (uV (eC t_KINDS)) aNil))) aNil))) (eP pAll (aCons (uV care_four_1) aNil)))))
def mare_four : FS := defF 2 3 Pare_four bare_four
theorem okare_four {P : Program} {w : World} {K : PySem.W.Frag} {mg : Str → Option Value} {base : Heap} {f : Addr} {fd : FuncData} (F : FunD K "are_four" "are_four" (defArgs (top 18)) (defBody (top 18)) (defScope (top 18)) [] [] f fd) {fis_row : Addr} {fdis_row : FuncData} (Ois_row : FnOk P w K mg base (L2.CX P w) 1 fis_row fdis_row ["thing"] (SpF K 1 mis_row)) (gis_row : mg "is_row" = some (.ref fis_row)) (kis_row : PySem.W.keepIn K (.ref fis_row) = true) (Bis_row : Binds K fdis_row ["thing"] []) {fis_within : Addr} {fdis_within : FuncData} (Ois_within : FnOk P w K mg base (L2.CX P w) 2 fis_within fdis_within ["thing", "least", "most"] (SpF K 3 mis_within)) (gis_within : mg "is_within" = some (.ref fis_within)) (kis_within : PySem.W.keepIn K (.ref fis_within) = true) (Bis_within : Binds K fdis_within ["thing", "least", "most"] []) (g_KINDS : mg "KINDS" = some (.ref (He.ga K "KINDS"))) (T_KINDS : He.tupB K "KINDS" td_KINDS = true) (u_all : mg "all" = none) (u_len : mg "len" = none) : FnOk P w K mg base (L2.CX P w) 3 f fd ["thing", "most"] (SpF K 2 mare_four) :=
  fn_sim F scare_four rfl rfl fun cdv A outer s H E hr => by
    have nd := scare_four.nd
    exact (sim_bone (sim_ret (sim_and (sim_callP (Ois_row.mono (by decide)) hr rfl gis_row kis_row Bis_row .nil .nil (sim_cons (sim_var 0) sim_nil) (lenA_cons lenA_nil) rfl) (sim_and (sim_eq hr.units (sim_blt call_len pr_len boot_len rfl u_len (sim_cons (sim_var 0) sim_nil)) (sim_blt call_len pr_len boot_len rfl u_len (sim_cons (sim_globT rfl g_KINDS T_KINDS rfl) sim_nil))) (sim_one (sim_blt (cr_all rfl) pr_all PyProof.Rows.boot_all rfl u_all (sim_cons (sim_lc (own := [("one", 2)]) rfl nd (sim_iany (sim_var 0)) (blkOk_by (by kernel_rfl)) (fun _ _ _ _ _ => (sim_gname nd rfl (by first | exact Or.inl rfl | exact Or.inr rfl) rfl)) (fun _ _ _ _ _ => sim_ts0) (fun _ _ _ _ _ => (sim_cold (sim_callP (Ois_within.mono (by decide)) hr rfl gis_within kis_within Bis_within .nil .nil (sim_cons (sim_var 2) (sim_cons sim_int (sim_cons (sim_var 1) sim_nil))) (lenA_cons (lenA_cons (lenA_cons lenA_nil))) rfl)))) sim_nil)))))))

/-! ### part_of -/
def npart_of : List Str := ["top", "bottom", "one", "other"]
theorem scpart_of : FnScope npart_of ["top", "bottom"] (defScope (top 19)) := ⟨rfl, rfl, rfl, by decide +kernel, rfl, by decide +kernel, by decide +kernel⟩
def Ppart_of : Nat → Bool := fun i => [0, 1].contains i
def kpart_of_1 : SS := (sPar 2 3 (aCons (uV (eCold (eOf (uVar 3)))) (aCons (uV (eP pMod (aCons (uVar 2) (aCons (uVar 3) aNil)))) aNil)))
def lpart_of_2 : SS := sWh (bOf (eP pGt (aCons (uVar 3) (aCons (uV (eC (.int 0))) aNil)))) (sWp [] kpart_of_1)
def bpart_of : SS := (sSeq (sPar 2 3 (aCons (uV (eCold (eOf (uVar 0)))) (aCons (uV (eCold (eOf (uVar 1)))) aNil))) (sSeq (sDp [] lpart_of_2) (sRet (eTup (aCons (uV (eP pDiv (aCons (uVar 0) (aCons (uVar 2) aNil)))) (aCons (uV (eP pDiv (aCons (uVar 1) (aCons (uVar 2) aNil)))) aNil))))))
def mpart_of : FS := defF 2 4 Ppart_of bpart_of
theorem okpart_of {P : Program} {w : World} {K : PySem.W.Frag} {mg : Str → Option Value} {base : Heap} {f : Addr} {fd : FuncData} (F : FunD K "part_of" "part_of" (defArgs (top 19)) (defBody (top 19)) (defScope (top 19)) [] [] f fd) : FnOk P w K mg base (L2.CX P w) 1 f fd ["top", "bottom"] (SpF K 2 mpart_of) :=
  fn_sim F scpart_of rfl rfl fun cdv A outer s H E hr => by
    have nd := scpart_of.nd
    exact (sim_bcons (sim_par rfl nd rfl rfl (by decide) rfl rfl rfl rfl (sim_cons (sim_cold (sim_of (sim_var 0))) (sim_cons (sim_cold (sim_of (sim_var 1))) sim_nil)) (fun t ht => ps_par rfl nd rfl rfl (by decide) rfl rfl ht (by rfl))) (sim_bcons (sim_dp (sim_wh (passes_of rfl) (sim_tgt (sim_var 3) sim_int) (sim_wp (sim_bone (sim_par rfl nd rfl rfl (by decide) rfl rfl rfl rfl (sim_cons (sim_cold (sim_of (sim_var 3))) (sim_cons (sim_mod (sim_var 2) (sim_var 3)) sim_nil)) (fun t ht => ps_par rfl nd rfl rfl (by decide) rfl rfl ht (by rfl))))))) (sim_bone (sim_ret (sim_tup (sim_cons (sim_div (sim_var 0) (sim_var 2)) (sim_cons (sim_div (sim_var 1) (sim_var 2)) sim_nil)))))))

/-! ### Gang____init__ -/
def nGang____init__ : List Str := ["self", "name", "takes", "hands"]
theorem scGang____init__ : FnScope nGang____init__ ["self", "name", "takes", "hands"] (defScope (mt 20 0)) := ⟨rfl, rfl, rfl, by decide +kernel, rfl, by decide +kernel, by decide +kernel⟩
def PGang____init__ : Nat → Bool := fun i => [0, 1, 2, 3].contains i
def bGang____init__ : SS := (sSeq (sIf (tNotB (tTru (uV (eCallP mis_name [] (aCons (uVar 1) aNil))))) sNo sNext) (sSeq (sIf (tNotB (tTru (uV (eCallP mare_four [] (aCons (uVar 2) (aCons (uV (eC (.int 1000000))) aNil)))))) sNo sNext) (sSeq (sIf (tAndB (bOf (eP pNotN (aCons (uVar 3) (aCons (uV (eC .non)) aNil)))) (tNotB (tTru (uV (eCallP mare_four [] (aCons (uVar 3) (aCons (uV (eC (.int 4))) aNil))))))) sNo sNext) (sSeq (sSetF 0 c_Gang 0 (eOf (uVar 1))) (sSeq (sSetF 0 c_Gang 1 (eP pTuple (aCons (uVar 2) aNil))) (sSetF 0 c_Gang 2 (eOf (uIf (bOf (eP pIsN (aCons (uVar 3) (aCons (uV (eC .non)) aNil)))) (uV (eTup (aCons (uV (eC (.int 1))) (aCons (uV (eC (.int 1))) (aCons (uV (eC (.int 1))) (aCons (uV (eC (.int 1))) aNil)))))) (uV (eP pTuple (aCons (uVar 3) aNil)))))))))))
def mGang____init__ : FS := defF 4 4 PGang____init__ bGang____init__
theorem okGang____init__ {P : Program} {w : World} {K : PySem.W.Frag} {mg : Str → Option Value} {base : Heap} {f : Addr} {fd : FuncData} (F : FunD K "__init__" "Gang.__init__" (defArgs (mt 20 0)) (defBody (mt 20 0)) (defScope (mt 20 0)) [.non] [] f fd) {fis_name : Addr} {fdis_name : FuncData} (Ois_name : FnOk P w K mg base (L2.CX P w) 1 fis_name fdis_name ["thing"] (SpF K 1 mis_name)) (gis_name : mg "is_name" = some (.ref fis_name)) (kis_name : PySem.W.keepIn K (.ref fis_name) = true) (Bis_name : Binds K fdis_name ["thing"] []) {fare_four : Addr} {fdare_four : FuncData} (Oare_four : FnOk P w K mg base (L2.CX P w) 3 fare_four fdare_four ["thing", "most"] (SpF K 2 mare_four)) (gare_four : mg "are_four" = some (.ref fare_four)) (kare_four : PySem.W.keepIn K (.ref fare_four) = true) (Bare_four : Binds K fdare_four ["thing", "most"] []) (C_Gang : ClsOk K c_Gang) (u_tuple : mg "tuple" = none) (c_MOST_HANDS : ∃ t, mg "MOST_HANDS" = some (.int 4 t)) (c_MOST_TAKE : ∃ t, mg "MOST_TAKE" = some (.int 1000000 t)) : FnOk P w K mg base (L2.CX P w) 4 f fd ["self", "name", "takes", "hands"] (SpF K 4 mGang____init__) :=
  fn_sim F scGang____init__ rfl rfl fun cdv A outer s H E hr => by
    have nd := scGang____init__.nd
    exact (sim_bcons (sim_if (sim_tnot (sim_tru (sim_callP (Ois_name.mono (by decide)) hr rfl gis_name kis_name Bis_name .nil .nil (sim_cons (sim_var 1) sim_nil) (lenA_cons lenA_nil) rfl))) (sim_bone sim_no) sim_bnil) (sim_bcons (sim_if (sim_tnot (sim_tru (sim_callP (Oare_four.mono (by decide)) hr rfl gare_four kare_four Bare_four .nil .nil (sim_cons (sim_var 2) (sim_cons (sim_const (pe_glob (v := .int 1000000) rfl c_MOST_TAKE.choose_spec ⟨_, rfl⟩)) sim_nil)) (lenA_cons (lenA_cons lenA_nil)) rfl))) (sim_bone sim_no) sim_bnil) (sim_bcons (sim_if (SimW.t (sim_wand (sim_tnotN (sim_var 3) sim_non) (sim_wand1 (sim_tnot (sim_tru (sim_callP (Oare_four.mono (by decide)) hr rfl gare_four kare_four Bare_four .nil .nil (sim_cons (sim_var 3) (sim_cons (sim_const (pe_glob (v := .int 4) rfl c_MOST_HANDS.choose_spec ⟨_, rfl⟩)) sim_nil)) (lenA_cons (lenA_cons lenA_nil)) rfl)))))) (sim_bone sim_no) sim_bnil) (sim_bcons (sim_setF C_Gang (by decide +kernel) rfl (by decide) (sim_of (sim_var 1))) (sim_bcons (sim_setF C_Gang (by decide +kernel) rfl (by decide) (sim_bty call_tuple_of pr_tuple (by decide +kernel : bootBuiltins "tuple" = some (.type "tuple")) rfl u_tuple (sim_cons (sim_var 2) sim_nil))) (sim_bone (sim_setF C_Gang (by decide +kernel) rfl (by decide) (sim_of (sim_uif (sim_tisN (sim_var 3) sim_non) (sim_tup (sim_cons sim_int (sim_cons sim_int (sim_cons sim_int (sim_cons sim_int sim_nil))))) (sim_bty call_tuple_of pr_tuple (by decide +kernel : bootBuiltins "tuple" = some (.type "tuple")) rfl u_tuple (sim_cons (sim_var 3) sim_nil)))))))))))

/-! ### Gang__pace -/
def nGang__pace : List Str := ["self", "best", "take", "many"]
theorem scGang__pace : FnScope nGang__pace ["self"] (defScope (mt 20 7)) := ⟨rfl, rfl, rfl, by decide +kernel, rfl, by decide +kernel, by decide +kernel⟩
def PGang__pace : Nat → Bool := fun i => [0].contains i
def kGang__pace_1 : SS := (sIf (bOf (eP pGt (aCons (uV (eP pMul (aCons (uVar 2) (aCons (uV (eP pIx (aCons (uVar 1) (aCons (uV (eC (.int 1))) aNil)))) aNil)))) (aCons (uV (eP pMul (aCons (uV (eP pIx (aCons (uVar 1) (aCons (uV (eC (.int 0))) aNil)))) (aCons (uVar 3) aNil)))) aNil)))) (sAsg (eCold (eTup (aCons (uV (eOf (uVar 2))) (aCons (uV (eOf (uVar 3))) aNil)))) (tgN 1)) sNext)
def lGang__pace_2 : SS := sFor (iZs id (eP (pFld c_Gang 1) (aCons (uVar 0) aNil)) (eP (pFld c_Gang 2) (aCons (uVar 0) aNil))) (tgT (tgCons (tgN 2) (tgCons (tgN 3) tgNil))) (sWp [2, 3] kGang__pace_1)
def bGang__pace : SS := (sSeq (sAsg (eCold (eTup (aCons (uV (eP pIx (aCons (uV (eP (pFld c_Gang 1) (aCons (uVar 0) aNil))) (aCons (uV (eC (.int 0))) aNil)))) (aCons (uV (eP pIx (aCons (uV (eP (pFld c_Gang 2) (aCons (uVar 0) aNil))) (aCons (uV (eC (.int 0))) aNil)))) aNil)))) (tgN 1)) (sSeq (sDp [2, 3] lGang__pace_2) (sRet (eCall mpart_of [] (aCons (uV (eP pIx (aCons (uVar 1) (aCons (uV (eC (.int 0))) aNil)))) (aCons (uV (eP pIx (aCons (uVar 1) (aCons (uV (eC (.int 1))) aNil)))) aNil))))))
def mGang__pace : FS := defF 1 4 PGang__pace bGang__pace
theorem okGang__pace {P : Program} {w : World} {K : PySem.W.Frag} {mg : Str → Option Value} {base : Heap} {f : Addr} {fd : FuncData} (F : FunD K "pace" "Gang.pace" (defArgs (mt 20 7)) (defBody (mt 20 7)) (defScope (mt 20 7)) [] [] f fd) {fpart_of : Addr} {fdpart_of : FuncData} (Opart_of : FnOk P w K mg base (L2.CX P w) 1 fpart_of fdpart_of ["top", "bottom"] (SpF K 2 mpart_of)) (gpart_of : mg "part_of" = some (.ref fpart_of)) (kpart_of : PySem.W.keepIn K (.ref fpart_of) = true) (Bpart_of : Binds K fdpart_of ["top", "bottom"] []) (C_Gang : ClsOk K c_Gang) (u_zip : mg "zip" = none) : FnOk P w K mg base (L2.CX P w) 2 f fd ["self"] (SpF K 1 mGang__pace) :=
  fn_sim F scGang__pace rfl rfl fun cdv A outer s H E hr => by
    have nd := scGang__pace.nd
    exact (sim_bcons (sim_set nd rfl (by first | exact Or.inl rfl | exact Or.inr rfl) rfl (sim_cold (sim_tup (sim_cons (sim_ix (sim_fld C_Gang (by decide +kernel) rfl (sim_var 0)) sim_int) (sim_cons (sim_ix (sim_fld C_Gang (by decide +kernel) rfl (sim_var 0)) sim_int) sim_nil))))) (sim_bcons (sim_dp (sim_for (passes_of rfl) rfl (sim_izs rfl u_zip (sim_fld C_Gang (by decide +kernel) rfl (sim_var 0)) (sim_fld C_Gang (by decide +kernel) rfl (sim_var 0))) (sim_gtup rfl (sim_gcons (sim_gname nd rfl (by first | exact Or.inl rfl | exact Or.inr rfl) rfl) (sim_gcons (sim_gname nd rfl (by first | exact Or.inl rfl | exact Or.inr rfl) rfl) sim_gnil)) rfl rfl (len_cons (len_cons len_nil))) (sim_wp (sim_bone (sim_if (sim_tgt (sim_mul (sim_var 2) (sim_ix (sim_var 1) sim_int)) (sim_mul (sim_ix (sim_var 1) sim_int) (sim_var 3))) (sim_bone (sim_set nd rfl (by first | exact Or.inl rfl | exact Or.inr rfl) rfl (sim_cold (sim_tup (sim_cons (sim_of (sim_var 2)) (sim_cons (sim_of (sim_var 3)) sim_nil)))))) sim_bnil))))) (sim_bone (sim_ret (sim_call (Opart_of.mono (by decide)) hr rfl gpart_of kpart_of Bpart_of .nil .nil (sim_cons (sim_ix (sim_var 1) sim_int) (sim_cons (sim_ix (sim_var 1) sim_int) sim_nil)) (lenA_cons (lenA_cons lenA_nil)) rfl)))))

/-! ### Gang__binds -/
def nGang__binds : List Str := ["self", "beats", "pieces", "found", "kind", "take", "many"]
theorem scGang__binds : FnScope nGang__binds ["self"] (defScope (mt 20 8)) := ⟨rfl, rfl, rfl, by decide +kernel, rfl, by decide +kernel, by decide +kernel⟩
def PGang__binds : Nat → Bool := fun i => [0].contains i
def kGang__binds_1 : SS := (sIf (bOf (eP pEq (aCons (uV (eP pMul (aCons (uVar 5) (aCons (uVar 2) aNil)))) (aCons (uV (eP pMul (aCons (uVar 1) (aCons (uVar 6) aNil)))) aNil)))) (sExpr (uV (eCall mApp [] (aCons (uChk "list" (uVar 3)) (aCons (uV (eOf (uVar 4))) aNil))))) sNext)
def lGang__binds_2 : SS := sFor (iZs (enT 0) (eP (pFld c_Gang 1) (aCons (uVar 0) aNil)) (eP (pFld c_Gang 2) (aCons (uVar 0) aNil))) (tgT (tgCons (tgN 4) (tgCons (tgT (tgCons (tgN 5) (tgCons (tgN 6) tgNil))) tgNil))) (sWp [4, 5, 6] kGang__binds_1)
def bGang__binds : SS := (sSeq (sAsg (eCall mGang__pace [] (aCons (uObj c_Gang (uVar 0)) aNil)) (tgU (tgCons (tgN 1) (tgCons (tgN 2) tgNil)))) (sSeq (sAsg (eLst aNil) (tgN 3)) (sSeq (sDp [4, 5, 6] lGang__binds_2) (sRet (eMove 3)))))
def mGang__binds : FS := defF 1 7 PGang__binds bGang__binds
theorem okGang__binds {P : Program} {w : World} {K : PySem.W.Frag} {mg : Str → Option Value} {base : Heap} {f : Addr} {fd : FuncData} (F : FunD K "binds" "Gang.binds" (defArgs (mt 20 8)) (defBody (mt 20 8)) (defScope (mt 20 8)) [] [] f fd) {fGang__pace : Addr} {fdGang__pace : FuncData} (OGang__pace : FnOk P w K mg base (L2.CX P w) 2 fGang__pace fdGang__pace ["self"] (SpF K 1 mGang__pace)) (BGang__pace : Binds K fdGang__pace ["self"] []) (C_Gang : ClsOk K c_Gang) (MM_Gang__pace : Meth K (He.ga K c_Gang.nm) "pace" fGang__pace) (u_enumerate : mg "enumerate" = none) (u_zip : mg "zip" = none) : FnOk P w K mg base (L2.CX P w) 3 f fd ["self"] (SpF K 1 mGang__binds) :=
  fn_sim F scGang__binds rfl rfl fun cdv A outer s H E hr => by
    have nd := scGang__binds.nd
    exact (sim_bcons (sim_asg (sim_meth0 (c := c_Gang) C_Gang MM_Gang__pace (by decide +kernel) (OGang__pace.mono (by decide)) hr BGang__pace .nil .nil (sim_var 0) rfl) (sim_gtupU rfl (sim_gcons (sim_gname nd rfl (by first | exact Or.inl rfl | exact Or.inr rfl) rfl) (sim_gcons (sim_gname nd rfl (by first | exact Or.inl rfl | exact Or.inr rfl) rfl) sim_gnil)) rfl rfl (len_cons (len_cons len_nil)))) (sim_bcons (sim_set nd rfl (by first | exact Or.inl rfl | exact Or.inr rfl) rfl (sim_lst sim_nil)) (sim_bcons (sim_dp (sim_for (passes_of rfl) rfl (sim_iezs rfl u_enumerate rfl u_zip (sim_fld C_Gang (by decide +kernel) rfl (sim_var 0)) (sim_fld C_Gang (by decide +kernel) rfl (sim_var 0))) (sim_gtup rfl (sim_gcons (sim_gname nd rfl (by first | exact Or.inl rfl | exact Or.inr rfl) rfl) (sim_gcons (sim_gtup rfl (sim_gcons (sim_gname nd rfl (by first | exact Or.inl rfl | exact Or.inr rfl) rfl) (sim_gcons (sim_gname nd rfl (by first | exact Or.inl rfl | exact Or.inr rfl) rfl) sim_gnil)) rfl rfl (len_cons (len_cons len_nil))) sim_gnil)) rfl rfl (len_cons (len_cons len_nil))) (sim_wp (sim_bone (sim_if (sim_teq hr.units (sim_mul (sim_var 5) (sim_var 2)) (sim_mul (sim_var 1) (sim_var 6))) (sim_bone (sim_expr (sim_mt PySem.F.plainAttrs_list PySem.F.slot_list_append PySem.F.type_list_append mt_append ms_app (sim_var 3) (sim_cons (sim_of (sim_var 4)) sim_nil) (lenA_cons lenA_nil) rfl))) sim_bnil))))) (sim_bone (sim_ret (sim_move 3))))))

/-! ### least_end -/
def nleast_end : List Str := ["gang", "many", "kind", "often", "rest"]
theorem scleast_end : FnScope nleast_end ["gang", "many"] (defScope (top 4)) := ⟨rfl, rfl, rfl, by decide +kernel, rfl, by decide +kernel, by decide +kernel⟩
def Pleast_end : Nat → Bool := fun i => [0, 1].contains i
def bleast_end : SS := (sSeq (sAsg (eCold (eP pIx (aCons (uV (eCall mGang__binds [] (aCons (uObj c_Gang (uVar 0)) aNil))) (aCons (uV (eC (.int 0))) aNil)))) (tgN 2)) (sSeq (sAsg (eCold (eP pMax2 (aCons (uV (eC (.int 0))) (aCons (uV (eP pSub (aCons (uV (eP pDiv (aCons (uV (eP pSub (aCons (uVar 1) (aCons (uV (eC (.int 1))) aNil)))) (aCons (uV (eP pIx (aCons (uV (eP (pFld c_Gang 2) (aCons (uVar 0) aNil))) (aCons (uVar 2) aNil)))) aNil)))) (aCons (uV (eC (.int 16))) aNil)))) aNil)))) (tgN 3)) (sSeq (sAsg (eP pSub (aCons (uV (eP pSub (aCons (uVar 1) (aCons (uV (eC (.int 1))) aNil)))) (aCons (uV (eP pMul (aCons (uVar 3) (aCons (uV (eP pIx (aCons (uV (eP (pFld c_Gang 2) (aCons (uVar 0) aNil))) (aCons (uVar 2) aNil)))) aNil)))) aNil))) (tgN 4)) (sRet (eP pAdd (aCons (uV (eP pSumS (aCons (uV (eP (pFld c_Gang 1) (aCons (uVar 0) aNil))) (aCons (uV (eP pMul (aCons (uVar 3) (aCons (uV (eP pIx (aCons (uV (eP (pFld c_Gang 1) (aCons (uVar 0) aNil))) (aCons (uVar 2) aNil)))) aNil)))) aNil)))) (aCons (uV (eCall mgreatest_fill [] (aCons (uVar 0) (aCons (uVar 4) aNil)))) aNil)))))))
def mleast_end : FS := defF 2 5 Pleast_end bleast_end
theorem okleast_end {P : Program} {w : World} {K : PySem.W.Frag} {mg : Str → Option Value} {base : Heap} {f : Addr} {fd : FuncData} (F : FunD K "least_end" "least_end" (defArgs (top 4)) (defBody (top 4)) (defScope (top 4)) [] [] f fd) {fGang__binds : Addr} {fdGang__binds : FuncData} (OGang__binds : FnOk P w K mg base (L2.CX P w) 3 fGang__binds fdGang__binds ["self"] (SpF K 1 mGang__binds)) (BGang__binds : Binds K fdGang__binds ["self"] []) {fgreatest_fill : Addr} {fdgreatest_fill : FuncData} (Ogreatest_fill : FnOk P w K mg base (L2.CX P w) 1 fgreatest_fill fdgreatest_fill ["gang", "room"] (SpF K 2 mgreatest_fill)) (ggreatest_fill : mg "greatest_fill" = some (.ref fgreatest_fill)) (kgreatest_fill : PySem.W.keepIn K (.ref fgreatest_fill) = true) (Bgreatest_fill : Binds K fdgreatest_fill ["gang", "room"] []) (C_Gang : ClsOk K c_Gang) (MM_Gang__binds : Meth K (He.ga K c_Gang.nm) "binds" fGang__binds) (u_max : mg "max" = none) (u_sum : mg "sum" = none) (c_SPARE : ∃ t, mg "SPARE" = some (.int 16 t)) : FnOk P w K mg base (L2.CX P w) 4 f fd ["gang", "many"] (SpF K 2 mleast_end) :=
  fn_sim F scleast_end rfl rfl fun cdv A outer s H E hr => by
    have nd := scleast_end.nd
    exact (sim_bcons (sim_set nd rfl (by first | exact Or.inl rfl | exact Or.inr rfl) rfl (sim_cold (sim_ix (sim_meth0 (c := c_Gang) C_Gang MM_Gang__binds (by decide +kernel) (OGang__binds.mono (by decide)) hr BGang__binds .nil .nil (sim_var 0) rfl) sim_int))) (sim_bcons (sim_set nd rfl (by first | exact Or.inl rfl | exact Or.inr rfl) rfl (sim_cold (sim_blt (call_max2 rfl) pr_max2 PyProof.Rows.boot_max rfl u_max (sim_cons sim_int (sim_cons (sim_sub (sim_div (sim_sub (sim_var 1) sim_int) (sim_ix (sim_fld C_Gang (by decide +kernel) rfl (sim_var 0)) (sim_var 2))) (sim_const (pe_glob (v := .int 16) rfl c_SPARE.choose_spec ⟨_, rfl⟩))) sim_nil))))) (sim_bcons (sim_set nd rfl (by first | exact Or.inl rfl | exact Or.inr rfl) rfl (sim_sub (sim_sub (sim_var 1) sim_int) (sim_mul (sim_var 3) (sim_ix (sim_fld C_Gang (by decide +kernel) rfl (sim_var 0)) (sim_var 2))))) (sim_bone (sim_ret (sim_add (sim_sumS rfl rfl u_sum (sim_fld C_Gang (by decide +kernel) rfl (sim_var 0)) (sim_mul (sim_var 3) (sim_ix (sim_fld C_Gang (by decide +kernel) rfl (sim_var 0)) (sim_var 2)))) (sim_call (Ogreatest_fill.mono (by decide)) hr rfl ggreatest_fill kgreatest_fill Bgreatest_fill .nil .nil (sim_cons (sim_var 0) (sim_cons (sim_var 4) sim_nil)) (lenA_cons (lenA_cons lenA_nil)) rfl)))))))

/-! ### Line____init__ -/
def nLine____init__ : List Str := ["self", "gang", "holes", "warm", "kind"]
theorem scLine____init__ : FnScope nLine____init__ ["self", "gang", "holes", "warm"] (defScope (mt 24 0)) := ⟨rfl, rfl, rfl, by decide +kernel, rfl, by decide +kernel, by decide +kernel⟩
def PLine____init__ : Nat → Bool := fun i => [0, 1, 2, 3].contains i
def cLine____init___1 : SE := eLc (iOf itAny (uV (eC t_KINDS))) (tgN 4) tYesB (eLst aNil) [4]
def bLine____init__ : SS := (sSeq (sSetF 0 c_Line 0 (eOf (uVar 1))) (sSeq (sSetF 0 c_Line 1 (eCold (eP pList (aCons (uVar 2) aNil)))) (sSeq (sSetF 0 c_Line 2 (eOf (uVar 3))) (sSeq (sSetF 0 c_Line 3 cLine____init___1) (sSetF 0 c_Line 4 (eC (.int 0)))))))
def mLine____init__ : FS := defF 4 5 PLine____init__ bLine____init__
theorem okLine____init__ {P : Program} {w : World} {K : PySem.W.Frag} {mg : Str → Option Value} {base : Heap} {f : Addr} {fd : FuncData} (F : FunD K "__init__" "Line.__init__" (defArgs (mt 24 0)) (defBody (mt 24 0)) (defScope (mt 24 0)) [] [] f fd) (C_Line : ClsOk K c_Line) (g_KINDS : mg "KINDS" = some (.ref (He.ga K "KINDS"))) (T_KINDS : He.tupB K "KINDS" td_KINDS = true) (u_list : mg "list" = none) : FnOk P w K mg base (L2.CX P w) 1 f fd ["self", "gang", "holes", "warm"] (SpF K 4 mLine____init__) :=
  fn_sim F scLine____init__ rfl rfl fun cdv A outer s H E hr => by
    have nd := scLine____init__.nd
    exact (sim_bcons (sim_setF C_Line (by decide +kernel) rfl (by decide) (sim_of (sim_var 1))) (sim_bcons (sim_setF C_Line (by decide +kernel) rfl (by decide) (sim_cold (sim_bty call_list_of pr_list (by decide +kernel : bootBuiltins "list" = some (.type "list")) rfl u_list (sim_cons (sim_var 2) sim_nil)))) (sim_bcons (sim_setF C_Line (by decide +kernel) rfl (by decide) (sim_of (sim_var 3))) (sim_bcons (sim_setF C_Line (by decide +kernel) rfl (by decide) (sim_lc (own := [("kind", 4)]) rfl nd (sim_iany (sim_globT rfl g_KINDS T_KINDS rfl)) (blkOk_by (by kernel_rfl)) (fun _ _ _ _ _ => (sim_gname nd rfl (by first | exact Or.inl rfl | exact Or.inr rfl) rfl)) (fun _ _ _ _ _ => sim_ts0) (fun _ _ _ _ _ => (sim_lst sim_nil)))) (sim_bone (sim_setF C_Line (by decide +kernel) rfl (by decide) sim_int))))))

/-! ### free_from -/
def nfree_from : List Str := ["line", "kind", "beats"]
theorem scfree_from : FnScope nfree_from ["line", "kind"] (defScope (top 25)) := ⟨rfl, rfl, rfl, by decide +kernel, rfl, by decide +kernel, by decide +kernel⟩
def Pfree_from : Nat → Bool := fun i => [0, 1].contains i
def bfree_from : SS := (sSeq (sAsg (eCold (eP pIx (aCons (uV (eP (pFld c_Line 3) (aCons (uVar 0) aNil))) (aCons (uVar 1) aNil)))) (tgN 2)) (sRet (eOf (uIf (bOf (eP pEq (aCons (uV (eP pLen (aCons (uVar 2) aNil))) (aCons (uV (eP pIx (aCons (uV (eP (pFld c_Gang 2) (aCons (uV (eP (pFld c_Line 0) (aCons (uVar 0) aNil))) aNil))) (aCons (uVar 1) aNil)))) aNil)))) (uV (eP pIx (aCons (uVar 2) (aCons (uV (eC (.int 0))) aNil)))) (uV (eC (.int 0)))))))
def mfree_from : FS := defF 2 3 Pfree_from bfree_from
theorem okfree_from {P : Program} {w : World} {K : PySem.W.Frag} {mg : Str → Option Value} {base : Heap} {f : Addr} {fd : FuncData} (F : FunD K "free_from" "free_from" (defArgs (top 25)) (defBody (top 25)) (defScope (top 25)) [] [] f fd) (C_Gang : ClsOk K c_Gang) (C_Line : ClsOk K c_Line) (u_len : mg "len" = none) : FnOk P w K mg base (L2.CX P w) 1 f fd ["line", "kind"] (SpF K 2 mfree_from) :=
  fn_sim F scfree_from rfl rfl fun cdv A outer s H E hr => by
    have nd := scfree_from.nd
    exact (sim_bcons (sim_set nd rfl (by first | exact Or.inl rfl | exact Or.inr rfl) rfl (sim_cold (sim_ix (sim_fld C_Line (by decide +kernel) rfl (sim_var 0)) (sim_var 1)))) (sim_bone (sim_ret (sim_of (sim_uif (sim_teq hr.units (sim_blt call_len pr_len boot_len rfl u_len (sim_cons (sim_var 2) sim_nil)) (sim_ix (sim_fld C_Gang (by decide +kernel) rfl (sim_fld C_Line (by decide +kernel) rfl (sim_var 0))) (sim_var 1))) (sim_ix (sim_var 2) sim_int) sim_int)))))

/-! ### leaves -/
def nleaves : List Str := ["line", "kind", "beat"]
theorem scleaves : FnScope nleaves ["line", "kind", "beat"] (defScope (top 26)) := ⟨rfl, rfl, rfl, by decide +kernel, rfl, by decide +kernel, by decide +kernel⟩
def Pleaves : Nat → Bool := fun i => [0, 1, 2].contains i
def bleaves : SS := (sSeq (sAppP (.ix (.fld (.nm 0) c_Line 3 "leaving") 1) (uVar 2)) (sSetP (.fld (.nm 0) c_Line 3 "leaving") 1 (eP pSl10 (aCons (uV (eP pSorted (aCons (uV (eP pIx (aCons (uV (eP (pFld c_Line 3) (aCons (uVar 0) aNil))) (aCons (uVar 1) aNil)))) aNil))) (aCons (uInt (uV (eP pNeg (aCons (uV (eP pIx (aCons (uV (eP (pFld c_Gang 2) (aCons (uV (eP (pFld c_Line 0) (aCons (uVar 0) aNil))) aNil))) (aCons (uVar 1) aNil)))) aNil)))) aNil)))))
def mleaves : FS := defF 3 3 Pleaves bleaves
theorem okleaves {P : Program} {w : World} {K : PySem.W.Frag} {mg : Str → Option Value} {base : Heap} {f : Addr} {fd : FuncData} (F : FunD K "leaves" "leaves" (defArgs (top 26)) (defBody (top 26)) (defScope (top 26)) [] [] f fd) (C_Gang : ClsOk K c_Gang) (C_Line : ClsOk K c_Line) (u_sorted : mg "sorted" = none) : FnOk P w K mg base (L2.CX P w) 1 f fd ["line", "kind", "beat"] (SpF K 3 mleaves) :=
  fn_sim F scleaves rfl rfl fun cdv A outer s H E hr => by
    have nd := scleaves.nd
    exact (sim_bcons (sim_appP PySem.F.plainAttrs_list PySem.F.slot_list_append PySem.F.type_list_append (pth_ix (pth_fld C_Line (by decide +kernel) rfl (pth_nm 0))) (sim_var 2)) (sim_bone (sim_setP (sim_sl10 (sim_blt cr_sortedA pr_sorted PyProof.Rows.boot_sorted rfl u_sorted (sim_cons (sim_ix (sim_fld C_Line (by decide +kernel) rfl (sim_var 0)) (sim_var 1)) sim_nil)) (sim_neg (sim_ix (sim_fld C_Gang (by decide +kernel) rfl (sim_fld C_Line (by decide +kernel) rfl (sim_var 0))) (sim_var 1)))) (pth_fld C_Line (by decide +kernel) rfl (pth_nm 0)))))

/-! ### is_let_go -/
def nis_let_go : List Str := ["line", "begins", "beat"]
theorem scis_let_go : FnScope nis_let_go ["line", "begins", "beat"] (defScope (top 27)) := ⟨rfl, rfl, rfl, by decide +kernel, rfl, by decide +kernel, by decide +kernel⟩
def Pis_let_go : Nat → Bool := fun i => [0, 1, 2].contains i
def bis_let_go : SS := (sRet (eAnd (eP pGt (aCons (uV (eP pLen (aCons (uVar 1) aNil))) (aCons (uV (eC (.int 0))) aNil))) (eAnd (eP pNotN (aCons (uV (eP (pFld c_Line 2) (aCons (uVar 0) aNil))) (aCons (uV (eC .non)) aNil))) (eP pGt (aCons (uVar 2) (aCons (uV (eP pAdd (aCons (uV (eP pIx (aCons (uVar 1) (aCons (uV (eC (.int 0))) aNil)))) (aCons (uV (eP (pFld c_Line 2) (aCons (uVar 0) aNil))) aNil)))) aNil))))))
def mis_let_go : FS := defF 3 3 Pis_let_go bis_let_go
theorem okis_let_go {P : Program} {w : World} {K : PySem.W.Frag} {mg : Str → Option Value} {base : Heap} {f : Addr} {fd : FuncData} (F : FunD K "is_let_go" "is_let_go" (defArgs (top 27)) (defBody (top 27)) (defScope (top 27)) [] [] f fd) (C_Line : ClsOk K c_Line) (u_len : mg "len" = none) : FnOk P w K mg base (L2.CX P w) 1 f fd ["line", "begins", "beat"] (SpF K 3 mis_let_go) :=
  fn_sim F scis_let_go rfl rfl fun cdv A outer s H E hr => by
    have nd := scis_let_go.nd
    exact (sim_bone (sim_ret (sim_and (sim_gt (sim_blt call_len pr_len boot_len rfl u_len (sim_cons (sim_var 1) sim_nil)) sim_int) (sim_and (sim_notN (sim_fld C_Line (by decide +kernel) rfl (sim_var 0)) sim_non) (sim_one (sim_gt (sim_var 2) (sim_add (sim_ix (sim_var 1) sim_int) (sim_fld C_Line (by decide +kernel) rfl (sim_var 0)))))))))

/-! ### hole_filled -/
def nhole_filled : List Str := ["line", "begin", "more"]
theorem schole_filled : FnScope nhole_filled ["line", "begin"] (defScope (top 28)) := ⟨rfl, rfl, rfl, by decide +kernel, rfl, by decide +kernel, by decide +kernel⟩
def Phole_filled : Nat → Bool := fun i => [0, 1].contains i
def bhole_filled : SS := (sSeq (sAsg (eCold (eOf (uIf (bOf (eP pLtI (aCons (uV (eP (pFld c_Line 4) (aCons (uVar 0) aNil))) (aCons (uV (eP pLen (aCons (uV (eP (pFld c_Line 1) (aCons (uVar 0) aNil))) aNil))) aNil)))) (uV (eP pIx (aCons (uV (eP (pFld c_Line 1) (aCons (uVar 0) aNil))) (aCons (uV (eP (pFld c_Line 4) (aCons (uVar 0) aNil))) aNil)))) (uV (eC (.int 0)))))) (tgN 2)) (sSeq (sAugP (.nm 0) c_Line 4 1) (sRet (eP pAdd (aCons (uV (eP pAdd (aCons (uVar 1) (aCons (uV (eP pIx (aCons (uV (eP (pFld c_Gang 1) (aCons (uV (eP (pFld c_Line 0) (aCons (uVar 0) aNil))) aNil))) (aCons (uV (eC (.int 3))) aNil)))) aNil)))) (aCons (uVar 2) aNil))))))
def mhole_filled : FS := defF 2 3 Phole_filled bhole_filled
theorem okhole_filled {P : Program} {w : World} {K : PySem.W.Frag} {mg : Str → Option Value} {base : Heap} {f : Addr} {fd : FuncData} (F : FunD K "hole_filled" "hole_filled" (defArgs (top 28)) (defBody (top 28)) (defScope (top 28)) [] [] f fd) (C_Gang : ClsOk K c_Gang) (C_Line : ClsOk K c_Line) (u_len : mg "len" = none) (c_LAST_KIND : ∃ t, mg "LAST_KIND" = some (.int 3 t)) : FnOk P w K mg base (L2.CX P w) 1 f fd ["line", "begin"] (SpF K 2 mhole_filled) :=
  fn_sim F schole_filled rfl rfl fun cdv A outer s H E hr => by
    have nd := schole_filled.nd
    exact (sim_bcons (sim_set nd rfl (by first | exact Or.inl rfl | exact Or.inr rfl) rfl (sim_cold (sim_of (sim_uif (sim_tlt (sim_fld C_Line (by decide +kernel) rfl (sim_var 0)) (sim_blt call_len pr_len boot_len rfl u_len (sim_cons (sim_fld C_Line (by decide +kernel) rfl (sim_var 0)) sim_nil))) (sim_ix (sim_fld C_Line (by decide +kernel) rfl (sim_var 0)) (sim_fld C_Line (by decide +kernel) rfl (sim_var 0))) sim_int)))) (sim_bcons (sim_augP C_Line (by decide +kernel) rfl (by decide) (pth_nm 0)) (sim_bone (sim_ret (sim_add (sim_add (sim_var 1) (sim_ix (sim_fld C_Gang (by decide +kernel) rfl (sim_fld C_Line (by decide +kernel) rfl (sim_var 0))) (sim_const (pe_glob (v := .int 3) rfl c_LAST_KIND.choose_spec ⟨_, rfl⟩)))) (sim_var 2))))))

/-! ### one_passed -/
def none_passed : List Str := ["line", "ask", "is_missed", "begins", "ready", "kind", "beat", "word"]
theorem scone_passed : FnScope none_passed ["line", "ask", "is_missed"] (defScope (top 29)) := ⟨rfl, rfl, rfl, by decide +kernel, rfl, by decide +kernel, by decide +kernel⟩
def Pone_passed : Nat → Bool := fun i => [0, 1, 2].contains i
def kone_passed_1 : SS := (sSeq (sAsg (eCold (eP pMax2 (aCons (uVar 4) (aCons (uV (eCallP mfree_from [] (aCons (uVar 0) (aCons (uVar 5) aNil)))) aNil)))) (tgN 6)) (sSeq (sAsg (eC (.str "passed")) (tgN 7)) (sSeq (sIf (tTru (uV (eCallP mis_let_go [] (aCons (uVar 0) (aCons (uVar 3) (aCons (uVar 6) aNil)))))) (sPar 7 6 (aCons (uV (eC (.str "cold"))) (aCons (uV (eP pAdd (aCons (uV (eP pAdd (aCons (uV (eP pIx (aCons (uVar 3) (aCons (uV (eC (.int 0))) aNil)))) (aCons (uV (eP (pFld c_Line 2) (aCons (uVar 0) aNil))) aNil)))) (aCons (uV (eC (.int 1))) aNil)))) aNil))) (sIf (tAndB (bOf (eP pEq (aCons (uVar 5) (aCons (uV (eC (.int 2))) aNil)))) (tTru (uVar 2))) (sAsg (eC (.str "missed")) (tgN 7)) sNext)) (sSeq (sIf (bOf (eP pGt (aCons (uVar 5) (aCons (uV (eC (.int 0))) aNil)))) (sExpr (uV (eCall mleaves [] (aCons (uVar 0) (aCons (uV (eP pSub (aCons (uVar 5) (aCons (uV (eC (.int 1))) aNil)))) (aCons (uVar 6) aNil)))))) sNext) (sSeq (sIf (bOf (eP pNe (aCons (uVar 7) (aCons (uV (eC (.str "passed"))) aNil)))) (sRet (eTup (aCons (uV (eOf (uVar 7))) (aCons (uV (eP pTuple (aCons (uVar 3) aNil))) (aCons (uV (eOf (uVar 6))) aNil))))) sNext) (sSeq (sExpr (uV (eCall mApp [] (aCons (uChk "list" (uVar 3)) (aCons (uV (eOf (uVar 6))) aNil))))) (sAsg (eP pAdd (aCons (uVar 6) (aCons (uV (eP pIx (aCons (uV (eP (pFld c_Gang 1) (aCons (uV (eP (pFld c_Line 0) (aCons (uVar 0) aNil))) aNil))) (aCons (uVar 5) aNil)))) aNil))) (tgN 4))))))))
def lone_passed_2 : SS := sFor (iInts rg1 (aCons (uV (eP pLen (aCons (uV (eC t_KINDS)) aNil))) aNil)) (tgN 5) (sWp [5, 6, 7] kone_passed_1)
def bone_passed : SS := (sSeq (sPar 3 4 (aCons (uV (eLst aNil)) (aCons (uV (eCold (eOf (uVar 1)))) aNil))) (sSeq (sDp [5, 6, 7] lone_passed_2) (sSeq (sAsg (eCold (eCall mhole_filled [] (aCons (uVar 0) (aCons (uV (eP pIx (aCons (uVar 3) (aCons (uV (eC (.int 3))) aNil)))) aNil)))) (tgN 6)) (sSeq (sExpr (uV (eCall mleaves [] (aCons (uVar 0) (aCons (uV (eC (.int 3))) (aCons (uVar 6) aNil)))))) (sRet (eTup (aCons (uV (eC (.str "closed"))) (aCons (uV (eP pTuple (aCons (uVar 3) aNil))) (aCons (uV (eOf (uVar 6))) aNil)))))))))
def mone_passed : FS := defF 3 8 Pone_passed bone_passed
theorem okone_passed {P : Program} {w : World} {K : PySem.W.Frag} {mg : Str → Option Value} {base : Heap} {f : Addr} {fd : FuncData} (F : FunD K "one_passed" "one_passed" (defArgs (top 29)) (defBody (top 29)) (defScope (top 29)) [] [] f fd) {fhole_filled : Addr} {fdhole_filled : FuncData} (Ohole_filled : FnOk P w K mg base (L2.CX P w) 1 fhole_filled fdhole_filled ["line", "begin"] (SpF K 2 mhole_filled)) (ghole_filled : mg "hole_filled" = some (.ref fhole_filled)) (khole_filled : PySem.W.keepIn K (.ref fhole_filled) = true) (Bhole_filled : Binds K fdhole_filled ["line", "begin"] []) {fleaves : Addr} {fdleaves : FuncData} (Oleaves : FnOk P w K mg base (L2.CX P w) 1 fleaves fdleaves ["line", "kind", "beat"] (SpF K 3 mleaves)) (gleaves : mg "leaves" = some (.ref fleaves)) (kleaves : PySem.W.keepIn K (.ref fleaves) = true) (Bleaves : Binds K fdleaves ["line", "kind", "beat"] []) {fis_let_go : Addr} {fdis_let_go : FuncData} (Ois_let_go : FnOk P w K mg base (L2.CX P w) 1 fis_let_go fdis_let_go ["line", "begins", "beat"] (SpF K 3 mis_let_go)) (gis_let_go : mg "is_let_go" = some (.ref fis_let_go)) (kis_let_go : PySem.W.keepIn K (.ref fis_let_go) = true) (Bis_let_go : Binds K fdis_let_go ["line", "begins", "beat"] []) {ffree_from : Addr} {fdfree_from : FuncData} (Ofree_from : FnOk P w K mg base (L2.CX P w) 1 ffree_from fdfree_from ["line", "kind"] (SpF K 2 mfree_from)) (gfree_from : mg "free_from" = some (.ref ffree_from)) (kfree_from : PySem.W.keepIn K (.ref ffree_from) = true) (Bfree_from : Binds K fdfree_from ["line", "kind"] []) (C_Gang : ClsOk K c_Gang) (C_Line : ClsOk K c_Line) (g_KINDS : mg "KINDS" = some (.ref (He.ga K "KINDS"))) (T_KINDS : He.tupB K "KINDS" td_KINDS = true) (u_len : mg "len" = none) (u_max : mg "max" = none) (u_range : mg "range" = none) (u_tuple : mg "tuple" = none) (c_HOLDER : ∃ t, mg "HOLDER" = some (.int 2 t)) (c_LAST_KIND : ∃ t, mg "LAST_KIND" = some (.int 3 t)) : FnOk P w K mg base (L2.CX P w) 2 f fd ["line", "ask", "is_missed"] (SpF K 3 mone_passed) :=
  fn_sim F scone_passed rfl rfl fun cdv A outer s H E hr => by
    have nd := scone_passed.nd
    exact (sim_bcons (sim_par rfl nd rfl rfl (by decide) rfl rfl rfl rfl (sim_cons (sim_lst sim_nil) (sim_cons (sim_cold (sim_of (sim_var 1))) sim_nil)) (fun t ht => ps_par rfl nd rfl rfl (by decide) rfl rfl ht (by rfl))) (sim_bcons (sim_dp (sim_for (passes_of rfl) rfl (sim_irg1 rfl u_range (sim_cons (sim_blt call_len pr_len boot_len rfl u_len (sim_cons (sim_globT rfl g_KINDS T_KINDS rfl) sim_nil)) sim_nil)) (sim_gname nd rfl (by first | exact Or.inl rfl | exact Or.inr rfl) rfl) (sim_wp (sim_bcons (sim_set nd rfl (by first | exact Or.inl rfl | exact Or.inr rfl) rfl (sim_cold (sim_blt (call_max2 rfl) pr_max2 PyProof.Rows.boot_max rfl u_max (sim_cons (sim_var 4) (sim_cons (sim_callP (Ofree_from.mono (by decide)) hr rfl gfree_from kfree_from Bfree_from .nil .nil (sim_cons (sim_var 0) (sim_cons (sim_var 5) sim_nil)) (lenA_cons (lenA_cons lenA_nil)) rfl) sim_nil))))) (sim_bcons (sim_set nd rfl (by first | exact Or.inl rfl | exact Or.inr rfl) rfl sim_str) (sim_bcons (sim_if (sim_tru (sim_callP (Ois_let_go.mono (by decide)) hr rfl gis_let_go kis_let_go Bis_let_go .nil .nil (sim_cons (sim_var 0) (sim_cons (sim_var 3) (sim_cons (sim_var 6) sim_nil))) (lenA_cons (lenA_cons (lenA_cons lenA_nil))) rfl)) (sim_bone (sim_par rfl nd rfl rfl (by decide) rfl rfl rfl rfl (sim_cons sim_str (sim_cons (sim_add (sim_add (sim_ix (sim_var 3) sim_int) (sim_fld C_Line (by decide +kernel) rfl (sim_var 0))) sim_int) sim_nil)) (fun t ht => ps_par rfl nd rfl rfl (by decide) rfl rfl ht (by rfl)))) (sim_bone (sim_if (SimW.t (sim_wand (sim_teq hr.units (sim_var 5) (sim_const (pe_glob (v := .int 2) rfl c_HOLDER.choose_spec ⟨_, rfl⟩))) (sim_wand1 (sim_tru (sim_var 2))))) (sim_bone (sim_set nd rfl (by first | exact Or.inl rfl | exact Or.inr rfl) rfl sim_str)) sim_bnil))) (sim_bcons (sim_if (sim_tgt (sim_var 5) sim_int) (sim_bone (sim_expr (sim_call (Oleaves.mono (by decide)) hr rfl gleaves kleaves Bleaves .nil .nil (sim_cons (sim_var 0) (sim_cons (sim_sub (sim_var 5) sim_int) (sim_cons (sim_var 6) sim_nil))) (lenA_cons (lenA_cons (lenA_cons lenA_nil))) rfl))) sim_bnil) (sim_bcons (sim_if (sim_tne hr.units (sim_var 7) sim_str) (sim_bone (sim_ret (sim_tup (sim_cons (sim_of (sim_var 7)) (sim_cons (sim_bty call_tuple_of pr_tuple (by decide +kernel : bootBuiltins "tuple" = some (.type "tuple")) rfl u_tuple (sim_cons (sim_var 3) sim_nil)) (sim_cons (sim_of (sim_var 6)) sim_nil)))))) sim_bnil) (sim_bcons (sim_expr (sim_mt PySem.F.plainAttrs_list PySem.F.slot_list_append PySem.F.type_list_append mt_append ms_app (sim_var 3) (sim_cons (sim_of (sim_var 6)) sim_nil) (lenA_cons lenA_nil) rfl)) (sim_bone (sim_set nd rfl (by first | exact Or.inl rfl | exact Or.inr rfl) rfl (sim_add (sim_var 6) (sim_ix (sim_fld C_Gang (by decide +kernel) rfl (sim_fld C_Line (by decide +kernel) rfl (sim_var 0))) (sim_var 5)))))))))))))) (sim_bcons (sim_set nd rfl (by first | exact Or.inl rfl | exact Or.inr rfl) rfl (sim_cold (sim_call (Ohole_filled.mono (by decide)) hr rfl ghole_filled khole_filled Bhole_filled .nil .nil (sim_cons (sim_var 0) (sim_cons (sim_ix (sim_var 3) (sim_const (pe_glob (v := .int 3) rfl c_LAST_KIND.choose_spec ⟨_, rfl⟩))) sim_nil)) (lenA_cons (lenA_cons lenA_nil)) rfl))) (sim_bcons (sim_expr (sim_call (Oleaves.mono (by decide)) hr rfl gleaves kleaves Bleaves .nil .nil (sim_cons (sim_var 0) (sim_cons (sim_const (pe_glob (v := .int 3) rfl c_LAST_KIND.choose_spec ⟨_, rfl⟩)) (sim_cons (sim_var 6) sim_nil))) (lenA_cons (lenA_cons (lenA_cons lenA_nil))) rfl)) (sim_bone (sim_ret (sim_tup (sim_cons sim_str (sim_cons (sim_bty call_tuple_of pr_tuple (by decide +kernel : bootBuiltins "tuple" = some (.type "tuple")) rfl u_tuple (sim_cons (sim_var 3) sim_nil)) (sim_cons (sim_of (sim_var 6)) sim_nil))))))))))

/-! ### passed -/
def npassed : List Str := ["gang", "asks", "holes", "missed", "life", "line", "lost", "piece", "ask"]
theorem scpassed : FnScope npassed ["gang", "asks", "holes", "missed", "life"] (defScope (top 30)) := ⟨rfl, rfl, rfl, by decide +kernel, rfl, by decide +kernel, by decide +kernel⟩
def Ppassed : Nat → Bool := fun i => [0, 1, 2, 3, 4].contains i
def cpassed_1 : SE := eLc (iOf enAny (uVar 1)) (tgT (tgCons (tgN 7) (tgCons (tgN 8) tgNil))) tYesB (eCold (eCall mone_passed [] (aCons (uVar 5) (aCons (uVar 8) (aCons (uV (eP (pDInO false) (aCons (uVar 7) (aCons (uVar 6) aNil)))) aNil))))) [7, 8]
def cpassed_2 : SE := eLc (iOf itAny (uVar 3)) (tgN 7) tYesB (eTup (aCons (uV (eOf (uVar 7))) (aCons (uV (eC (.bl true))) aNil))) [7]
def bpassed : SS := (sSeq (sAsg (eMake mLine____init__ c_Line [] (aCons (uVar 0) (aCons (uIf (bOf (eP pNotN (aCons (uVar 2) (aCons (uV (eC .non)) aNil)))) (uVar 2) (uV (eLst aNil))) (aCons (uVar 4) aNil)))) (tgN 5)) (sSeq (sAsg (eCold (eOf (uIf (bOf (eP pNotN (aCons (uVar 3) (aCons (uV (eC .non)) aNil)))) (uV (eP pDict (aCons (uV cpassed_2) aNil))) (uV eDNew)))) (tgN 6)) (sRet cpassed_1)))
def mpassed : FS := defF 5 9 Ppassed bpassed
theorem okpassed {P : Program} {w : World} {K : PySem.W.Frag} {mg : Str → Option Value} {base : Heap} {f : Addr} {fd : FuncData} (F : FunD K "passed" "passed" (defArgs (top 30)) (defBody (top 30)) (defScope (top 30)) [.non, .non, .non] [] f fd) {fLine____init__ : Addr} {fdLine____init__ : FuncData} (OLine____init__ : FnOk P w K mg base (L2.CX P w) 1 fLine____init__ fdLine____init__ ["self", "gang", "holes", "warm"] (SpF K 4 mLine____init__)) (BLine____init__ : Binds K fdLine____init__ ["self", "gang", "holes", "warm"] []) {fone_passed : Addr} {fdone_passed : FuncData} (Oone_passed : FnOk P w K mg base (L2.CX P w) 2 fone_passed fdone_passed ["line", "ask", "is_missed"] (SpF K 3 mone_passed)) (gone_passed : mg "one_passed" = some (.ref fone_passed)) (kone_passed : PySem.W.keepIn K (.ref fone_passed) = true) (Bone_passed : Binds K fdone_passed ["line", "ask", "is_missed"] []) (M_Line : Mk K (He.ga K c_Line.nm) fLine____init__) (g_Line : mg "Line" = some (.ref (He.ga K c_Line.nm))) (u_dict : mg "dict" = none) (u_enumerate : mg "enumerate" = none) : FnOk P w K mg base (L2.CX P w) 3 f fd ["gang", "asks", "holes", "missed", "life"] (SpF K 5 mpassed) :=
  fn_sim F scpassed rfl rfl fun cdv A outer s H E hr => by
    have nd := scpassed.nd
    exact (sim_bcons (sim_set nd rfl (by first | exact Or.inl rfl | exact Or.inr rfl) rfl (sim_make (c := c_Line) M_Line (OLine____init__.mono (by decide)) hr rfl g_Line BLine____init__ .nil .nil (sim_cons (sim_var 0) (sim_cons (sim_uif (sim_tnotN (sim_var 2) sim_non) (sim_var 2) (sim_lst sim_nil)) (sim_cons (sim_var 4) sim_nil))) (lenA_cons (lenA_cons (lenA_cons lenA_nil))) rfl)) (sim_bcons (sim_set nd rfl (by first | exact Or.inl rfl | exact Or.inr rfl) rfl (sim_cold (sim_of (sim_uif (sim_tnotN (sim_var 3) sim_non) (sim_bty (call_dictP rfl) pr_dict (by decide +kernel : bootBuiltins "dict" = some (.type "dict")) rfl u_dict (sim_cons (sim_lc (own := [("piece", 7)]) rfl nd (sim_iany (sim_var 3)) (blkOk_by (by kernel_rfl)) (fun _ _ _ _ _ => (sim_gname nd rfl (by first | exact Or.inl rfl | exact Or.inr rfl) rfl)) (fun _ _ _ _ _ => sim_ts0) (fun _ _ _ _ _ => (sim_tup (sim_cons (sim_of (sim_var 7)) (sim_cons sim_bl sim_nil))))) sim_nil)) sim_dnew)))) (sim_bone (sim_ret (sim_lc (own := [("piece", 7), ("ask", 8)]) rfl nd (sim_ienAny rfl u_enumerate (sim_var 1)) (blkOk_by (by kernel_rfl)) (fun _ _ _ _ _ => (sim_gtup rfl (sim_gcons (sim_gname nd rfl (by first | exact Or.inl rfl | exact Or.inr rfl) rfl) (sim_gcons (sim_gname nd rfl (by first | exact Or.inl rfl | exact Or.inr rfl) rfl) sim_gnil)) rfl rfl (len_cons (len_cons len_nil)))) (fun _ _ _ _ _ => sim_ts0) (fun _ _ _ _ _ => (sim_cold (sim_call (Oone_passed.mono (by decide)) hr rfl gone_passed kone_passed Bone_passed .nil .nil (sim_cons (sim_var 5) (sim_cons (sim_var 8) (sim_cons (sim_cmp (op_din (Nat.lt_of_le_of_lt (Nat.add_le_add_left (by decide) _) hr.units65)) pr_din (sim_var 7) (sim_var 6) (by rfl)) sim_nil))) (lenA_cons (lenA_cons (lenA_cons lenA_nil))) rfl))))))))

/-! ### _law_tape -/
def n_law_tape : List Str := ["_law_script", "_law_k", "_law_cell"]
theorem sc_law_tape : FnScope n_law_tape ["_law_script", "_law_k"] (defScope (top 32)) := ⟨rfl, rfl, rfl, by decide +kernel, rfl, by decide +kernel, by decide +kernel⟩
def P_law_tape : Nat → Bool := fun i => [0, 1].contains i
def b_law_tape : SS := (sSeq (sAsg (eCold (eOf (uIf (bOf (eP pLtI (aCons (uVar 1) (aCons (uV (eP pLen (aCons (uVar 0) aNil))) aNil)))) (uV (eP pIx (aCons (uVar 0) (aCons (uVar 1) aNil)))) (uV (eC (.int 0)))))) (tgN 2)) (sRet (eLst (aCons (uV (eP pMul (aCons (uV (eP pAbs (aCons (uVar 2) aNil))) (aCons (uV (eP pInt (aCons (uV (eP pGe (aCons (uV (eP pAbs (aCons (uVar 2) aNil))) (aCons (uV (eP pPow (aCons (uV (eC (.int 10))) (aCons (uV (eC (.int 18))) aNil)))) aNil)))) aNil))) aNil)))) (aCons (uV (eP pAdd (aCons (uV (eP pAdd (aCons (uV (eP pMod (aCons (uVar 2) (aCons (uV (eC (.int 2305843009213693951))) aNil)))) (aCons (uV (eP pMul (aCons (uV (eC (.int 39373))) (aCons (uVar 1) aNil)))) aNil)))) (aCons (uV (eC (.int 17))) aNil)))) (aCons (uV (eC (.int 0))) aNil))))))
def m_law_tape : FS := defF 2 3 P_law_tape b_law_tape
theorem ok_law_tape {P : Program} {w : World} {K : PySem.W.Frag} {mg : Str → Option Value} {base : Heap} {f : Addr} {fd : FuncData} (F : FunD K "_law_tape" "_law_tape" (defArgs (top 32)) (defBody (top 32)) (defScope (top 32)) [] [] f fd) (u_abs : mg "abs" = none) (u_int : mg "int" = none) (u_len : mg "len" = none) : FnOk P w K mg base (L2.CX P w) 1 f fd ["_law_script", "_law_k"] (SpF K 2 m_law_tape) :=
  fn_sim F sc_law_tape rfl rfl fun cdv A outer s H E hr => by
    have nd := sc_law_tape.nd
    exact (sim_bcons (sim_set nd rfl (by first | exact Or.inl rfl | exact Or.inr rfl) rfl (sim_cold (sim_of (sim_uif (sim_tlt (sim_var 1) (sim_blt call_len pr_len boot_len rfl u_len (sim_cons (sim_var 0) sim_nil))) (sim_ix (sim_var 0) (sim_var 1)) sim_int)))) (sim_bone (sim_ret (sim_lst (sim_cons (sim_mul (sim_blt call_abs pr_abs PyProof.Rows.boot_abs rfl u_abs (sim_cons (sim_var 2) sim_nil)) (sim_bty call_int1 pr_int (by decide +kernel : bootBuiltins "int" = some (.type "int")) rfl u_int (sim_cons (sim_ge (sim_blt call_abs pr_abs PyProof.Rows.boot_abs rfl u_abs (sim_cons (sim_var 2) sim_nil)) (sim_pow sim_int sim_int)) sim_nil))) (sim_cons (sim_add (sim_add (sim_mod (sim_var 2) sim_int) (sim_mul sim_int (sim_var 1))) sim_int) (sim_cons sim_int sim_nil)))))))

/-! ### _law_draw -/
def n_law_draw : List Str := ["_law_tape_here", "_law_many", "_law_found", "_law_once", "_law_twice", "_law_wide"]
theorem sc_law_draw : FnScope n_law_draw ["_law_tape_here", "_law_many"] (defScope (top 33)) := ⟨rfl, rfl, rfl, by decide +kernel, rfl, by decide +kernel, by decide +kernel⟩
def P_law_draw : Nat → Bool := fun i => [0, 1].contains i
def b_law_draw : SS := (sSeq (sIf (bOf (eP pGt (aCons (uV (eP pIx (aCons (uVar 0) (aCons (uV (eC (.int 0))) aNil)))) (aCons (uV (eC (.int 0))) aNil)))) (sSeq (sAsg (eP pMod (aCons (uV (eP pIx (aCons (uVar 0) (aCons (uV (eC (.int 0))) aNil)))) (aCons (uVar 1) aNil))) (tgN 2)) (sSeq (sSetIx (eP pDiv (aCons (uV (eP pIx (aCons (uVar 0) (aCons (uV (eC (.int 0))) aNil)))) (aCons (uVar 1) aNil))) (uVar 0) (uV (eC (.int 0)))) (sRet (eOf (uVar 2))))) sNext) (sSeq (sSetIx (eP pAdd (aCons (uV (eP pIx (aCons (uVar 0) (aCons (uV (eC (.int 2))) aNil)))) (aCons (uV (eC (.int 1))) aNil))) (uVar 0) (uV (eC (.int 2)))) (sSeq (sAsg (eP pMod (aCons (uV (eP pPow (aCons (uV (eP pAdd (aCons (uV (eP pIx (aCons (uVar 0) (aCons (uV (eC (.int 1))) aNil)))) (aCons (uV (eP pMul (aCons (uV (eC (.int 39373))) (aCons (uV (eP pIx (aCons (uVar 0) (aCons (uV (eC (.int 2))) aNil)))) aNil)))) aNil)))) (aCons (uV (eC (.int 5))) aNil)))) (aCons (uV (eC (.int 2147483647))) aNil))) (tgN 3)) (sSeq (sAsg (eP pMod (aCons (uV (eP pMul (aCons (uV (eP pAdd (aCons (uVar 3) (aCons (uV (eP pIx (aCons (uVar 0) (aCons (uV (eC (.int 2))) aNil)))) aNil)))) (aCons (uV (eP pAdd (aCons (uV (eP pAdd (aCons (uV (eP pMod (aCons (uVar 3) (aCons (uV (eC (.int 40009))) aNil)))) (aCons (uV (eC (.int 7))) aNil)))) (aCons (uV (eP pIx (aCons (uVar 0) (aCons (uV (eC (.int 2))) aNil)))) aNil)))) aNil)))) (aCons (uV (eC (.int 2147483629))) aNil))) (tgN 4)) (sSeq (sAsg (eP pMod (aCons (uV (eP pAdd (aCons (uV (eP pAdd (aCons (uV (eP pDiv (aCons (uV (eP pIx (aCons (uVar 0) (aCons (uV (eC (.int 1))) aNil)))) (aCons (uV (eC (.int 2147483647))) aNil)))) (aCons (uV (eP pMul (aCons (uVar 4) (aCons (uV (eC (.int 40009))) aNil)))) aNil)))) (aCons (uV (eP pIx (aCons (uVar 0) (aCons (uV (eC (.int 2))) aNil)))) aNil)))) (aCons (uV (eC (.int 2305843009213693951))) aNil))) (tgN 5)) (sRet (eP pMod (aCons (uV (eP pDiv (aCons (uV (eP pMod (aCons (uV (eP pAdd (aCons (uV (eP pAdd (aCons (uV (eP pMul (aCons (uVar 4) (aCons (uV (eC (.int 48271))) aNil)))) (aCons (uV (eP pMul (aCons (uVar 5) (aCons (uV (eC (.int 39373))) aNil)))) aNil)))) (aCons (uVar 3) aNil)))) (aCons (uV (eC (.int 2305843009213693921))) aNil)))) (aCons (uV (eC (.int 64))) aNil)))) (aCons (uVar 1) aNil)))))))))
def m_law_draw : FS := defF 2 6 P_law_draw b_law_draw
theorem ok_law_draw {P : Program} {w : World} {K : PySem.W.Frag} {mg : Str → Option Value} {base : Heap} {f : Addr} {fd : FuncData} (F : FunD K "_law_draw" "_law_draw" (defArgs (top 33)) (defBody (top 33)) (defScope (top 33)) [] [] f fd) : FnOk P w K mg base (L2.CX P w) 1 f fd ["_law_tape_here", "_law_many"] (SpF K 2 m_law_draw) :=
  fn_sim F sc_law_draw rfl rfl fun cdv A outer s H E hr => by
    have nd := sc_law_draw.nd
    exact (sim_bcons (sim_if (sim_tgt (sim_ix (sim_var 0) sim_int) sim_int) (sim_bcons (sim_set nd rfl (by first | exact Or.inl rfl | exact Or.inr rfl) rfl (sim_mod (sim_ix (sim_var 0) sim_int) (sim_var 1))) (sim_bcons (sim_setIx (sim_div (sim_ix (sim_var 0) sim_int) (sim_var 1)) (sim_var 0) sim_int) (sim_bone (sim_ret (sim_of (sim_var 2)))))) sim_bnil) (sim_bcons (sim_setIx (sim_add (sim_ix (sim_var 0) sim_int) sim_int) (sim_var 0) sim_int) (sim_bcons (sim_set nd rfl (by first | exact Or.inl rfl | exact Or.inr rfl) rfl (sim_mod (sim_pow (sim_add (sim_ix (sim_var 0) sim_int) (sim_mul sim_int (sim_ix (sim_var 0) sim_int))) sim_int) sim_int)) (sim_bcons (sim_set nd rfl (by first | exact Or.inl rfl | exact Or.inr rfl) rfl (sim_mod (sim_mul (sim_add (sim_var 3) (sim_ix (sim_var 0) sim_int)) (sim_add (sim_add (sim_mod (sim_var 3) sim_int) sim_int) (sim_ix (sim_var 0) sim_int))) sim_int)) (sim_bcons (sim_set nd rfl (by first | exact Or.inl rfl | exact Or.inr rfl) rfl (sim_mod (sim_add (sim_add (sim_div (sim_ix (sim_var 0) sim_int) sim_int) (sim_mul (sim_var 4) sim_int)) (sim_ix (sim_var 0) sim_int)) sim_int)) (sim_bone (sim_ret (sim_mod (sim_div (sim_mod (sim_add (sim_add (sim_mul (sim_var 4) sim_int) (sim_mul (sim_var 5) sim_int)) (sim_var 3)) sim_int) sim_int) (sim_var 1)))))))))

/-! ### _law_folded -/
def n_law_folded : List Str := ["_law_script", "_law_many", "_law_cells", "_law_k", "_law_cell"]
theorem sc_law_folded : FnScope n_law_folded ["_law_script", "_law_many"] (defScope (top 34)) := ⟨rfl, rfl, rfl, by decide +kernel, rfl, by decide +kernel, by decide +kernel⟩
def P_law_folded : Nat → Bool := fun i => [0, 1].contains i
def k_law_folded_1 : SS := (sSetIx (eP pAdd (aCons (uV (eP pIx (aCons (uVar 2) (aCons (uV (eP pMod (aCons (uVar 3) (aCons (uVar 1) aNil)))) aNil)))) (aCons (uV (eP pMul (aCons (uVar 4) (aCons (uV (eP pAdd (aCons (uVar 3) (aCons (uV (eC (.int 2))) aNil)))) aNil)))) aNil))) (uVar 2) (uV (eP pMod (aCons (uVar 3) (aCons (uVar 1) aNil)))))
def l_law_folded_2 : SS := sFor (iOf enAny (uV (eP pSl11 (aCons (uVar 0) (aCons (uInt (uVar 1)) (aCons (uInt (uV (eC (.int 63)))) aNil)))))) (tgT (tgCons (tgN 3) (tgCons (tgN 4) tgNil))) (sWp [3, 4] k_law_folded_1)
def b_law_folded : SS := (sSeq (sAsg (eP pList (aCons (uV (eP pSl01 (aCons (uVar 0) (aCons (uInt (uVar 1)) aNil)))) aNil)) (tgN 2)) (sSeq (sDp [3, 4] l_law_folded_2) (sRet (eMove 2))))
def m_law_folded : FS := defF 2 5 P_law_folded b_law_folded
theorem ok_law_folded {P : Program} {w : World} {K : PySem.W.Frag} {mg : Str → Option Value} {base : Heap} {f : Addr} {fd : FuncData} (F : FunD K "_law_folded" "_law_folded" (defArgs (top 34)) (defBody (top 34)) (defScope (top 34)) [] [] f fd) (u_enumerate : mg "enumerate" = none) (u_list : mg "list" = none) : FnOk P w K mg base (L2.CX P w) 1 f fd ["_law_script", "_law_many"] (SpF K 2 m_law_folded) :=
  fn_sim F sc_law_folded rfl rfl fun cdv A outer s H E hr => by
    have nd := sc_law_folded.nd
    exact (sim_bcons (sim_set nd rfl (by first | exact Or.inl rfl | exact Or.inr rfl) rfl (sim_bty call_list_of pr_list (by decide +kernel : bootBuiltins "list" = some (.type "list")) rfl u_list (sim_cons (sim_sl01 (sim_var 0) (sim_var 1)) sim_nil))) (sim_bcons (sim_dp (sim_for (passes_of rfl) rfl (sim_ienAny rfl u_enumerate (sim_sl11 (sim_var 0) (sim_var 1) sim_int)) (sim_gtup rfl (sim_gcons (sim_gname nd rfl (by first | exact Or.inl rfl | exact Or.inr rfl) rfl) (sim_gcons (sim_gname nd rfl (by first | exact Or.inl rfl | exact Or.inr rfl) rfl) sim_gnil)) rfl rfl (len_cons (len_cons len_nil))) (sim_wp (sim_bone (sim_setIx (sim_add (sim_ix (sim_var 2) (sim_mod (sim_var 3) (sim_var 1))) (sim_mul (sim_var 4) (sim_add (sim_var 3) sim_int))) (sim_var 2) (sim_mod (sim_var 3) (sim_var 1))))))) (sim_bone (sim_ret (sim_move 2)))))

/-! ### _law_names -/
def n_law_names : List Str := ["_law_tape_here", "_law_many", "_law_letters", "_law_shift", "_law_stem", "_law_at", "_law_step", "_law_found", "_law_head", "_law_tail", "_law_k", "_law_way", "_law_sign"]
theorem sc_law_names : FnScope n_law_names ["_law_tape_here", "_law_many"] (defScope (top 35)) := ⟨rfl, rfl, rfl, by decide +kernel, rfl, by decide +kernel, by decide +kernel⟩
def P_law_names : Nat → Bool := fun i => [0, 1].contains i
def k_law_names_1 : SS := (sSeq (sAsg (eP pMulX (aCons (uV (eP pMod (aCons (uV (eP pAdd (aCons (uV (eP pAdd (aCons (uVar 3) (aCons (uVar 5) aNil)))) (aCons (uV (eP pLen (aCons (uVar 4) aNil))) aNil)))) (aCons (uV (eC (.int 3))) aNil)))) (aCons (uV (eP pInt (aCons (uV (eP pNe (aCons (uVar 9) (aCons (uV (eC (.str ""))) aNil)))) aNil))) aNil))) (tgN 11)) (sSeq (sAsg (eCold (eP pIx (aCons (uVar 2) (aCons (uV (eP pMod (aCons (uV (eP pAdd (aCons (uVar 3) (aCons (uV (eP pMulX (aCons (uVar 6) (aCons (uV (eP pIx (aCons (uV (eLst (aCons (uV (eOf (uVar 10))) (aCons (uV (eP pDiv (aCons (uVar 10) (aCons (uV (eC (.int 2))) aNil)))) (aCons (uV (eOf (uVar 10))) aNil))))) (aCons (uVar 11) aNil)))) aNil)))) aNil)))) (aCons (uV (eC (.int 26))) aNil)))) aNil)))) (tgN 12)) (sExpr (uV (eCall mApp [] (aCons (uChk "list" (uVar 7)) (aCons (uV (eP pAdd (aCons (uV (eP pAdd (aCons (uVar 8) (aCons (uVar 12) aNil)))) (aCons (uV (eP pIx (aCons (uV (eLst (aCons (uV (eOf (uVar 9))) (aCons (uV (eP pMulX (aCons (uVar 9) (aCons (uV (eP pMod (aCons (uVar 10) (aCons (uV (eC (.int 2))) aNil)))) aNil)))) (aCons (uV (eP pSl01 (aCons (uVar 9) (aCons (uInt (uV (eP pMod (aCons (uVar 10) (aCons (uV (eP pAdd (aCons (uV (eP pLen (aCons (uVar 9) aNil))) (aCons (uV (eC (.int 1))) aNil)))) aNil))))) aNil)))) aNil))))) (aCons (uVar 11) aNil)))) aNil)))) aNil)))))))
def l_law_names_2 : SS := sFor (iInts rg1 (aCons (uVar 1) aNil)) (tgN 10) (sWp [10, 11, 12] k_law_names_1)
def c_law_names_3 : SE := eLc (iInts rg1 (aCons (uV (eCall m_law_draw [] (aCons (uVar 0) (aCons (uV (eC (.int 8))) aNil)))) aNil)) (tgN 10) tYesB (eCold (eP pIx (aCons (uVar 2) (aCons (uV (eCall m_law_draw [] (aCons (uVar 0) (aCons (uV (eC (.int 26))) aNil)))) aNil)))) [10]
def b_law_names : SS := (sSeq (sAsg (eTup (aCons (uV (eC (.str "abcdefghijklmnopqrstuvwxyz"))) (aCons (uV (eCold (eCall m_law_draw [] (aCons (uVar 0) (aCons (uV (eC (.int 26))) aNil))))) aNil))) (tgT (tgCons (tgN 2) (tgCons (tgN 3) tgNil)))) (sSeq (sAsg (eCold (eP pJoin (aCons (uStr (uV (eC (.str "")))) (aCons (uV c_law_names_3) aNil)))) (tgN 4)) (sSeq (sPar3 5 6 7 (aCons (uV (eCold (eCall m_law_draw [] (aCons (uVar 0) (aCons (uV (eP pAdd (aCons (uV (eP pLen (aCons (uVar 4) aNil))) (aCons (uV (eC (.int 1))) aNil)))) aNil))))) (aCons (uV (eCold (eP pIx (aCons (uV (eLst (aCons (uV (eC (.int 1))) (aCons (uV (eC (.int 7))) (aCons (uV (eC (.int 25))) aNil))))) (aCons (uV (eCall m_law_draw [] (aCons (uVar 0) (aCons (uV (eC (.int 3))) aNil)))) aNil))))) (aCons (uV (eLst aNil)) aNil)))) (sSeq (sPar 8 9 (aCons (uV (eCold (eP pSl01 (aCons (uVar 4) (aCons (uInt (uVar 5)) aNil))))) (aCons (uV (eCold (eP pSl10 (aCons (uVar 4) (aCons (uInt (uVar 5)) aNil))))) aNil))) (sSeq (sDp [10, 11, 12] l_law_names_2) (sRet (eMove 7)))))))
def m_law_names : FS := defF 2 13 P_law_names b_law_names
theorem ok_law_names {P : Program} {w : World} {K : PySem.W.Frag} {mg : Str → Option Value} {base : Heap} {f : Addr} {fd : FuncData} (F : FunD K "_law_names" "_law_names" (defArgs (top 35)) (defBody (top 35)) (defScope (top 35)) [] [] f fd) {f_law_draw : Addr} {fd_law_draw : FuncData} (O_law_draw : FnOk P w K mg base (L2.CX P w) 1 f_law_draw fd_law_draw ["_law_tape_here", "_law_many"] (SpF K 2 m_law_draw)) (g_law_draw : mg "_law_draw" = some (.ref f_law_draw)) (k_law_draw : PySem.W.keepIn K (.ref f_law_draw) = true) (B_law_draw : Binds K fd_law_draw ["_law_tape_here", "_law_many"] []) (u_int : mg "int" = none) (u_len : mg "len" = none) (u_range : mg "range" = none) : FnOk P w K mg base (L2.CX P w) 2 f fd ["_law_tape_here", "_law_many"] (SpF K 2 m_law_names) :=
  fn_sim F sc_law_names rfl rfl fun cdv A outer s H E hr => by
    have nd := sc_law_names.nd
    exact (sim_bcons (sim_asg (sim_tup (sim_cons sim_str (sim_cons (sim_cold (sim_call (O_law_draw.mono (by decide)) hr rfl g_law_draw k_law_draw B_law_draw .nil .nil (sim_cons (sim_var 0) (sim_cons sim_int sim_nil)) (lenA_cons (lenA_cons lenA_nil)) rfl)) sim_nil))) (sim_gtup rfl (sim_gcons (sim_gname nd rfl (by first | exact Or.inl rfl | exact Or.inr rfl) rfl) (sim_gcons (sim_gname nd rfl (by first | exact Or.inl rfl | exact Or.inr rfl) rfl) sim_gnil)) rfl rfl (len_cons (len_cons len_nil)))) (sim_bcons (sim_set nd rfl (by first | exact Or.inl rfl | exact Or.inr rfl) rfl (sim_cold (sim_join sim_str (sim_lc (own := [("_law_k", 10)]) rfl nd (sim_irg1 rfl u_range (sim_cons (sim_call (O_law_draw.mono (by decide)) hr rfl g_law_draw k_law_draw B_law_draw .nil .nil (sim_cons (sim_var 0) (sim_cons sim_int sim_nil)) (lenA_cons (lenA_cons lenA_nil)) rfl) sim_nil)) (blkOk_by (by kernel_rfl)) (fun _ _ _ _ _ => (sim_gname nd rfl (by first | exact Or.inl rfl | exact Or.inr rfl) rfl)) (fun _ _ _ _ _ => sim_ts0) (fun _ _ _ _ _ => (sim_cold (sim_ix (sim_var 2) (sim_call (O_law_draw.mono (by decide)) hr rfl g_law_draw k_law_draw B_law_draw .nil .nil (sim_cons (sim_var 0) (sim_cons sim_int sim_nil)) (lenA_cons (lenA_cons lenA_nil)) rfl)))))))) (sim_bcons (sim_par3 rfl rfl rfl (sim_cons (sim_cold (sim_call (O_law_draw.mono (by decide)) hr rfl g_law_draw k_law_draw B_law_draw .nil .nil (sim_cons (sim_var 0) (sim_cons (sim_add (sim_blt call_len pr_len boot_len rfl u_len (sim_cons (sim_var 4) sim_nil)) sim_int) sim_nil)) (lenA_cons (lenA_cons lenA_nil)) rfl)) (sim_cons (sim_cold (sim_ix (sim_lst (sim_cons sim_int (sim_cons sim_int (sim_cons sim_int sim_nil)))) (sim_call (O_law_draw.mono (by decide)) hr rfl g_law_draw k_law_draw B_law_draw .nil .nil (sim_cons (sim_var 0) (sim_cons sim_int sim_nil)) (lenA_cons (lenA_cons lenA_nil)) rfl))) (sim_cons (sim_lst sim_nil) sim_nil))) (fun t ht => ps_par3 rfl nd rfl rfl rfl (by decide) (by decide) (by decide) rfl rfl rfl ht (by rfl))) (sim_bcons (sim_par rfl nd rfl rfl (by decide) rfl rfl rfl rfl (sim_cons (sim_cold (sim_sl01 (sim_var 4) (sim_var 5))) (sim_cons (sim_cold (sim_sl10 (sim_var 4) (sim_var 5))) sim_nil)) (fun t ht => ps_par rfl nd rfl rfl (by decide) rfl rfl ht (by rfl))) (sim_bcons (sim_dp (sim_for (passes_of rfl) rfl (sim_irg1 rfl u_range (sim_cons (sim_var 1) sim_nil)) (sim_gname nd rfl (by first | exact Or.inl rfl | exact Or.inr rfl) rfl) (sim_wp (sim_bcons (sim_set nd rfl (by first | exact Or.inl rfl | exact Or.inr rfl) rfl (sim_mulX (sim_mod (sim_add (sim_add (sim_var 3) (sim_var 5)) (sim_blt call_len pr_len boot_len rfl u_len (sim_cons (sim_var 4) sim_nil))) sim_int) (sim_bty call_int1 pr_int (by decide +kernel : bootBuiltins "int" = some (.type "int")) rfl u_int (sim_cons (sim_ne hr.units (sim_var 9) sim_str) sim_nil)))) (sim_bcons (sim_set nd rfl (by first | exact Or.inl rfl | exact Or.inr rfl) rfl (sim_cold (sim_ix (sim_var 2) (sim_mod (sim_add (sim_var 3) (sim_mulX (sim_var 6) (sim_ix (sim_lst (sim_cons (sim_of (sim_var 10)) (sim_cons (sim_div (sim_var 10) sim_int) (sim_cons (sim_of (sim_var 10)) sim_nil)))) (sim_var 11)))) sim_int)))) (sim_bone (sim_expr (sim_mt PySem.F.plainAttrs_list PySem.F.slot_list_append PySem.F.type_list_append mt_append ms_app (sim_var 7) (sim_cons (sim_add (sim_add (sim_var 8) (sim_var 12)) (sim_ix (sim_lst (sim_cons (sim_of (sim_var 9)) (sim_cons (sim_mulX (sim_var 9) (sim_mod (sim_var 10) sim_int)) (sim_cons (sim_sl01 (sim_var 9) (sim_mod (sim_var 10) (sim_add (sim_blt call_len pr_len boot_len rfl u_len (sim_cons (sim_var 9) sim_nil)) sim_int))) sim_nil)))) (sim_var 11))) sim_nil) (lenA_cons lenA_nil) rfl)))))))) (sim_bone (sim_ret (sim_move 7))))))))

/-! ### _law_takes -/
def n_law_takes : List Str := ["_law_tape_here", "_law_most", "_law_way", "_law_base", "_law_kind"]
theorem sc_law_takes : FnScope n_law_takes ["_law_tape_here", "_law_most"] (defScope (top 36)) := ⟨rfl, rfl, rfl, by decide +kernel, rfl, by decide +kernel, by decide +kernel⟩
def P_law_takes : Nat → Bool := fun i => [0, 1].contains i
def c_law_takes_1 : SE := eLc (iInts rg1 (aCons (uV (eC (.int 4))) aNil)) (tgN 4) tYesB (eP pAdd (aCons (uV (eC (.int 1))) (aCons (uV (eCall m_law_draw [] (aCons (uVar 0) (aCons (uV (eP pIx (aCons (uV (eLst (aCons (uV (eP pMin2 (aCons (uVar 1) (aCons (uV (eC (.int 4))) aNil)))) (aCons (uV (eP pMin2 (aCons (uVar 1) (aCons (uV (eC (.int 12))) aNil)))) (aCons (uV (eOf (uVar 1))) aNil))))) (aCons (uV (eP pSub (aCons (uVar 2) (aCons (uV (eC (.int 1))) aNil)))) aNil)))) aNil)))) aNil))) [4]
def c_law_takes_2 : SE := eLc (iInts rg1 (aCons (uV (eC (.int 4))) aNil)) (tgN 4) tYesB (eOf (uVar 3)) [4]
def b_law_takes : SS := (sSeq (sAsg (eTup (aCons (uV (eCold (eCall m_law_draw [] (aCons (uVar 0) (aCons (uV (eC (.int 4))) aNil))))) (aCons (uV (eCold (eP pAdd (aCons (uV (eC (.int 1))) (aCons (uV (eCall m_law_draw [] (aCons (uVar 0) (aCons (uV (eP pMin2 (aCons (uVar 1) (aCons (uV (eC (.int 6))) aNil)))) aNil)))) aNil))))) aNil))) (tgT (tgCons (tgN 2) (tgCons (tgN 3) tgNil)))) (sSeq (sIf (bOf (eP pEq (aCons (uVar 2) (aCons (uV (eC (.int 0))) aNil)))) (sRet (eP pTuple (aCons (uV c_law_takes_2) aNil))) sNext) (sRet (eP pTuple (aCons (uV c_law_takes_1) aNil)))))
def m_law_takes : FS := defF 2 5 P_law_takes b_law_takes
theorem ok_law_takes {P : Program} {w : World} {K : PySem.W.Frag} {mg : Str → Option Value} {base : Heap} {f : Addr} {fd : FuncData} (F : FunD K "_law_takes" "_law_takes" (defArgs (top 36)) (defBody (top 36)) (defScope (top 36)) [] [] f fd) {f_law_draw : Addr} {fd_law_draw : FuncData} (O_law_draw : FnOk P w K mg base (L2.CX P w) 1 f_law_draw fd_law_draw ["_law_tape_here", "_law_many"] (SpF K 2 m_law_draw)) (g_law_draw : mg "_law_draw" = some (.ref f_law_draw)) (k_law_draw : PySem.W.keepIn K (.ref f_law_draw) = true) (B_law_draw : Binds K fd_law_draw ["_law_tape_here", "_law_many"] []) (u_min : mg "min" = none) (u_range : mg "range" = none) (u_tuple : mg "tuple" = none) : FnOk P w K mg base (L2.CX P w) 2 f fd ["_law_tape_here", "_law_most"] (SpF K 2 m_law_takes) :=
  fn_sim F sc_law_takes rfl rfl fun cdv A outer s H E hr => by
    have nd := sc_law_takes.nd
    exact (sim_bcons (sim_asg (sim_tup (sim_cons (sim_cold (sim_call (O_law_draw.mono (by decide)) hr rfl g_law_draw k_law_draw B_law_draw .nil .nil (sim_cons (sim_var 0) (sim_cons sim_int sim_nil)) (lenA_cons (lenA_cons lenA_nil)) rfl)) (sim_cons (sim_cold (sim_add sim_int (sim_call (O_law_draw.mono (by decide)) hr rfl g_law_draw k_law_draw B_law_draw .nil .nil (sim_cons (sim_var 0) (sim_cons (sim_blt (call_min2 rfl) pr_min2 PyProof.Rows.boot_min rfl u_min (sim_cons (sim_var 1) (sim_cons sim_int sim_nil))) sim_nil)) (lenA_cons (lenA_cons lenA_nil)) rfl))) sim_nil))) (sim_gtup rfl (sim_gcons (sim_gname nd rfl (by first | exact Or.inl rfl | exact Or.inr rfl) rfl) (sim_gcons (sim_gname nd rfl (by first | exact Or.inl rfl | exact Or.inr rfl) rfl) sim_gnil)) rfl rfl (len_cons (len_cons len_nil)))) (sim_bcons (sim_if (sim_teq hr.units (sim_var 2) sim_int) (sim_bone (sim_ret (sim_bty call_tuple_of pr_tuple (by decide +kernel : bootBuiltins "tuple" = some (.type "tuple")) rfl u_tuple (sim_cons (sim_lc (own := [("_law_kind", 4)]) rfl nd (sim_irg1 rfl u_range (sim_cons sim_int sim_nil)) (blkOk_by (by kernel_rfl)) (fun _ _ _ _ _ => (sim_gname nd rfl (by first | exact Or.inl rfl | exact Or.inr rfl) rfl)) (fun _ _ _ _ _ => sim_ts0) (fun _ _ _ _ _ => (sim_of (sim_var 3)))) sim_nil)))) sim_bnil) (sim_bone (sim_ret (sim_bty call_tuple_of pr_tuple (by decide +kernel : bootBuiltins "tuple" = some (.type "tuple")) rfl u_tuple (sim_cons (sim_lc (own := [("_law_kind", 4)]) rfl nd (sim_irg1 rfl u_range (sim_cons sim_int sim_nil)) (blkOk_by (by kernel_rfl)) (fun _ _ _ _ _ => (sim_gname nd rfl (by first | exact Or.inl rfl | exact Or.inr rfl) rfl)) (fun _ _ _ _ _ => sim_ts0) (fun _ _ _ _ _ => (sim_add sim_int (sim_call (O_law_draw.mono (by decide)) hr rfl g_law_draw k_law_draw B_law_draw .nil .nil (sim_cons (sim_var 0) (sim_cons (sim_ix (sim_lst (sim_cons (sim_blt (call_min2 rfl) pr_min2 PyProof.Rows.boot_min rfl u_min (sim_cons (sim_var 1) (sim_cons sim_int sim_nil))) (sim_cons (sim_blt (call_min2 rfl) pr_min2 PyProof.Rows.boot_min rfl u_min (sim_cons (sim_var 1) (sim_cons sim_int sim_nil))) (sim_cons (sim_of (sim_var 1)) sim_nil)))) (sim_sub (sim_var 2) sim_int)) sim_nil)) (lenA_cons (lenA_cons lenA_nil)) rfl)))) sim_nil))))))

/-! ### _law_hands -/
def n_law_hands : List Str := ["_law_tape_here", "_law_kind"]
theorem sc_law_hands : FnScope n_law_hands ["_law_tape_here"] (defScope (top 37)) := ⟨rfl, rfl, rfl, by decide +kernel, rfl, by decide +kernel, by decide +kernel⟩
def P_law_hands : Nat → Bool := fun i => [0].contains i
def c_law_hands_1 : SE := eLc (iInts rg1 (aCons (uV (eC (.int 4))) aNil)) (tgN 1) tYesB (eP pAdd (aCons (uV (eC (.int 1))) (aCons (uV (eCall m_law_draw [] (aCons (uVar 0) (aCons (uV (eC (.int 4))) aNil)))) aNil))) [1]
def b_law_hands : SS := (sSeq (sIf (bOf (eP pEq (aCons (uV (eCall m_law_draw [] (aCons (uVar 0) (aCons (uV (eC (.int 3))) aNil)))) (aCons (uV (eC (.int 0))) aNil)))) (sRet (eTup (aCons (uV (eC (.int 1))) (aCons (uV (eC (.int 1))) (aCons (uV (eC (.int 1))) (aCons (uV (eC (.int 1))) aNil)))))) sNext) (sRet (eP pTuple (aCons (uV c_law_hands_1) aNil))))
def m_law_hands : FS := defF 1 2 P_law_hands b_law_hands
theorem ok_law_hands {P : Program} {w : World} {K : PySem.W.Frag} {mg : Str → Option Value} {base : Heap} {f : Addr} {fd : FuncData} (F : FunD K "_law_hands" "_law_hands" (defArgs (top 37)) (defBody (top 37)) (defScope (top 37)) [] [] f fd) {f_law_draw : Addr} {fd_law_draw : FuncData} (O_law_draw : FnOk P w K mg base (L2.CX P w) 1 f_law_draw fd_law_draw ["_law_tape_here", "_law_many"] (SpF K 2 m_law_draw)) (g_law_draw : mg "_law_draw" = some (.ref f_law_draw)) (k_law_draw : PySem.W.keepIn K (.ref f_law_draw) = true) (B_law_draw : Binds K fd_law_draw ["_law_tape_here", "_law_many"] []) (u_range : mg "range" = none) (u_tuple : mg "tuple" = none) : FnOk P w K mg base (L2.CX P w) 2 f fd ["_law_tape_here"] (SpF K 1 m_law_hands) :=
  fn_sim F sc_law_hands rfl rfl fun cdv A outer s H E hr => by
    have nd := sc_law_hands.nd
    exact (sim_bcons (sim_if (sim_teq hr.units (sim_call (O_law_draw.mono (by decide)) hr rfl g_law_draw k_law_draw B_law_draw .nil .nil (sim_cons (sim_var 0) (sim_cons sim_int sim_nil)) (lenA_cons (lenA_cons lenA_nil)) rfl) sim_int) (sim_bone (sim_ret (sim_tup (sim_cons sim_int (sim_cons sim_int (sim_cons sim_int (sim_cons sim_int sim_nil))))))) sim_bnil) (sim_bone (sim_ret (sim_bty call_tuple_of pr_tuple (by decide +kernel : bootBuiltins "tuple" = some (.type "tuple")) rfl u_tuple (sim_cons (sim_lc (own := [("_law_kind", 1)]) rfl nd (sim_irg1 rfl u_range (sim_cons sim_int sim_nil)) (blkOk_by (by kernel_rfl)) (fun _ _ _ _ _ => (sim_gname nd rfl (by first | exact Or.inl rfl | exact Or.inr rfl) rfl)) (fun _ _ _ _ _ => sim_ts0) (fun _ _ _ _ _ => (sim_add sim_int (sim_call (O_law_draw.mono (by decide)) hr rfl g_law_draw k_law_draw B_law_draw .nil .nil (sim_cons (sim_var 0) (sim_cons sim_int sim_nil)) (lenA_cons (lenA_cons lenA_nil)) rfl)))) sim_nil)))))

/-! ### _law_asks -/
def n_law_asks : List Str := ["_law_tape_here", "_law_many", "_law_way", "_law_beat", "_law_found", "_law_turn"]
theorem sc_law_asks : FnScope n_law_asks ["_law_tape_here", "_law_many"] (defScope (top 38)) := ⟨rfl, rfl, rfl, by decide +kernel, rfl, by decide +kernel, by decide +kernel⟩
def P_law_asks : Nat → Bool := fun i => [0, 1].contains i
def k_law_asks_1 : SS := (sSeq (sExpr (uV (eCall mApp [] (aCons (uChk "list" (uVar 4)) (aCons (uV (eOf (uVar 3))) aNil))))) (sAsg (eP pAdd (aCons (uVar 3) (aCons (uV (eP pIx (aCons (uV (eLst (aCons (uV (eC (.int 0))) (aCons (uV (eCall m_law_draw [] (aCons (uVar 0) (aCons (uV (eC (.int 3))) aNil)))) (aCons (uV (eCall m_law_draw [] (aCons (uVar 0) (aCons (uV (eC (.int 9))) aNil)))) (aCons (uV (eCall m_law_draw [] (aCons (uVar 0) (aCons (uV (eC (.int 60))) aNil)))) aNil)))))) (aCons (uVar 2) aNil)))) aNil))) (tgN 3)))
def l_law_asks_2 : SS := sFor (iInts rg1 (aCons (uVar 1) aNil)) (tgN 5) (sWp [5] k_law_asks_1)
def b_law_asks : SS := (sSeq (sPar3 2 3 4 (aCons (uV (eCold (eCall m_law_draw [] (aCons (uVar 0) (aCons (uV (eC (.int 4))) aNil))))) (aCons (uV (eCold (eCall m_law_draw [] (aCons (uVar 0) (aCons (uV (eC (.int 5))) aNil))))) (aCons (uV (eLst aNil)) aNil)))) (sSeq (sDp [5] l_law_asks_2) (sRet (eMove 4))))
def m_law_asks : FS := defF 2 6 P_law_asks b_law_asks
theorem ok_law_asks {P : Program} {w : World} {K : PySem.W.Frag} {mg : Str → Option Value} {base : Heap} {f : Addr} {fd : FuncData} (F : FunD K "_law_asks" "_law_asks" (defArgs (top 38)) (defBody (top 38)) (defScope (top 38)) [] [] f fd) {f_law_draw : Addr} {fd_law_draw : FuncData} (O_law_draw : FnOk P w K mg base (L2.CX P w) 1 f_law_draw fd_law_draw ["_law_tape_here", "_law_many"] (SpF K 2 m_law_draw)) (g_law_draw : mg "_law_draw" = some (.ref f_law_draw)) (k_law_draw : PySem.W.keepIn K (.ref f_law_draw) = true) (B_law_draw : Binds K fd_law_draw ["_law_tape_here", "_law_many"] []) (u_range : mg "range" = none) : FnOk P w K mg base (L2.CX P w) 2 f fd ["_law_tape_here", "_law_many"] (SpF K 2 m_law_asks) :=
  fn_sim F sc_law_asks rfl rfl fun cdv A outer s H E hr => by
    have nd := sc_law_asks.nd
    exact (sim_bcons (sim_par3 rfl rfl rfl (sim_cons (sim_cold (sim_call (O_law_draw.mono (by decide)) hr rfl g_law_draw k_law_draw B_law_draw .nil .nil (sim_cons (sim_var 0) (sim_cons sim_int sim_nil)) (lenA_cons (lenA_cons lenA_nil)) rfl)) (sim_cons (sim_cold (sim_call (O_law_draw.mono (by decide)) hr rfl g_law_draw k_law_draw B_law_draw .nil .nil (sim_cons (sim_var 0) (sim_cons sim_int sim_nil)) (lenA_cons (lenA_cons lenA_nil)) rfl)) (sim_cons (sim_lst sim_nil) sim_nil))) (fun t ht => ps_par3 rfl nd rfl rfl rfl (by decide) (by decide) (by decide) rfl rfl rfl ht (by rfl))) (sim_bcons (sim_dp (sim_for (passes_of rfl) rfl (sim_irg1 rfl u_range (sim_cons (sim_var 1) sim_nil)) (sim_gname nd rfl (by first | exact Or.inl rfl | exact Or.inr rfl) rfl) (sim_wp (sim_bcons (sim_expr (sim_mt PySem.F.plainAttrs_list PySem.F.slot_list_append PySem.F.type_list_append mt_append ms_app (sim_var 4) (sim_cons (sim_of (sim_var 3)) sim_nil) (lenA_cons lenA_nil) rfl)) (sim_bone (sim_set nd rfl (by first | exact Or.inl rfl | exact Or.inr rfl) rfl (sim_add (sim_var 3) (sim_ix (sim_lst (sim_cons sim_int (sim_cons (sim_call (O_law_draw.mono (by decide)) hr rfl g_law_draw k_law_draw B_law_draw .nil .nil (sim_cons (sim_var 0) (sim_cons sim_int sim_nil)) (lenA_cons (lenA_cons lenA_nil)) rfl) (sim_cons (sim_call (O_law_draw.mono (by decide)) hr rfl g_law_draw k_law_draw B_law_draw .nil .nil (sim_cons (sim_var 0) (sim_cons sim_int sim_nil)) (lenA_cons (lenA_cons lenA_nil)) rfl) (sim_cons (sim_call (O_law_draw.mono (by decide)) hr rfl g_law_draw k_law_draw B_law_draw .nil .nil (sim_cons (sim_var 0) (sim_cons sim_int sim_nil)) (lenA_cons (lenA_cons lenA_nil)) rfl) sim_nil))))) (sim_var 2))))))))) (sim_bone (sim_ret (sim_move 4)))))

/-! ### _law_last -/
def n_law_last : List Str := ["_law_runs", "_law_word", "_law_begins", "_law_beat"]
theorem sc_law_last : FnScope n_law_last ["_law_runs"] (defScope (top 39)) := ⟨rfl, rfl, rfl, by decide +kernel, rfl, by decide +kernel, by decide +kernel⟩
def P_law_last : Nat → Bool := fun i => [0].contains i
def c_law_last_1 : SE := eLc (iOf itAny (uVar 0)) (tgT (tgCons (tgN 1) (tgCons (tgN 2) (tgCons (tgN 3) tgNil)))) tYesB (eOf (uVar 3)) [1, 2, 3]
def b_law_last : SS := (sRet (eP pMaxL (aCons (uV c_law_last_1) aNil)))
def m_law_last : FS := defF 1 4 P_law_last b_law_last
theorem ok_law_last {P : Program} {w : World} {K : PySem.W.Frag} {mg : Str → Option Value} {base : Heap} {f : Addr} {fd : FuncData} (F : FunD K "_law_last" "_law_last" (defArgs (top 39)) (defBody (top 39)) (defScope (top 39)) [] [] f fd) (u_max : mg "max" = none) : FnOk P w K mg base (L2.CX P w) 1 f fd ["_law_runs"] (SpF K 1 m_law_last) :=
  fn_sim F sc_law_last rfl rfl fun cdv A outer s H E hr => by
    have nd := sc_law_last.nd
    exact (sim_bone (sim_ret (sim_blt (cr_max rfl) pr_maxL PyProof.Rows.boot_max rfl u_max (sim_cons (sim_lc (own := [("_law_word", 1), ("_law_begins", 2), ("_law_beat", 3)]) rfl nd (sim_iany (sim_var 0)) (blkOk_by (by kernel_rfl)) (fun _ _ _ _ _ => (sim_gtup rfl (sim_gcons (sim_gname nd rfl (by first | exact Or.inl rfl | exact Or.inr rfl) rfl) (sim_gcons (sim_gname nd rfl (by first | exact Or.inl rfl | exact Or.inr rfl) rfl) (sim_gcons (sim_gname nd rfl (by first | exact Or.inl rfl | exact Or.inr rfl) rfl) sim_gnil))) rfl rfl (len_cons (len_cons (len_cons len_nil))))) (fun _ _ _ _ _ => sim_ts0) (fun _ _ _ _ _ => (sim_of (sim_var 3)))) sim_nil))))

/-! ### _law_stretches_right -/
def n_law_stretches_right : List Str := ["_law_takes_here", "_law_hands_here", "_law_runs", "_law_kind", "_law_begins", "_law_at", "_law_begin", "_law_run"]
theorem sc_law_stretches_right : FnScope n_law_stretches_right ["_law_takes_here", "_law_hands_here", "_law_runs"] (defScope (top 40)) := ⟨rfl, rfl, rfl, by decide +kernel, rfl, by decide +kernel, by decide +kernel⟩
def P_law_stretches_right : Nat → Bool := fun i => [0, 1, 2].contains i
def k_law_stretches_right_1 : SS := (sIf (bOf (eP pLtI (aCons (uV (eP pSub (aCons (uVar 6) (aCons (uV (eP pIx (aCons (uVar 4) (aCons (uVar 5) aNil)))) aNil)))) (aCons (uV (eP pIx (aCons (uVar 0) (aCons (uVar 3) aNil)))) aNil)))) (sRet (eC (.bl false))) sNext)
def l_law_stretches_right_2 : SS := sFor (iOf enAny (uV (eP pSl10 (aCons (uVar 4) (aCons (uInt (uV (eP pIx (aCons (uVar 1) (aCons (uVar 3) aNil))))) aNil))))) (tgT (tgCons (tgN 5) (tgCons (tgN 6) tgNil))) (sWp [5, 6, 7] k_law_stretches_right_1)
def c_law_stretches_right_3 : SE := eLc (iOf itAny (uVar 2)) (tgN 7) tYesB (eCold (eP pIx (aCons (uV (eP pIx (aCons (uVar 7) (aCons (uV (eC (.int 1))) aNil)))) (aCons (uVar 3) aNil)))) [7]
def k_law_stretches_right_4 : SS := (sSeq (sAsg c_law_stretches_right_3 (tgN 4)) (sDp [5, 6, 7] l_law_stretches_right_2))
def l_law_stretches_right_5 : SS := sFor (iInts rg1 (aCons (uV (eC (.int 4))) aNil)) (tgN 3) (sWp [3, 4, 5, 6, 7] k_law_stretches_right_4)
def b_law_stretches_right : SS := (sSeq (sDp [3, 4, 5, 6, 7] l_law_stretches_right_5) (sRet (eC (.bl true))))
def m_law_stretches_right : FS := defF 3 8 P_law_stretches_right b_law_stretches_right
theorem ok_law_stretches_right {P : Program} {w : World} {K : PySem.W.Frag} {mg : Str → Option Value} {base : Heap} {f : Addr} {fd : FuncData} (F : FunD K "_law_stretches_right" "_law_stretches_right" (defArgs (top 40)) (defBody (top 40)) (defScope (top 40)) [] [] f fd) (u_enumerate : mg "enumerate" = none) (u_range : mg "range" = none) : FnOk P w K mg base (L2.CX P w) 1 f fd ["_law_takes_here", "_law_hands_here", "_law_runs"] (SpF K 3 m_law_stretches_right) :=
  fn_sim F sc_law_stretches_right rfl rfl fun cdv A outer s H E hr => by
    have nd := sc_law_stretches_right.nd
    exact (sim_bcons (sim_dp (sim_for (passes_of rfl) rfl (sim_irg1 rfl u_range (sim_cons sim_int sim_nil)) (sim_gname nd rfl (by first | exact Or.inl rfl | exact Or.inr rfl) rfl) (sim_wp (sim_bcons (sim_setLc (own := [("_law_run", 7)]) rfl nd rfl rfl rfl (by rfl) (sim_iany (sim_var 2)) (blkOk_by (by kernel_rfl)) (fun _ _ _ _ _ => (sim_gname nd rfl (by first | exact Or.inl rfl | exact Or.inr rfl) rfl)) (fun _ _ _ _ _ => sim_ts0) (fun _ _ _ _ _ => (sim_cold (sim_ix (sim_ix (sim_var 7) sim_int) (sim_var 3))))) (sim_bone (sim_dp (sim_for (passes_of rfl) rfl (sim_ienAny rfl u_enumerate (sim_sl10 (sim_var 4) (sim_ix (sim_var 1) (sim_var 3)))) (sim_gtup rfl (sim_gcons (sim_gname nd rfl (by first | exact Or.inl rfl | exact Or.inr rfl) rfl) (sim_gcons (sim_gname nd rfl (by first | exact Or.inl rfl | exact Or.inr rfl) rfl) sim_gnil)) rfl rfl (len_cons (len_cons len_nil))) (sim_wp (sim_bone (sim_if (sim_tlt (sim_sub (sim_var 6) (sim_ix (sim_var 4) (sim_var 5))) (sim_ix (sim_var 0) (sim_var 3))) (sim_bone (sim_ret sim_bl)) sim_bnil)))))))))) (sim_bone (sim_ret sim_bl)))

/-! ### _law_right -/
def n_law_right : List Str := ["_law_tape_here", "_law_gang", "_law_many", "_law_end", "_law_first", "_law_runs", "_law_holes", "_law_more", "_law_asks_here", "_law_run", "_law_hole", "_law_ask"]
theorem sc_law_right : FnScope n_law_right ["_law_tape_here", "_law_gang"] (defScope (top 41)) := ⟨rfl, rfl, rfl, by decide +kernel, rfl, by decide +kernel, by decide +kernel⟩
def P_law_right : Nat → Bool := fun i => [0, 1].contains i
def c_law_right_1 : SE := eLc (iOf itAny (uVar 5)) (tgN 9) tYesB (eP pLtI (aCons (uV (eP pIx (aCons (uV (eP pIx (aCons (uVar 9) (aCons (uV (eC (.int 1))) aNil)))) (aCons (uV (eC (.int 0))) aNil)))) (aCons (uV (eP pIx (aCons (uVar 8) (aCons (uV (eC (.int 0))) aNil)))) aNil))) [9]
def c_law_right_2 : SE := eLc (iOf itAny (uVar 5)) (tgN 9) tYesB (eCold (eP pIx (aCons (uVar 9) (aCons (uV (eC (.int 0))) aNil)))) [9]
def c_law_right_3 : SE := eLc (iOf itAny (uV (eCall m_law_asks [] (aCons (uVar 0) (aCons (uVar 2) aNil))))) (tgN 11) tYesB (eP pAdd (aCons (uVar 4) (aCons (uVar 11) aNil))) [11]
def k_law_right_4 : SS := (sSeq (sAsg c_law_right_3 (tgN 8)) (sSeq (sAsg (eCold (eCall mpassed [.non, .non] (aCons (uVar 1) (aCons (uVar 8) (aCons (uVar 7) aNil))))) (tgN 5)) (sSeq (sIf (tOrB (bOf (eP pNe (aCons (uV c_law_right_2) (aCons (uV (eP pMul (aCons (uV (eLst (aCons (uV (eC (.str "closed"))) aNil))) (aCons (uVar 2) aNil)))) aNil)))) (bOf (eP pLtI (aCons (uV (eCall m_law_last [] (aCons (uVar 5) aNil))) (aCons (uV (eP pAdd (aCons (uV (eP pIx (aCons (uVar 8) (aCons (uV (eC (.int 0))) aNil)))) (aCons (uVar 3) aNil)))) aNil))))) (sRet (eC (.bl false))) sNext) (sIf (tOrB (tNotB (tTru (uV (eCallP m_law_stretches_right [] (aCons (uV (eP (pFld c_Gang 1) (aCons (uVar 1) aNil))) (aCons (uV (eP (pFld c_Gang 2) (aCons (uVar 1) aNil))) (aCons (uVar 5) aNil))))))) (tTru (uV (eP pAny (aCons (uV c_law_right_1) aNil))))) (sRet (eC (.bl false))) sNext))))
def l_law_right_5 : SS := sFor (iOf itAny (uV (eTup (aCons (uV (eC .non)) (aCons (uV (eKeep 6)) aNil))))) (tgN 7) (sWp [5, 7, 8, 9, 10, 11] k_law_right_4)
def c_law_right_6 : SE := eLc (iInts rg1 (aCons (uV (eP pAdd (aCons (uV (eC (.int 1))) (aCons (uV (eCall m_law_draw [] (aCons (uVar 0) (aCons (uV (eC (.int 40))) aNil)))) aNil)))) aNil)) (tgN 10) tYesB (eCold (eP pIx (aCons (uV (eLst (aCons (uV (eC (.int 0))) (aCons (uV (eC (.int 0))) (aCons (uV (eCall m_law_draw [] (aCons (uVar 0) (aCons (uV (eC (.int 30))) aNil)))) aNil))))) (aCons (uV (eCall m_law_draw [] (aCons (uVar 0) (aCons (uV (eC (.int 3))) aNil)))) aNil)))) [10]
def c_law_right_7 : SE := eLc (iOf itAny (uVar 5)) (tgN 9) tYesB (eCold (eP pIx (aCons (uVar 9) (aCons (uV (eC (.int 0))) aNil)))) [9]
def b_law_right : SS := (sSeq (sAsg (eP pAdd (aCons (uV (eC (.int 1))) (aCons (uV (eCall m_law_draw [] (aCons (uVar 0) (aCons (uV (eP pIx (aCons (uV (eLst (aCons (uV (eC (.int 6))) (aCons (uV (eC (.int 80))) aNil)))) (aCons (uV (eCall m_law_draw [] (aCons (uVar 0) (aCons (uV (eC (.int 2))) aNil)))) aNil)))) aNil)))) aNil))) (tgN 2)) (sSeq (sAsg (eTup (aCons (uV (eCold (eCall mleast_end [] (aCons (uVar 1) (aCons (uVar 2) aNil))))) (aCons (uV (eCold (eCall m_law_draw [] (aCons (uVar 0) (aCons (uV (eC (.int 50))) aNil))))) aNil))) (tgT (tgCons (tgN 3) (tgCons (tgN 4) tgNil)))) (sSeq (sAsg (eCold (eCall mpassed [.non, .non, .non] (aCons (uVar 1) (aCons (uV (eCold (eP pMul (aCons (uV (eLst (aCons (uV (eC (.int 0))) aNil))) (aCons (uVar 2) aNil))))) aNil)))) (tgN 5)) (sSeq (sIf (tOrB (bOf (eP pNe (aCons (uV (eCall m_law_last [] (aCons (uVar 5) aNil))) (aCons (uVar 3) aNil)))) (bOf (eP pNe (aCons (uV c_law_right_7) (aCons (uV (eP pMul (aCons (uV (eLst (aCons (uV (eC (.str "closed"))) aNil))) (aCons (uVar 2) aNil)))) aNil))))) (sRet (eC (.bl false))) sNext) (sSeq (sAsg c_law_right_6 (tgN 6)) (sSeq (sDp [5, 7, 8, 9, 10, 11] l_law_right_5) (sRet (eC (.bl true)))))))))
def m_law_right : FS := defF 2 12 P_law_right b_law_right
theorem ok_law_right {P : Program} {w : World} {K : PySem.W.Frag} {mg : Str → Option Value} {base : Heap} {f : Addr} {fd : FuncData} (F : FunD K "_law_right" "_law_right" (defArgs (top 41)) (defBody (top 41)) (defScope (top 41)) [] [] f fd) {fpassed : Addr} {fdpassed : FuncData} (Opassed : FnOk P w K mg base (L2.CX P w) 3 fpassed fdpassed ["gang", "asks", "holes", "missed", "life"] (SpF K 5 mpassed)) (gpassed : mg "passed" = some (.ref fpassed)) (kpassed : PySem.W.keepIn K (.ref fpassed) = true) (Bpassed : Binds K fdpassed ["gang", "asks", "holes", "missed", "life"] []) {ddpassed : List Value} (Vpassed : Vals [.non, .non, .non] ddpassed) (Dpassed : Binds K fdpassed ["gang", "asks", "holes", "missed", "life"] ddpassed) {f_law_draw : Addr} {fd_law_draw : FuncData} (O_law_draw : FnOk P w K mg base (L2.CX P w) 1 f_law_draw fd_law_draw ["_law_tape_here", "_law_many"] (SpF K 2 m_law_draw)) (g_law_draw : mg "_law_draw" = some (.ref f_law_draw)) (k_law_draw : PySem.W.keepIn K (.ref f_law_draw) = true) (B_law_draw : Binds K fd_law_draw ["_law_tape_here", "_law_many"] []) {fleast_end : Addr} {fdleast_end : FuncData} (Oleast_end : FnOk P w K mg base (L2.CX P w) 4 fleast_end fdleast_end ["gang", "many"] (SpF K 2 mleast_end)) (gleast_end : mg "least_end" = some (.ref fleast_end)) (kleast_end : PySem.W.keepIn K (.ref fleast_end) = true) (Bleast_end : Binds K fdleast_end ["gang", "many"] []) {f_law_last : Addr} {fd_law_last : FuncData} (O_law_last : FnOk P w K mg base (L2.CX P w) 1 f_law_last fd_law_last ["_law_runs"] (SpF K 1 m_law_last)) (g_law_last : mg "_law_last" = some (.ref f_law_last)) (k_law_last : PySem.W.keepIn K (.ref f_law_last) = true) (B_law_last : Binds K fd_law_last ["_law_runs"] []) {f_law_asks : Addr} {fd_law_asks : FuncData} (O_law_asks : FnOk P w K mg base (L2.CX P w) 2 f_law_asks fd_law_asks ["_law_tape_here", "_law_many"] (SpF K 2 m_law_asks)) (g_law_asks : mg "_law_asks" = some (.ref f_law_asks)) (k_law_asks : PySem.W.keepIn K (.ref f_law_asks) = true) (B_law_asks : Binds K fd_law_asks ["_law_tape_here", "_law_many"] []) {f_law_stretches_right : Addr} {fd_law_stretches_right : FuncData} (O_law_stretches_right : FnOk P w K mg base (L2.CX P w) 1 f_law_stretches_right fd_law_stretches_right ["_law_takes_here", "_law_hands_here", "_law_runs"] (SpF K 3 m_law_stretches_right)) (g_law_stretches_right : mg "_law_stretches_right" = some (.ref f_law_stretches_right)) (k_law_stretches_right : PySem.W.keepIn K (.ref f_law_stretches_right) = true) (B_law_stretches_right : Binds K fd_law_stretches_right ["_law_takes_here", "_law_hands_here", "_law_runs"] []) {ddpassed_1 : List Value} (Vpassed_1 : Vals [.non, .non] ddpassed_1) (Dpassed_1 : Binds K fdpassed ["gang", "asks", "holes", "missed", "life"] ddpassed_1) (C_Gang : ClsOk K c_Gang) (u_any : mg "any" = none) (u_range : mg "range" = none) : FnOk P w K mg base (L2.CX P w) 5 f fd ["_law_tape_here", "_law_gang"] (SpF K 2 m_law_right) :=
  fn_sim F sc_law_right rfl rfl fun cdv A outer s H E hr => by
    have nd := sc_law_right.nd
    exact (sim_bcons (sim_set nd rfl (by first | exact Or.inl rfl | exact Or.inr rfl) rfl (sim_add sim_int (sim_call (O_law_draw.mono (by decide)) hr rfl g_law_draw k_law_draw B_law_draw .nil .nil (sim_cons (sim_var 0) (sim_cons (sim_ix (sim_lst (sim_cons sim_int (sim_cons sim_int sim_nil))) (sim_call (O_law_draw.mono (by decide)) hr rfl g_law_draw k_law_draw B_law_draw .nil .nil (sim_cons (sim_var 0) (sim_cons sim_int sim_nil)) (lenA_cons (lenA_cons lenA_nil)) rfl)) sim_nil)) (lenA_cons (lenA_cons lenA_nil)) rfl))) (sim_bcons (sim_asg (sim_tup (sim_cons (sim_cold (sim_call (Oleast_end.mono (by decide)) hr rfl gleast_end kleast_end Bleast_end .nil .nil (sim_cons (sim_var 1) (sim_cons (sim_var 2) sim_nil)) (lenA_cons (lenA_cons lenA_nil)) rfl)) (sim_cons (sim_cold (sim_call (O_law_draw.mono (by decide)) hr rfl g_law_draw k_law_draw B_law_draw .nil .nil (sim_cons (sim_var 0) (sim_cons sim_int sim_nil)) (lenA_cons (lenA_cons lenA_nil)) rfl)) sim_nil))) (sim_gtup rfl (sim_gcons (sim_gname nd rfl (by first | exact Or.inl rfl | exact Or.inr rfl) rfl) (sim_gcons (sim_gname nd rfl (by first | exact Or.inl rfl | exact Or.inr rfl) rfl) sim_gnil)) rfl rfl (len_cons (len_cons len_nil)))) (sim_bcons (sim_set nd rfl (by first | exact Or.inl rfl | exact Or.inr rfl) rfl (sim_cold (sim_call (Opassed.mono (by decide)) hr rfl gpassed kpassed Dpassed Vpassed (.cons rfl (.cons rfl (.cons rfl .nil))) (sim_cons (sim_var 1) (sim_cons (sim_cold (sim_mul (sim_lst (sim_cons sim_int sim_nil)) (sim_var 2))) sim_nil)) (lenA_cons (lenA_cons lenA_nil)) rfl))) (sim_bcons (sim_if (SimW.t (sim_wor (sim_tne hr.units (sim_call (O_law_last.mono (by decide)) hr rfl g_law_last k_law_last B_law_last .nil .nil (sim_cons (sim_var 5) sim_nil) (lenA_cons lenA_nil) rfl) (sim_var 3)) (sim_wor1 (sim_tne hr.units (sim_lc (own := [("_law_run", 9)]) rfl nd (sim_iany (sim_var 5)) (blkOk_by (by kernel_rfl)) (fun _ _ _ _ _ => (sim_gname nd rfl (by first | exact Or.inl rfl | exact Or.inr rfl) rfl)) (fun _ _ _ _ _ => sim_ts0) (fun _ _ _ _ _ => (sim_cold (sim_ix (sim_var 9) sim_int)))) (sim_mul (sim_lst (sim_cons sim_str sim_nil)) (sim_var 2)))))) (sim_bone (sim_ret sim_bl)) sim_bnil) (sim_bcons (sim_setLc (own := [("_law_hole", 10)]) rfl nd rfl rfl rfl (by rfl) (sim_irg1 rfl u_range (sim_cons (sim_add sim_int (sim_call (O_law_draw.mono (by decide)) hr rfl g_law_draw k_law_draw B_law_draw .nil .nil (sim_cons (sim_var 0) (sim_cons sim_int sim_nil)) (lenA_cons (lenA_cons lenA_nil)) rfl)) sim_nil)) (blkOk_by (by kernel_rfl)) (fun _ _ _ _ _ => (sim_gname nd rfl (by first | exact Or.inl rfl | exact Or.inr rfl) rfl)) (fun _ _ _ _ _ => sim_ts0) (fun _ _ _ _ _ => (sim_cold (sim_ix (sim_lst (sim_cons sim_int (sim_cons sim_int (sim_cons (sim_call (O_law_draw.mono (by decide)) hr rfl g_law_draw k_law_draw B_law_draw .nil .nil (sim_cons (sim_var 0) (sim_cons sim_int sim_nil)) (lenA_cons (lenA_cons lenA_nil)) rfl) sim_nil)))) (sim_call (O_law_draw.mono (by decide)) hr rfl g_law_draw k_law_draw B_law_draw .nil .nil (sim_cons (sim_var 0) (sim_cons sim_int sim_nil)) (lenA_cons (lenA_cons lenA_nil)) rfl))))) (sim_bcons (sim_dp (sim_for (passes_of rfl) rfl (sim_iany (sim_tup (sim_cons sim_non (sim_cons (sim_keep 6) sim_nil)))) (sim_gname nd rfl (by first | exact Or.inl rfl | exact Or.inr rfl) rfl) (sim_wp (sim_bcons (sim_set nd rfl (by first | exact Or.inl rfl | exact Or.inr rfl) rfl (sim_lc (own := [("_law_ask", 11)]) rfl nd (sim_iany (sim_call (O_law_asks.mono (by decide)) hr rfl g_law_asks k_law_asks B_law_asks .nil .nil (sim_cons (sim_var 0) (sim_cons (sim_var 2) sim_nil)) (lenA_cons (lenA_cons lenA_nil)) rfl)) (blkOk_by (by kernel_rfl)) (fun _ _ _ _ _ => (sim_gname nd rfl (by first | exact Or.inl rfl | exact Or.inr rfl) rfl)) (fun _ _ _ _ _ => sim_ts0) (fun _ _ _ _ _ => (sim_add (sim_var 4) (sim_var 11))))) (sim_bcons (sim_set nd rfl (by first | exact Or.inl rfl | exact Or.inr rfl) rfl (sim_cold (sim_call (Opassed.mono (by decide)) hr rfl gpassed kpassed Dpassed_1 Vpassed_1 (.cons rfl (.cons rfl .nil)) (sim_cons (sim_var 1) (sim_cons (sim_var 8) (sim_cons (sim_var 7) sim_nil))) (lenA_cons (lenA_cons (lenA_cons lenA_nil))) rfl))) (sim_bcons (sim_if (SimW.t (sim_wor (sim_tne hr.units (sim_lc (own := [("_law_run", 9)]) rfl nd (sim_iany (sim_var 5)) (blkOk_by (by kernel_rfl)) (fun _ _ _ _ _ => (sim_gname nd rfl (by first | exact Or.inl rfl | exact Or.inr rfl) rfl)) (fun _ _ _ _ _ => sim_ts0) (fun _ _ _ _ _ => (sim_cold (sim_ix (sim_var 9) sim_int)))) (sim_mul (sim_lst (sim_cons sim_str sim_nil)) (sim_var 2))) (sim_wor1 (sim_tlt (sim_call (O_law_last.mono (by decide)) hr rfl g_law_last k_law_last B_law_last .nil .nil (sim_cons (sim_var 5) sim_nil) (lenA_cons lenA_nil) rfl) (sim_add (sim_ix (sim_var 8) sim_int) (sim_var 3)))))) (sim_bone (sim_ret sim_bl)) sim_bnil) (sim_bone (sim_if (SimW.t (sim_wor (sim_tnot (sim_tru (sim_callP (O_law_stretches_right.mono (by decide)) hr rfl g_law_stretches_right k_law_stretches_right B_law_stretches_right .nil .nil (sim_cons (sim_fld C_Gang (by decide +kernel) rfl (sim_var 1)) (sim_cons (sim_fld C_Gang (by decide +kernel) rfl (sim_var 1)) (sim_cons (sim_var 5) sim_nil))) (lenA_cons (lenA_cons (lenA_cons lenA_nil))) rfl))) (sim_wor1 (sim_tru (sim_blt (cr_any rfl) pr_any PyProof.Rows.boot_any rfl u_any (sim_cons (sim_lc (own := [("_law_run", 9)]) rfl nd (sim_iany (sim_var 5)) (blkOk_by (by kernel_rfl)) (fun _ _ _ _ _ => (sim_gname nd rfl (by first | exact Or.inl rfl | exact Or.inr rfl) rfl)) (fun _ _ _ _ _ => sim_ts0) (fun _ _ _ _ _ => (sim_lt (sim_ix (sim_ix (sim_var 9) sim_int) sim_int) (sim_ix (sim_var 8) sim_int)))) sim_nil)))))) (sim_bone (sim_ret sim_bl)) sim_bnil)))))))) (sim_bone (sim_ret sim_bl))))))))

/-! ### law -/
def nlaw : List Str := ["_law_script", "_law_cells", "_law_k", "_law_tape_here", "_law_name"]
theorem sclaw : FnScope nlaw ["_law_script"] (defScope (top 42)) := ⟨rfl, rfl, rfl, by decide +kernel, rfl, by decide +kernel, by decide +kernel⟩
def Plaw : Nat → Bool := fun i => [0].contains i
def klaw_1 : SS := (sIf (tNotB (tTru (uV (eCall m_law_right [] (aCons (uVar 3) (aCons (uV (eCold (eMake mGang____init__ c_Gang [] (aCons (uVar 4) (aCons (uV (eCold (eCall m_law_takes [] (aCons (uVar 3) (aCons (uV (eC (.int 60))) aNil))))) (aCons (uV (eCold (eCall m_law_hands [] (aCons (uVar 3) aNil)))) aNil)))))) aNil)))))) (sRet (eC (.bl false))) sNext)
def llaw_2 : SS := sFor (iOf itAny (uV (eCall m_law_names [] (aCons (uVar 3) (aCons (uV (eC (.int 2))) aNil))))) (tgN 4) (sWp [2, 4] klaw_1)
def klaw_3 : SS := (sSeq (sAsg (eCall m_law_tape [] (aCons (uVar 1) (aCons (uVar 2) aNil))) (tgN 3)) (sDp [2, 4] llaw_2))
def llaw_4 : SS := sFor (iInts rg1 (aCons (uV (eP pLen (aCons (uVar 1) aNil))) aNil)) (tgN 2) (sWp [2, 3, 4] klaw_3)
def blaw : SS := (sSeq (sAsg (eCold (eOf (uIf (bOf (eP pNe (aCons (uVar 0) (aCons (uV (eLst aNil)) aNil)))) (uV (eCall m_law_folded [] (aCons (uVar 0) (aCons (uV (eC (.int 4))) aNil)))) (uV (eLst (aCons (uV (eC (.int 0))) aNil)))))) (tgN 1)) (sSeq (sDp [2, 3, 4] llaw_4) (sRet (eC (.bl true)))))
def mlaw : FS := defF 1 5 Plaw blaw
theorem oklaw {P : Program} {w : World} {K : PySem.W.Frag} {mg : Str → Option Value} {base : Heap} {f : Addr} {fd : FuncData} (F : FunD K "law" "law" (defArgs (top 42)) (defBody (top 42)) (defScope (top 42)) [] [] f fd) {f_law_folded : Addr} {fd_law_folded : FuncData} (O_law_folded : FnOk P w K mg base (L2.CX P w) 1 f_law_folded fd_law_folded ["_law_script", "_law_many"] (SpF K 2 m_law_folded)) (g_law_folded : mg "_law_folded" = some (.ref f_law_folded)) (k_law_folded : PySem.W.keepIn K (.ref f_law_folded) = true) (B_law_folded : Binds K fd_law_folded ["_law_script", "_law_many"] []) {f_law_tape : Addr} {fd_law_tape : FuncData} (O_law_tape : FnOk P w K mg base (L2.CX P w) 1 f_law_tape fd_law_tape ["_law_script", "_law_k"] (SpF K 2 m_law_tape)) (g_law_tape : mg "_law_tape" = some (.ref f_law_tape)) (k_law_tape : PySem.W.keepIn K (.ref f_law_tape) = true) (B_law_tape : Binds K fd_law_tape ["_law_script", "_law_k"] []) {f_law_names : Addr} {fd_law_names : FuncData} (O_law_names : FnOk P w K mg base (L2.CX P w) 2 f_law_names fd_law_names ["_law_tape_here", "_law_many"] (SpF K 2 m_law_names)) (g_law_names : mg "_law_names" = some (.ref f_law_names)) (k_law_names : PySem.W.keepIn K (.ref f_law_names) = true) (B_law_names : Binds K fd_law_names ["_law_tape_here", "_law_many"] []) {f_law_right : Addr} {fd_law_right : FuncData} (O_law_right : FnOk P w K mg base (L2.CX P w) 5 f_law_right fd_law_right ["_law_tape_here", "_law_gang"] (SpF K 2 m_law_right)) (g_law_right : mg "_law_right" = some (.ref f_law_right)) (k_law_right : PySem.W.keepIn K (.ref f_law_right) = true) (B_law_right : Binds K fd_law_right ["_law_tape_here", "_law_gang"] []) {fGang____init__ : Addr} {fdGang____init__ : FuncData} (OGang____init__ : FnOk P w K mg base (L2.CX P w) 4 fGang____init__ fdGang____init__ ["self", "name", "takes", "hands"] (SpF K 4 mGang____init__)) (BGang____init__ : Binds K fdGang____init__ ["self", "name", "takes", "hands"] []) {ddGang____init__ : List Value} (VGang____init__ : Vals [.non] ddGang____init__) (DGang____init__ : Binds K fdGang____init__ ["self", "name", "takes", "hands"] ddGang____init__) {f_law_takes : Addr} {fd_law_takes : FuncData} (O_law_takes : FnOk P w K mg base (L2.CX P w) 2 f_law_takes fd_law_takes ["_law_tape_here", "_law_most"] (SpF K 2 m_law_takes)) (g_law_takes : mg "_law_takes" = some (.ref f_law_takes)) (k_law_takes : PySem.W.keepIn K (.ref f_law_takes) = true) (B_law_takes : Binds K fd_law_takes ["_law_tape_here", "_law_most"] []) {f_law_hands : Addr} {fd_law_hands : FuncData} (O_law_hands : FnOk P w K mg base (L2.CX P w) 2 f_law_hands fd_law_hands ["_law_tape_here"] (SpF K 1 m_law_hands)) (g_law_hands : mg "_law_hands" = some (.ref f_law_hands)) (k_law_hands : PySem.W.keepIn K (.ref f_law_hands) = true) (B_law_hands : Binds K fd_law_hands ["_law_tape_here"] []) (M_Gang : Mk K (He.ga K c_Gang.nm) fGang____init__) (g_Gang : mg "Gang" = some (.ref (He.ga K c_Gang.nm))) (u_len : mg "len" = none) (u_range : mg "range" = none) : FnOk P w K mg base (L2.CX P w) 6 f fd ["_law_script"] (SpF K 1 mlaw) :=
  fn_sim F sclaw rfl rfl fun cdv A outer s H E hr => by
    have nd := sclaw.nd
    exact (sim_bcons (sim_set nd rfl (by first | exact Or.inl rfl | exact Or.inr rfl) rfl (sim_cold (sim_of (sim_uif (sim_tne hr.units (sim_var 0) (sim_lst sim_nil)) (sim_call (O_law_folded.mono (by decide)) hr rfl g_law_folded k_law_folded B_law_folded .nil .nil (sim_cons (sim_var 0) (sim_cons sim_int sim_nil)) (lenA_cons (lenA_cons lenA_nil)) rfl) (sim_lst (sim_cons sim_int sim_nil)))))) (sim_bcons (sim_dp (sim_for (passes_of rfl) rfl (sim_irg1 rfl u_range (sim_cons (sim_blt call_len pr_len boot_len rfl u_len (sim_cons (sim_var 1) sim_nil)) sim_nil)) (sim_gname nd rfl (by first | exact Or.inl rfl | exact Or.inr rfl) rfl) (sim_wp (sim_bcons (sim_set nd rfl (by first | exact Or.inl rfl | exact Or.inr rfl) rfl (sim_call (O_law_tape.mono (by decide)) hr rfl g_law_tape k_law_tape B_law_tape .nil .nil (sim_cons (sim_var 1) (sim_cons (sim_var 2) sim_nil)) (lenA_cons (lenA_cons lenA_nil)) rfl)) (sim_bone (sim_dp (sim_for (passes_of rfl) rfl (sim_iany (sim_call (O_law_names.mono (by decide)) hr rfl g_law_names k_law_names B_law_names .nil .nil (sim_cons (sim_var 3) (sim_cons sim_int sim_nil)) (lenA_cons (lenA_cons lenA_nil)) rfl)) (sim_gname nd rfl (by first | exact Or.inl rfl | exact Or.inr rfl) rfl) (sim_wp (sim_bone (sim_if (sim_tnot (sim_tru (sim_call (O_law_right.mono (by decide)) hr rfl g_law_right k_law_right B_law_right .nil .nil (sim_cons (sim_var 3) (sim_cons (sim_cold (sim_make (c := c_Gang) M_Gang (OGang____init__.mono (by decide)) hr rfl g_Gang BGang____init__ .nil .nil (sim_cons (sim_var 4) (sim_cons (sim_cold (sim_call (O_law_takes.mono (by decide)) hr rfl g_law_takes k_law_takes B_law_takes .nil .nil (sim_cons (sim_var 3) (sim_cons sim_int sim_nil)) (lenA_cons (lenA_cons lenA_nil)) rfl)) (sim_cons (sim_cold (sim_call (O_law_hands.mono (by decide)) hr rfl g_law_hands k_law_hands B_law_hands .nil .nil (sim_cons (sim_var 3) sim_nil) (lenA_cons lenA_nil) rfl)) sim_nil))) (lenA_cons (lenA_cons (lenA_cons lenA_nil))) rfl)) sim_nil)) (lenA_cons (lenA_cons lenA_nil)) rfl))) (sim_bone (sim_ret sim_bl)) sim_bnil)))))))))) (sim_bone (sim_ret sim_bl))))
end
end W_k13

namespace W_k13
open PySem PySem.Spec PyProof.Rows L2 Ev
noncomputable section
theorem facts {P : Program} {w : World} {K : PySem.W.Frag} {h : Heap} {mg : Str → Option Value} {f : Addr} (X : K.In h) (G : h.Ns mainGlobals mg) (hfa : mg ("law" : Str) = some (.ref f)) (c : He.SaysD fa fn K) (cx : ex K = true) :
    ∃ fd : FuncData, (∀ (s : Shared) (v : Value), BindsTo s fd ⟨[v], []⟩ [("_law_script", v)]) ∧ ∀ base : Heap, K.In base → base.Ns mainGlobals mg → FnOk P w K mg base (L2.CX P w) 6 f fd ["_law_script"] (SpF K 1 mlaw) := by
  obtain ⟨fdgreatest_fill, Fgreatest_fill⟩ := c.def_ 0 (d := d0) rfl
  replace Fgreatest_fill : FunD K "greatest_fill" "greatest_fill" (defArgs (top 3)) (defBody (top 3)) (defScope (top 3)) [] [] _ fdgreatest_fill := Fgreatest_fill
  have ggreatest_fill := He.glo_ok X G (c.fact 0 (f := .glo "greatest_fill") rfl)
  obtain ⟨fdis_name, Fis_name⟩ := c.def_ 1 (d := d1) rfl
  replace Fis_name : FunD K "is_name" "is_name" (defArgs (top 11)) (defBody (top 11)) (defScope (top 11)) [] [] _ fdis_name := Fis_name
  have gis_name := He.glo_ok X G (c.fact 1 (f := .glo "is_name") rfl)
  obtain ⟨fdis_number, Fis_number⟩ := c.def_ 2 (d := d2) rfl
  replace Fis_number : FunD K "is_number" "is_number" (defArgs (top 12)) (defBody (top 12)) (defScope (top 12)) [] [] _ fdis_number := Fis_number
  have gis_number := He.glo_ok X G (c.fact 2 (f := .glo "is_number") rfl)
  obtain ⟨fdis_within, Fis_within⟩ := c.def_ 3 (d := d3) rfl
  replace Fis_within : FunD K "is_within" "is_within" (defArgs (top 13)) (defBody (top 13)) (defScope (top 13)) [] [] _ fdis_within := Fis_within
  have gis_within := He.glo_ok X G (c.fact 3 (f := .glo "is_within") rfl)
  obtain ⟨fdis_row, Fis_row⟩ := c.def_ 4 (d := d4) rfl
  replace Fis_row : FunD K "is_row" "is_row" (defArgs (top 14)) (defBody (top 14)) (defScope (top 14)) [] [] _ fdis_row := Fis_row
  have gis_row := He.glo_ok X G (c.fact 4 (f := .glo "is_row") rfl)
  obtain ⟨fdare_four, Fare_four⟩ := c.def_ 5 (d := d5) rfl
  replace Fare_four : FunD K "are_four" "are_four" (defArgs (top 18)) (defBody (top 18)) (defScope (top 18)) [] [] _ fdare_four := Fare_four
  have gare_four := He.glo_ok X G (c.fact 5 (f := .glo "are_four") rfl)
  obtain ⟨fdpart_of, Fpart_of⟩ := c.def_ 6 (d := d6) rfl
  replace Fpart_of : FunD K "part_of" "part_of" (defArgs (top 19)) (defBody (top 19)) (defScope (top 19)) [] [] _ fdpart_of := Fpart_of
  have gpart_of := He.glo_ok X G (c.fact 6 (f := .glo "part_of") rfl)
  obtain ⟨fdGang____init__, FGang____init__⟩ := c.def_ 7 (d := d7) rfl
  replace FGang____init__ : FunD K "__init__" "Gang.__init__" (defArgs (mt 20 0)) (defBody (mt 20 0)) (defScope (mt 20 0)) [.non] [] _ fdGang____init__ := FGang____init__
  obtain ⟨fdGang__pace, FGang__pace⟩ := c.def_ 8 (d := d8) rfl
  replace FGang__pace : FunD K "pace" "Gang.pace" (defArgs (mt 20 7)) (defBody (mt 20 7)) (defScope (mt 20 7)) [] [] _ fdGang__pace := FGang__pace
  obtain ⟨fdGang__binds, FGang__binds⟩ := c.def_ 9 (d := d9) rfl
  replace FGang__binds : FunD K "binds" "Gang.binds" (defArgs (mt 20 8)) (defBody (mt 20 8)) (defScope (mt 20 8)) [] [] _ fdGang__binds := FGang__binds
  obtain ⟨fdleast_end, Fleast_end⟩ := c.def_ 10 (d := d10) rfl
  replace Fleast_end : FunD K "least_end" "least_end" (defArgs (top 4)) (defBody (top 4)) (defScope (top 4)) [] [] _ fdleast_end := Fleast_end
  have gleast_end := He.glo_ok X G (c.fact 7 (f := .glo "least_end") rfl)
  obtain ⟨fdLine____init__, FLine____init__⟩ := c.def_ 11 (d := d11) rfl
  replace FLine____init__ : FunD K "__init__" "Line.__init__" (defArgs (mt 24 0)) (defBody (mt 24 0)) (defScope (mt 24 0)) [] [] _ fdLine____init__ := FLine____init__
  obtain ⟨fdfree_from, Ffree_from⟩ := c.def_ 12 (d := d12) rfl
  replace Ffree_from : FunD K "free_from" "free_from" (defArgs (top 25)) (defBody (top 25)) (defScope (top 25)) [] [] _ fdfree_from := Ffree_from
  have gfree_from := He.glo_ok X G (c.fact 8 (f := .glo "free_from") rfl)
  obtain ⟨fdleaves, Fleaves⟩ := c.def_ 13 (d := d13) rfl
  replace Fleaves : FunD K "leaves" "leaves" (defArgs (top 26)) (defBody (top 26)) (defScope (top 26)) [] [] _ fdleaves := Fleaves
  have gleaves := He.glo_ok X G (c.fact 9 (f := .glo "leaves") rfl)
  obtain ⟨fdis_let_go, Fis_let_go⟩ := c.def_ 14 (d := d14) rfl
  replace Fis_let_go : FunD K "is_let_go" "is_let_go" (defArgs (top 27)) (defBody (top 27)) (defScope (top 27)) [] [] _ fdis_let_go := Fis_let_go
  have gis_let_go := He.glo_ok X G (c.fact 10 (f := .glo "is_let_go") rfl)
  obtain ⟨fdhole_filled, Fhole_filled⟩ := c.def_ 15 (d := d15) rfl
  replace Fhole_filled : FunD K "hole_filled" "hole_filled" (defArgs (top 28)) (defBody (top 28)) (defScope (top 28)) [] [] _ fdhole_filled := Fhole_filled
  have ghole_filled := He.glo_ok X G (c.fact 11 (f := .glo "hole_filled") rfl)
  obtain ⟨fdone_passed, Fone_passed⟩ := c.def_ 16 (d := d16) rfl
  replace Fone_passed : FunD K "one_passed" "one_passed" (defArgs (top 29)) (defBody (top 29)) (defScope (top 29)) [] [] _ fdone_passed := Fone_passed
  have gone_passed := He.glo_ok X G (c.fact 12 (f := .glo "one_passed") rfl)
  obtain ⟨fdpassed, Fpassed⟩ := c.def_ 17 (d := d17) rfl
  replace Fpassed : FunD K "passed" "passed" (defArgs (top 30)) (defBody (top 30)) (defScope (top 30)) [.non, .non, .non] [] _ fdpassed := Fpassed
  have gpassed := He.glo_ok X G (c.fact 13 (f := .glo "passed") rfl)
  obtain ⟨fd_law_tape, F_law_tape⟩ := c.def_ 18 (d := d18) rfl
  replace F_law_tape : FunD K "_law_tape" "_law_tape" (defArgs (top 32)) (defBody (top 32)) (defScope (top 32)) [] [] _ fd_law_tape := F_law_tape
  have g_law_tape := He.glo_ok X G (c.fact 14 (f := .glo "_law_tape") rfl)
  obtain ⟨fd_law_draw, F_law_draw⟩ := c.def_ 19 (d := d19) rfl
  replace F_law_draw : FunD K "_law_draw" "_law_draw" (defArgs (top 33)) (defBody (top 33)) (defScope (top 33)) [] [] _ fd_law_draw := F_law_draw
  have g_law_draw := He.glo_ok X G (c.fact 15 (f := .glo "_law_draw") rfl)
  obtain ⟨fd_law_folded, F_law_folded⟩ := c.def_ 20 (d := d20) rfl
  replace F_law_folded : FunD K "_law_folded" "_law_folded" (defArgs (top 34)) (defBody (top 34)) (defScope (top 34)) [] [] _ fd_law_folded := F_law_folded
  have g_law_folded := He.glo_ok X G (c.fact 16 (f := .glo "_law_folded") rfl)
  obtain ⟨fd_law_names, F_law_names⟩ := c.def_ 21 (d := d21) rfl
  replace F_law_names : FunD K "_law_names" "_law_names" (defArgs (top 35)) (defBody (top 35)) (defScope (top 35)) [] [] _ fd_law_names := F_law_names
  have g_law_names := He.glo_ok X G (c.fact 17 (f := .glo "_law_names") rfl)
  obtain ⟨fd_law_takes, F_law_takes⟩ := c.def_ 22 (d := d22) rfl
  replace F_law_takes : FunD K "_law_takes" "_law_takes" (defArgs (top 36)) (defBody (top 36)) (defScope (top 36)) [] [] _ fd_law_takes := F_law_takes
  have g_law_takes := He.glo_ok X G (c.fact 18 (f := .glo "_law_takes") rfl)
  obtain ⟨fd_law_hands, F_law_hands⟩ := c.def_ 23 (d := d23) rfl
  replace F_law_hands : FunD K "_law_hands" "_law_hands" (defArgs (top 37)) (defBody (top 37)) (defScope (top 37)) [] [] _ fd_law_hands := F_law_hands
  have g_law_hands := He.glo_ok X G (c.fact 19 (f := .glo "_law_hands") rfl)
  obtain ⟨fd_law_asks, F_law_asks⟩ := c.def_ 24 (d := d24) rfl
  replace F_law_asks : FunD K "_law_asks" "_law_asks" (defArgs (top 38)) (defBody (top 38)) (defScope (top 38)) [] [] _ fd_law_asks := F_law_asks
  have g_law_asks := He.glo_ok X G (c.fact 20 (f := .glo "_law_asks") rfl)
  obtain ⟨fd_law_last, F_law_last⟩ := c.def_ 25 (d := d25) rfl
  replace F_law_last : FunD K "_law_last" "_law_last" (defArgs (top 39)) (defBody (top 39)) (defScope (top 39)) [] [] _ fd_law_last := F_law_last
  have g_law_last := He.glo_ok X G (c.fact 21 (f := .glo "_law_last") rfl)
  obtain ⟨fd_law_stretches_right, F_law_stretches_right⟩ := c.def_ 26 (d := d26) rfl
  replace F_law_stretches_right : FunD K "_law_stretches_right" "_law_stretches_right" (defArgs (top 40)) (defBody (top 40)) (defScope (top 40)) [] [] _ fd_law_stretches_right := F_law_stretches_right
  have g_law_stretches_right := He.glo_ok X G (c.fact 22 (f := .glo "_law_stretches_right") rfl)
  obtain ⟨fd_law_right, F_law_right⟩ := c.def_ 27 (d := d27) rfl
  replace F_law_right : FunD K "_law_right" "_law_right" (defArgs (top 41)) (defBody (top 41)) (defScope (top 41)) [] [] _ fd_law_right := F_law_right
  have g_law_right := He.glo_ok X G (c.fact 23 (f := .glo "_law_right") rfl)
  obtain ⟨fdlaw, Flaw⟩ := c.def_ 28 (d := d28) rfl
  replace Flaw : FunD K "law" "law" (defArgs (top 42)) (defBody (top 42)) (defScope (top 42)) [] [] _ fdlaw := Flaw
  have glaw := He.glo_ok X G (c.fact 24 (f := .glo "law") rfl)
  have u_abs := He.free_ok X G (c.fact 25 (f := .free "abs") rfl)
  have u_all := He.free_ok X G (c.fact 26 (f := .free "all") rfl)
  have u_any := He.free_ok X G (c.fact 27 (f := .free "any") rfl)
  have u_bool := He.free_ok X G (c.fact 28 (f := .free "bool") rfl)
  have u_dict := He.free_ok X G (c.fact 29 (f := .free "dict") rfl)
  have u_enumerate := He.free_ok X G (c.fact 30 (f := .free "enumerate") rfl)
  have u_int := He.free_ok X G (c.fact 31 (f := .free "int") rfl)
  have u_isinstance := He.free_ok X G (c.fact 32 (f := .free "isinstance") rfl)
  have u_len := He.free_ok X G (c.fact 33 (f := .free "len") rfl)
  have u_list := He.free_ok X G (c.fact 34 (f := .free "list") rfl)
  have u_max := He.free_ok X G (c.fact 35 (f := .free "max") rfl)
  have u_min := He.free_ok X G (c.fact 36 (f := .free "min") rfl)
  have u_range := He.free_ok X G (c.fact 37 (f := .free "range") rfl)
  have u_sorted := He.free_ok X G (c.fact 38 (f := .free "sorted") rfl)
  have u_str := He.free_ok X G (c.fact 39 (f := .free "str") rfl)
  have u_sum := He.free_ok X G (c.fact 40 (f := .free "sum") rfl)
  have u_tuple := He.free_ok X G (c.fact 41 (f := .free "tuple") rfl)
  have u_zip := He.free_ok X G (c.fact 42 (f := .free "zip") rfl)
  have c_HOLDER := He.int_ok X G (c.fact 43 (f := .int "HOLDER" (2)) rfl)
  have c_LAST_KIND := He.int_ok X G (c.fact 44 (f := .int "LAST_KIND" (3)) rfl)
  have c_LETTERS := He.str_ok X G (c.fact 45 (f := .str "LETTERS" "abcdefghijklmnopqrstuvwxyz") rfl)
  have c_MOST_HANDS := He.int_ok X G (c.fact 46 (f := .int "MOST_HANDS" (4)) rfl)
  have c_MOST_LETTERS := He.int_ok X G (c.fact 47 (f := .int "MOST_LETTERS" (8)) rfl)
  have c_MOST_TAKE := He.int_ok X G (c.fact 48 (f := .int "MOST_TAKE" (1000000)) rfl)
  have c_SPARE := He.int_ok X G (c.fact 49 (f := .int "SPARE" (16)) rfl)
  have Cl_Gang := He.cls_ok (c.fact 50 (f := .cls "Gang") rfl)
  have No_Gang_name := He.noat_ok (c.fact 51 (f := .noat "Gang" "name") rfl)
  have No_Gang_takes := He.noat_ok (c.fact 52 (f := .noat "Gang" "takes") rfl)
  have No_Gang_hands := He.noat_ok (c.fact 53 (f := .noat "Gang" "hands") rfl)
  have Cl_Line := He.cls_ok (c.fact 54 (f := .cls "Line") rfl)
  have No_Line_crew := He.noat_ok (c.fact 55 (f := .noat "Line" "crew") rfl)
  have No_Line_wants := He.noat_ok (c.fact 56 (f := .noat "Line" "wants") rfl)
  have No_Line_warm := He.noat_ok (c.fact 57 (f := .noat "Line" "warm") rfl)
  have No_Line_leaving := He.noat_ok (c.fact 58 (f := .noat "Line" "leaving") rfl)
  have No_Line_filled := He.noat_ok (c.fact 59 (f := .noat "Line" "filled") rfl)
  have M_Gang := He.mkr_ok (c.fact 60 (f := .mkr "Gang") rfl)
  have g_Gang := He.glo_ok X G (c.fact 61 (f := .glo "Gang") rfl)
  have M_Line := He.mkr_ok (c.fact 62 (f := .mkr "Line") rfl)
  have g_Line := He.glo_ok X G (c.fact 63 (f := .glo "Line") rfl)
  have g_KINDS := He.glo_ok X G (c.fact 64 (f := .glo "KINDS") rfl)
  have MM_Gang__binds := He.meth_ok (c.fact 65 (f := .meth "Gang" "binds") rfl)
  have MM_Gang__pace := He.meth_ok (c.fact 66 (f := .meth "Gang" "pace") rfl)
  have C_Gang : ClsOk K c_Gang := ⟨Cl_Gang, fun f hf => by
    have hf2 : f ∈ (["name", "takes", "hands"] : List Str) := hf
    simp only [List.mem_cons, List.not_mem_nil, or_false] at hf2
    rcases hf2 with rfl | rfl | rfl
    · exact No_Gang_name
    · exact No_Gang_takes
    · exact No_Gang_hands
  ⟩
  have C_Line : ClsOk K c_Line := ⟨Cl_Line, fun f hf => by
    have hf2 : f ∈ (["crew", "wants", "warm", "leaving", "filled"] : List Str) := hf
    simp only [List.mem_cons, List.not_mem_nil, or_false] at hf2
    rcases hf2 with rfl | rfl | rfl | rfl | rfl
    · exact No_Line_crew
    · exact No_Line_wants
    · exact No_Line_warm
    · exact No_Line_leaving
    · exact No_Line_filled
  ⟩
  unfold ex at cx
  have T_KINDS := cx
  have e := hfa.symm.trans glaw
  cases e
  have Bgreatest_fill : Binds K fdgreatest_fill ["gang", "room"] [] := FunD.bindsN Fgreatest_fill fun _ _ _ _ _ _ us hl => match us, hl with | [_, _], _ => rfl
  have Bis_name : Binds K fdis_name ["thing"] [] := FunD.bindsN Fis_name fun _ _ _ _ _ _ us hl => match us, hl with | [_], _ => rfl
  have Bis_number : Binds K fdis_number ["thing"] [] := FunD.bindsN Fis_number fun _ _ _ _ _ _ us hl => match us, hl with | [_], _ => rfl
  have Bis_within : Binds K fdis_within ["thing", "least", "most"] [] := FunD.bindsN Fis_within fun _ _ _ _ _ _ us hl => match us, hl with | [_, _, _], _ => rfl
  have Bis_row : Binds K fdis_row ["thing"] [] := FunD.bindsN Fis_row fun _ _ _ _ _ _ us hl => match us, hl with | [_], _ => rfl
  have Bare_four : Binds K fdare_four ["thing", "most"] [] := FunD.bindsN Fare_four fun _ _ _ _ _ _ us hl => match us, hl with | [_, _], _ => rfl
  have Bpart_of : Binds K fdpart_of ["top", "bottom"] [] := FunD.bindsN Fpart_of fun _ _ _ _ _ _ us hl => match us, hl with | [_, _], _ => rfl
  have BGang____init__ : Binds K fdGang____init__ ["self", "name", "takes", "hands"] [] := by
    obtain ⟨its, kb⟩ := kb_some (ps := ["self", "name", "takes", "hands"]) FGang____init__ 4 [] [0, 1, 2, 3] (by simp) fun T kV doc pm an cdv ct us its ws h1 h2 h3 => match us, its, ws, h1, h2, h3 with | [_, _, _, _], [_], [], _, _, _ => ⟨_, rfl, rfl⟩
    exact fun s us KX hl => match us, hl with | [a0, a1, a2, a3], _ => kb.to s _ [] KX rfl rfl
  obtain ⟨ddGang____init__, VGang____init__, DGang____init__⟩ := FunD.binds1 FGang____init__ 3 0 (ps := ["self", "name", "takes", "hands"]) (by simp) rfl fun _ _ _ _ _ _ _ us its h1 h2 => match us, its, h1, h2 with | [_, _, _], [_], _, _ => ⟨_, rfl, rfl⟩
  have BGang__pace : Binds K fdGang__pace ["self"] [] := FunD.bindsN FGang__pace fun _ _ _ _ _ _ us hl => match us, hl with | [_], _ => rfl
  have BGang__binds : Binds K fdGang__binds ["self"] [] := FunD.bindsN FGang__binds fun _ _ _ _ _ _ us hl => match us, hl with | [_], _ => rfl
  have Bleast_end : Binds K fdleast_end ["gang", "many"] [] := FunD.bindsN Fleast_end fun _ _ _ _ _ _ us hl => match us, hl with | [_, _], _ => rfl
  have BLine____init__ : Binds K fdLine____init__ ["self", "gang", "holes", "warm"] [] := FunD.bindsN FLine____init__ fun _ _ _ _ _ _ us hl => match us, hl with | [_, _, _, _], _ => rfl
  have Bfree_from : Binds K fdfree_from ["line", "kind"] [] := FunD.bindsN Ffree_from fun _ _ _ _ _ _ us hl => match us, hl with | [_, _], _ => rfl
  have Bleaves : Binds K fdleaves ["line", "kind", "beat"] [] := FunD.bindsN Fleaves fun _ _ _ _ _ _ us hl => match us, hl with | [_, _, _], _ => rfl
  have Bis_let_go : Binds K fdis_let_go ["line", "begins", "beat"] [] := FunD.bindsN Fis_let_go fun _ _ _ _ _ _ us hl => match us, hl with | [_, _, _], _ => rfl
  have Bhole_filled : Binds K fdhole_filled ["line", "begin"] [] := FunD.bindsN Fhole_filled fun _ _ _ _ _ _ us hl => match us, hl with | [_, _], _ => rfl
  have Bone_passed : Binds K fdone_passed ["line", "ask", "is_missed"] [] := FunD.bindsN Fone_passed fun _ _ _ _ _ _ us hl => match us, hl with | [_, _, _], _ => rfl
  have Bpassed : Binds K fdpassed ["gang", "asks", "holes", "missed", "life"] [] := by
    obtain ⟨its, kb⟩ := kb_some (ps := ["gang", "asks", "holes", "missed", "life"]) Fpassed 5 [] [0, 1, 2, 3, 4] (by simp) fun T kV doc pm an cdv ct us its ws h1 h2 h3 => match us, its, ws, h1, h2, h3 with | [_, _, _, _, _], [_, _, _], [], _, _, _ => ⟨_, rfl, rfl⟩
    exact fun s us KX hl => match us, hl with | [a0, a1, a2, a3, a4], _ => kb.to s _ [] KX rfl rfl
  obtain ⟨ddpassed, Vpassed, Dpassed⟩ := FunD.binds1 Fpassed 2 0 (ps := ["gang", "asks", "holes", "missed", "life"]) (by simp) rfl fun _ _ _ _ _ _ _ us its h1 h2 => match us, its, h1, h2 with | [_, _], [_, _, _], _, _ => ⟨_, rfl, rfl⟩
  obtain ⟨ddpassed_1, Vpassed_1, Dpassed_1⟩ := FunD.binds1 Fpassed 3 1 (ps := ["gang", "asks", "holes", "missed", "life"]) (by simp) rfl fun _ _ _ _ _ _ _ us its h1 h2 => match us, its, h1, h2 with | [_, _, _], [_, _, _], _, _ => ⟨_, rfl, rfl⟩
  have B_law_tape : Binds K fd_law_tape ["_law_script", "_law_k"] [] := FunD.bindsN F_law_tape fun _ _ _ _ _ _ us hl => match us, hl with | [_, _], _ => rfl
  have B_law_draw : Binds K fd_law_draw ["_law_tape_here", "_law_many"] [] := FunD.bindsN F_law_draw fun _ _ _ _ _ _ us hl => match us, hl with | [_, _], _ => rfl
  have B_law_folded : Binds K fd_law_folded ["_law_script", "_law_many"] [] := FunD.bindsN F_law_folded fun _ _ _ _ _ _ us hl => match us, hl with | [_, _], _ => rfl
  have B_law_names : Binds K fd_law_names ["_law_tape_here", "_law_many"] [] := FunD.bindsN F_law_names fun _ _ _ _ _ _ us hl => match us, hl with | [_, _], _ => rfl
  have B_law_takes : Binds K fd_law_takes ["_law_tape_here", "_law_most"] [] := FunD.bindsN F_law_takes fun _ _ _ _ _ _ us hl => match us, hl with | [_, _], _ => rfl
  have B_law_hands : Binds K fd_law_hands ["_law_tape_here"] [] := FunD.bindsN F_law_hands fun _ _ _ _ _ _ us hl => match us, hl with | [_], _ => rfl
  have B_law_asks : Binds K fd_law_asks ["_law_tape_here", "_law_many"] [] := FunD.bindsN F_law_asks fun _ _ _ _ _ _ us hl => match us, hl with | [_, _], _ => rfl
  have B_law_last : Binds K fd_law_last ["_law_runs"] [] := FunD.bindsN F_law_last fun _ _ _ _ _ _ us hl => match us, hl with | [_], _ => rfl
  have B_law_stretches_right : Binds K fd_law_stretches_right ["_law_takes_here", "_law_hands_here", "_law_runs"] [] := FunD.bindsN F_law_stretches_right fun _ _ _ _ _ _ us hl => match us, hl with | [_, _, _], _ => rfl
  have B_law_right : Binds K fd_law_right ["_law_tape_here", "_law_gang"] [] := FunD.bindsN F_law_right fun _ _ _ _ _ _ us hl => match us, hl with | [_, _], _ => rfl
  have Blaw : Binds K fdlaw ["_law_script"] [] := FunD.bindsN Flaw fun _ _ _ _ _ _ us hl => match us, hl with | [_], _ => rfl
  refine ⟨fdlaw, fun s v => FunD.bindsA (ps := ["_law_script"]) Flaw (fun _ _ _ _ _ _ us hl => match us, hl with | [_], _ => rfl) s [v] rfl, fun base _ _ => ?_⟩
  have Ogreatest_fill : FnOk P w K mg base (L2.CX P w) 1 _ fdgreatest_fill ["gang", "room"] (SpF K 2 mgreatest_fill) := okgreatest_fill Fgreatest_fill C_Gang u_max u_range u_zip
  have Ois_name : FnOk P w K mg base (L2.CX P w) 1 _ fdis_name ["thing"] (SpF K 1 mis_name) := okis_name Fis_name u_all u_isinstance u_len u_str c_LETTERS c_MOST_LETTERS
  have Ois_number : FnOk P w K mg base (L2.CX P w) 1 _ fdis_number ["thing"] (SpF K 1 mis_number) := okis_number Fis_number u_bool u_int u_isinstance
  have Ois_within : FnOk P w K mg base (L2.CX P w) 2 _ fdis_within ["thing", "least", "most"] (SpF K 3 mis_within) := okis_within Fis_within Ois_number gis_number Fis_number.kp Bis_number
  have Ois_row : FnOk P w K mg base (L2.CX P w) 1 _ fdis_row ["thing"] (SpF K 1 mis_row) := okis_row Fis_row u_isinstance u_list u_tuple
  have Oare_four : FnOk P w K mg base (L2.CX P w) 3 _ fdare_four ["thing", "most"] (SpF K 2 mare_four) := okare_four Fare_four Ois_row gis_row Fis_row.kp Bis_row Ois_within gis_within Fis_within.kp Bis_within g_KINDS T_KINDS u_all u_len
  have Opart_of : FnOk P w K mg base (L2.CX P w) 1 _ fdpart_of ["top", "bottom"] (SpF K 2 mpart_of) := okpart_of Fpart_of 
  have OGang____init__ : FnOk P w K mg base (L2.CX P w) 4 _ fdGang____init__ ["self", "name", "takes", "hands"] (SpF K 4 mGang____init__) := okGang____init__ FGang____init__ Ois_name gis_name Fis_name.kp Bis_name Oare_four gare_four Fare_four.kp Bare_four C_Gang u_tuple c_MOST_HANDS c_MOST_TAKE
  have OGang__pace : FnOk P w K mg base (L2.CX P w) 2 _ fdGang__pace ["self"] (SpF K 1 mGang__pace) := okGang__pace FGang__pace Opart_of gpart_of Fpart_of.kp Bpart_of C_Gang u_zip
  have OGang__binds : FnOk P w K mg base (L2.CX P w) 3 _ fdGang__binds ["self"] (SpF K 1 mGang__binds) := okGang__binds FGang__binds OGang__pace BGang__pace C_Gang MM_Gang__pace u_enumerate u_zip
  have Oleast_end : FnOk P w K mg base (L2.CX P w) 4 _ fdleast_end ["gang", "many"] (SpF K 2 mleast_end) := okleast_end Fleast_end OGang__binds BGang__binds Ogreatest_fill ggreatest_fill Fgreatest_fill.kp Bgreatest_fill C_Gang MM_Gang__binds u_max u_sum c_SPARE
  have OLine____init__ : FnOk P w K mg base (L2.CX P w) 1 _ fdLine____init__ ["self", "gang", "holes", "warm"] (SpF K 4 mLine____init__) := okLine____init__ FLine____init__ C_Line g_KINDS T_KINDS u_list
  have Ofree_from : FnOk P w K mg base (L2.CX P w) 1 _ fdfree_from ["line", "kind"] (SpF K 2 mfree_from) := okfree_from Ffree_from C_Gang C_Line u_len
  have Oleaves : FnOk P w K mg base (L2.CX P w) 1 _ fdleaves ["line", "kind", "beat"] (SpF K 3 mleaves) := okleaves Fleaves C_Gang C_Line u_sorted
  have Ois_let_go : FnOk P w K mg base (L2.CX P w) 1 _ fdis_let_go ["line", "begins", "beat"] (SpF K 3 mis_let_go) := okis_let_go Fis_let_go C_Line u_len
  have Ohole_filled : FnOk P w K mg base (L2.CX P w) 1 _ fdhole_filled ["line", "begin"] (SpF K 2 mhole_filled) := okhole_filled Fhole_filled C_Gang C_Line u_len c_LAST_KIND
  have Oone_passed : FnOk P w K mg base (L2.CX P w) 2 _ fdone_passed ["line", "ask", "is_missed"] (SpF K 3 mone_passed) := okone_passed Fone_passed Ohole_filled ghole_filled Fhole_filled.kp Bhole_filled Oleaves gleaves Fleaves.kp Bleaves Ois_let_go gis_let_go Fis_let_go.kp Bis_let_go Ofree_from gfree_from Ffree_from.kp Bfree_from C_Gang C_Line g_KINDS T_KINDS u_len u_max u_range u_tuple c_HOLDER c_LAST_KIND
  have Opassed : FnOk P w K mg base (L2.CX P w) 3 _ fdpassed ["gang", "asks", "holes", "missed", "life"] (SpF K 5 mpassed) := okpassed Fpassed OLine____init__ BLine____init__ Oone_passed gone_passed Fone_passed.kp Bone_passed M_Line g_Line u_dict u_enumerate
  have O_law_tape : FnOk P w K mg base (L2.CX P w) 1 _ fd_law_tape ["_law_script", "_law_k"] (SpF K 2 m_law_tape) := ok_law_tape F_law_tape u_abs u_int u_len
  have O_law_draw : FnOk P w K mg base (L2.CX P w) 1 _ fd_law_draw ["_law_tape_here", "_law_many"] (SpF K 2 m_law_draw) := ok_law_draw F_law_draw 
  have O_law_folded : FnOk P w K mg base (L2.CX P w) 1 _ fd_law_folded ["_law_script", "_law_many"] (SpF K 2 m_law_folded) := ok_law_folded F_law_folded u_enumerate u_list
  have O_law_names : FnOk P w K mg base (L2.CX P w) 2 _ fd_law_names ["_law_tape_here", "_law_many"] (SpF K 2 m_law_names) := ok_law_names F_law_names O_law_draw g_law_draw F_law_draw.kp B_law_draw u_int u_len u_range
  have O_law_takes : FnOk P w K mg base (L2.CX P w) 2 _ fd_law_takes ["_law_tape_here", "_law_most"] (SpF K 2 m_law_takes) := ok_law_takes F_law_takes O_law_draw g_law_draw F_law_draw.kp B_law_draw u_min u_range u_tuple
  have O_law_hands : FnOk P w K mg base (L2.CX P w) 2 _ fd_law_hands ["_law_tape_here"] (SpF K 1 m_law_hands) := ok_law_hands F_law_hands O_law_draw g_law_draw F_law_draw.kp B_law_draw u_range u_tuple
  have O_law_asks : FnOk P w K mg base (L2.CX P w) 2 _ fd_law_asks ["_law_tape_here", "_law_many"] (SpF K 2 m_law_asks) := ok_law_asks F_law_asks O_law_draw g_law_draw F_law_draw.kp B_law_draw u_range
  have O_law_last : FnOk P w K mg base (L2.CX P w) 1 _ fd_law_last ["_law_runs"] (SpF K 1 m_law_last) := ok_law_last F_law_last u_max
  have O_law_stretches_right : FnOk P w K mg base (L2.CX P w) 1 _ fd_law_stretches_right ["_law_takes_here", "_law_hands_here", "_law_runs"] (SpF K 3 m_law_stretches_right) := ok_law_stretches_right F_law_stretches_right u_enumerate u_range
  have O_law_right : FnOk P w K mg base (L2.CX P w) 5 _ fd_law_right ["_law_tape_here", "_law_gang"] (SpF K 2 m_law_right) := ok_law_right F_law_right Opassed gpassed Fpassed.kp Bpassed Vpassed Dpassed O_law_draw g_law_draw F_law_draw.kp B_law_draw Oleast_end gleast_end Fleast_end.kp Bleast_end O_law_last g_law_last F_law_last.kp B_law_last O_law_asks g_law_asks F_law_asks.kp B_law_asks O_law_stretches_right g_law_stretches_right F_law_stretches_right.kp B_law_stretches_right Vpassed_1 Dpassed_1 C_Gang u_any u_range
  have Olaw : FnOk P w K mg base (L2.CX P w) 6 _ fdlaw ["_law_script"] (SpF K 1 mlaw) := oklaw Flaw O_law_folded g_law_folded F_law_folded.kp B_law_folded O_law_tape g_law_tape F_law_tape.kp B_law_tape O_law_names g_law_names F_law_names.kp B_law_names O_law_right g_law_right F_law_right.kp B_law_right OGang____init__ BGang____init__ VGang____init__ DGang____init__ O_law_takes g_law_takes F_law_takes.kp B_law_takes O_law_hands g_law_hands F_law_hands.kp B_law_hands M_Gang g_Gang u_len u_range
  exact Olaw
theorem walked (hm : ∀ ns : List Int, ns.length ≤ 63 → (∀ z ∈ ns, Builtin.Int.intBits z ≤ 1048576) → ∃ as, mlaw [.scr ns] = .ok (.bl true) as) : PySem.Challenge.rw_hotpass_k13_no_asks_are_quicker.Holds := by
  w_on; o_law
  refine HandSHeadRun.head_any (r := PySem.W.OpenLaw.row PySem.Challenge.rw_hotpass_k13_no_asks_are_quicker) (q := PySem.W.view (PySem.W.OpenLaw.row PySem.Challenge.rw_hotpass_k13_no_asks_are_quicker).prog [42]) (H := hk) (ob := ob) (M := 4000) (loose := names) (d := HandSHeadRun.topDef (PySem.W.OpenLaw.row PySem.Challenge.rw_hotpass_k13_no_asks_are_quicker).prog 42) (kwd := []) ob_eq
    (by kernel_rfl) (fun s => by kernel_rfl) run (by kernel_rfl) (by kernel_rfl) (by kernel_rfl) (by rfl) (by first | assumption | decide +kernel) (by decide +kernel) ⟨rfl, rfl, rfl, rfl, rfl, by decide +kernel⟩ ?hw ?hc
  case hw => w_witness2
  case hc =>
    refine walk_ev (l := PySem.Challenge.rw_hotpass_k13_no_asks_are_quicker) (k := 6) (x := "_law_script") (m := mlaw) rfl (by kernel_rfl) ⟨rfl, by decide, by decide⟩ ?F hm
    intro w mg fa h Y G hmg0
    obtain ⟨K, KX, c, cx⟩ := Y
    have hmg : mg ("law" : PySem.Str) = some (.ref fa) := by
      have e : (HandSHeadRun.topDef (PySem.W.OpenLaw.row PySem.Challenge.rw_hotpass_k13_no_asks_are_quicker).prog 42).name = ("law" : PySem.Str) := by kernel_rfl
      rw [← e]
      exact hmg0
    obtain ⟨fd, hb, hF⟩ := facts (P := (PySem.Challenge.rw_hotpass_k13_no_asks_are_quicker).prog) (w := w) KX G hmg c cx
    exact ⟨K, fd, KX, hb, hF⟩
end
end W_k13

namespace W_k13
open PySem PySem.Spec PyProof.Rows L2 Ev
noncomputable section
/-- a tape -/
structure Tp where
  a : Int
  b : Int
  c : Int
def tpT (t : Tp) : T := .lst true [.int t.a, .int t.b, .int t.c]
def drawT (t : Tp) (n : Int) : Int × Tp :=
  if 0 < t.a then (t.a % n, ⟨t.a / n, t.b, t.c⟩) else
  let c := t.c + 1
  let once := (t.b + 39373 * c) ^ 5 % 2147483647
  let twice := (once + c) * (once % 40009 + 7 + c) % 2147483629
  let wide := (t.b / 2147483647 + twice * 40009 + c) % 2305843009213693951
  ((twice * 48271 + wide * 39373 + once) % 2305843009213693921 / 64 % n, ⟨t.a, t.b, c⟩)
structure TpOk (t : Tp) : Prop where
  a0 : 0 ≤ t.a
  b0 : 0 ≤ t.b
  b1 : t.b < 2 ^ 62
  c0 : 0 ≤ t.c
  c1 : t.c < 2 ^ 40
theorem mulOk_n {i j : Int} (hi : i.natAbs < 2 ^ 64) (hj : j.natAbs < 2 ^ 64) : mulOk i j = true := mulOk_of hi hj (by decide)
theorem draw_eq {t : Tp} {n : Int} (h : TpOk t) (n0 : 0 < n) (n1 : n < 2 ^ 60) : m_law_draw [tpT t, .int n] = .ok (.int (drawT t n).1) [tpT (drawT t n).2, .int n] := by
  obtain ⟨a, b, c⟩ := t
  obtain ⟨a0, b0, b1, c0, c1⟩ := h
  simp only at a0 b0 b1 c0 c1
  unfold m_law_draw defF b_law_draw drawT tpT P_law_draw
  by_cases ha : 0 < a
  · simp [ha, n0, divOk_of (i := a) n0 (b := 64) (by omega) (by decide) (by decide), ixN]
  · have m1 : mulOk 39373 (c + 1) = true := mulOk_n (by decide) (by omega)
    have m2 : powOk (b + 39373 * (c + 1)) 5 = true := by
      unfold powOk
      simp
      omega
    obtain ⟨o, ho⟩ : ∃ o, o = (b + 39373 * (c + 1)) ^ 5 % 2147483647 := ⟨_, rfl⟩
    have o0 : 0 ≤ o := by rw [ho]; exact Int.emod_nonneg _ (by decide)
    have o1 : o < 2147483647 := by rw [ho]; exact Int.emod_lt_of_pos _ (by decide)
    have m3 : mulOk (o + (c + 1)) (o % 40009 + 7 + (c + 1)) = true := mulOk_n (by omega) (by omega)
    obtain ⟨w, hw⟩ : ∃ w, w = (o + (c + 1)) * (o % 40009 + 7 + (c + 1)) % 2147483629 := ⟨_, rfl⟩
    have w0 : 0 ≤ w := by rw [hw]; exact Int.emod_nonneg _ (by decide)
    have w1 : w < 2147483629 := by rw [hw]; exact Int.emod_lt_of_pos _ (by decide)
    have m4 : mulOk w 40009 = true := mulOk_n (by omega) (by decide)
    have m5 : mulOk w 48271 = true := mulOk_n (by omega) (by decide)
    obtain ⟨d, hd⟩ : ∃ d, d = (b / 2147483647 + w * 40009 + (c + 1)) % 2305843009213693951 := ⟨_, rfl⟩
    have d0 : 0 ≤ d := by rw [hd]; exact Int.emod_nonneg _ (by decide)
    have d1 : d < 2305843009213693951 := by rw [hd]; exact Int.emod_lt_of_pos _ (by decide)
    have m6 : mulOk d 39373 = true := mulOk_n (by omega) (by decide)
    have q1 : ∀ x, divOk x 2147483647 = true := fun x => divOk_of (b := 64) (by decide) (by decide) (by decide) (by decide)
    have q2 : ∀ x, divOk x 64 = true := fun x => divOk_of (b := 64) (by decide) (by decide) (by decide) (by decide)
    simp [ha, n0, ixN, m1, m2, ← ho, m3, ← hw, m4, m5, ← hd, m6, q1, q2]
/-- a tape of which k at most was drawn -/
structure Tk (k : Int) (t : Tp) : Prop where
  a0 : 0 ≤ t.a
  b0 : 0 ≤ t.b
  b1 : t.b < 2 ^ 62
  c0 : 0 ≤ t.c
  c1 : t.c ≤ k
theorem Tk.le {k k' : Int} {t : Tp} (h : Tk k t) (l : k ≤ k') : Tk k' t := ⟨h.a0, h.b0, h.b1, h.c0, Int.le_trans h.c1 l⟩
theorem draw_ex {k : Int} {t : Tp} {n : Int} (h : Tk k t) (hk : k < 2 ^ 39) (n0 : 0 < n) (n1 : n < 2 ^ 60) : ∃ r t', m_law_draw [tpT t, .int n] = .ok (.int r) [tpT t', .int n] ∧ 0 ≤ r ∧ r < n ∧ Tk (k + 1) t' := by
  have c1 := h.c1
  refine ⟨(drawT t n).1, (drawT t n).2, draw_eq ⟨h.a0, h.b0, h.b1, h.c0, by omega⟩ n0 n1, ?_, ?_, ?_⟩
  · unfold drawT
    by_cases ha : 0 < t.a
    · rw [if_pos ha]; exact Int.emod_nonneg _ (by omega)
    · rw [if_neg ha]; exact Int.emod_nonneg _ (by omega)
  · unfold drawT
    by_cases ha : 0 < t.a
    · rw [if_pos ha]; exact Int.emod_lt_of_pos _ n0
    · rw [if_neg ha]; exact Int.emod_lt_of_pos _ n0
  · unfold drawT
    have c0 := h.c0
    by_cases ha : 0 < t.a
    · rw [if_pos ha]; exact ⟨Int.ediv_nonneg h.a0 (by omega), h.b0, h.b1, h.c0, (by omega : t.c ≤ k + 1)⟩
    · rw [if_neg ha]; exact ⟨h.a0, h.b0, h.b1, (by omega : 0 ≤ t.c + 1), (by omega : t.c + 1 ≤ k + 1)⟩
/-- .. a natural number -/
theorem draw_nat {k : Int} {t : Tp} (n : Int) (h : Tk k t) (hk : k < 2 ^ 39) (n0 : 0 < n) (n1 : n < 2 ^ 60) : ∃ (r : Nat) (t' : Tp), m_law_draw [tpT t, .int n] = .ok (.int r) [tpT t', .int n] ∧ (r : Int) < n ∧ Tk (k + 1) t' := by
  obtain ⟨r, t', h1, h2, h3, h4⟩ := draw_ex (n := n) h hk n0 n1
  obtain ⟨q, rfl⟩ : ∃ q : Nat, r = q := ⟨r.toNat, by omega⟩
  exact ⟨q, t', h1, by omega, h4⟩
@[simp] theorem frz_tp (t : Tp) : frz (tpT t) = false := rfl
/-- the cells -/
def Bits (c : Nat) (z : Int) : Prop := Builtin.Int.intBits z ≤ c
theorem mulOk_bits {a b : Int} {c d : Nat} (h1 : Bits c a) (h2 : Bits d b) (h : c + d ≤ 134217728) : mulOk a b = true := decide_eq_true (Nat.le_trans (Nat.add_le_add h1 h2) h)
theorem abs_bits {a : Int} {c : Nat} (h : Bits c a) : Bits c (if a < 0 then -a else a) := by
  split
  · exact intBits_neg_le h
  · exact h
theorem tape_eq {cs : List Int} (hc : ∀ z ∈ cs, Bits 2000000 z) (i : Nat) (hi : i ≤ 100) : ∃ t, m_law_tape [.lst false (cs.map .int), .int (i : Nat)] = .ok (tpT t) [.lst false (cs.map .int), .int (i : Nat)] ∧ Tk 0 t := by
  obtain ⟨c, hcell⟩ : ∃ c : Int, c = cs.getD i 0 := ⟨_, rfl⟩
  have hb : Bits 2000000 c := by
    rw [hcell, List.getD_eq_getElem?_getD]
    cases q : cs[i]? with
    | none => show Builtin.Int.intBits 0 ≤ 2000000; decide
    | some z => exact hc z (List.mem_of_getElem? q)
  have e1 : uIf (bOf (eP pLtI (aCons (uVar 1) (aCons (uV (eP pLen (aCons (uVar 0) aNil))) aNil)))) (uV (eP pIx (aCons (uVar 0) (aCons (uVar 1) aNil)))) (uV (eC (.int 0))) [some (.lst false (cs.map .int)), some (.int (i : Nat)), none] = .ok (.v (.int c)) [some (.lst false (cs.map .int)), some (.int (i : Nat)), none] := by
    by_cases hlt : i < cs.length
    · have hat := at_mapI (f := T.int) false (List.getElem?_eq_getElem hlt) rfl
      have hc2 : cs[i] = c := by rw [hcell, List.getD_eq_getElem?_getD, List.getElem?_eq_getElem hlt]; rfl
      rw [hc2] at hat
      simp [hlt, hat]
    · have hc2 : c = 0 := by rw [hcell, List.getD_eq_getElem?_getD, List.getElem?_eq_none (by omega)]; rfl
      simp [hlt, hc2]
  obtain ⟨ac, hac⟩ : ∃ ac : Int, ac = if c < 0 then -c else c := ⟨_, rfl⟩
  have hac0 : 0 ≤ ac := by rw [hac]; split <;> omega
  have hacb : Bits 2000000 ac := by rw [hac]; exact abs_bits hb
  have m1 : mulOk ac (if (1000000000000000000 : Int) ≤ ac then 1 else 0) = true := by
    split
    · exact mulOk_bits (d := 1) hacb (show Builtin.Int.intBits 1 ≤ 1 by decide) (by decide)
    · exact mulOk_bits (d := 1) hacb (show Builtin.Int.intBits 0 ≤ 1 by decide) (by decide)
  have m2 : mulOk 39373 ((i : Nat) : Int) = true := mulOk_n (by decide) (by omega)
  have m3 : powOk 10 18 = true := by decide
  have p0 : 0 ≤ c % 2305843009213693951 := Int.emod_nonneg _ (by decide)
  have p1 : c % 2305843009213693951 < 2305843009213693951 := Int.emod_lt_of_pos _ (by decide)
  refine ⟨⟨ac * (if (1000000000000000000 : Int) ≤ ac then 1 else 0), c % 2305843009213693951 + 39373 * (i : Nat) + 17, 0⟩, ?_, ⟨?_, ?_, ?_, Int.le_refl _, Int.le_refl _⟩⟩
  · show (if [T.lst false (cs.map .int), T.int (i : Nat)].length = 2 then retF P_law_tape [.lst false (cs.map .int), .int (i : Nat)] (b_law_tape [some (.lst false (cs.map .int)), some (.int (i : Nat)), none]) else .no) = _
    rw [if_pos (show [T.lst false (cs.map .int), T.int ((i : Nat) : Int)].length = 2 from rfl)]
    have e : b_law_tape [some (.lst false (cs.map .int)), some (.int (i : Nat)), none] = .ok (.rt (tpT ⟨ac * (if (1000000000000000000 : Int) ≤ ac then 1 else 0), c % 2305843009213693951 + 39373 * (i : Nat) + 17, 0⟩)) [some (.lst false (cs.map .int)), some (.int (i : Nat)), some (.int c)] := by
      unfold b_law_tape
      rw [ap_sSeq, ap_sAsg, ap_eCold, ap_eOf, e1]
      show (sRet _) [some (.lst false (cs.map .int)), some (.int (i : Nat)), some (.int c)] = _
      have pa : pAbs [.int c] = some (.int ac) := by rw [p_abs, ← hac]
      unfold tpT
      simp [pa, m1, m2, m3, szN, -p_abs]
    rw [e]
    rfl
  · show 0 ≤ ac * (if (1000000000000000000 : Int) ≤ ac then 1 else 0)
    split
    · omega
    · omega
  · show 0 ≤ c % 2305843009213693951 + 39373 * (i : Nat) + 17
    omega
  · show c % 2305843009213693951 + 39373 * (i : Nat) + 17 < 2 ^ 62
    omega
theorem cut_takeN {α : Type} (xs : List α) (n : Nat) : cutL xs none (some ((n : Nat) : Int)) = xs.take n := by
  unfold cutL
  rw [show HT.sIx xs.length xs.length (some ((n : Nat) : Int)) = min n xs.length from HT.sIx_nat .., show HT.sIx xs.length 0 none = 0 from rfl, List.drop_zero, Nat.sub_zero]
  rcases Nat.le_total n xs.length with h | h
  · rw [Nat.min_eq_left h]
  · rw [Nat.min_eq_right h, List.take_length, List.take_of_length_le h]
theorem folded_eq {ns : List Int} (M : Nat) (M0 : 0 < M) (M1 : M ≤ 50) (hn : ns.length ≤ 63) (hb : ∀ z ∈ ns, Bits 1048576 z) : ∃ cs : List Int, (∀ z ∈ cs, Bits 2000000 z) ∧ cs.length ≤ M ∧ (ns ≠ [] → cs ≠ []) ∧ m_law_folded [.scr ns, .int (M : Nat)] = .ok (.lst true (cs.map .int)) [.scr ns, .int (M : Nat)] := by
  obtain ⟨L, hL⟩ : ∃ L, L = cutL ns (some (M : Nat)) (some 63) := ⟨_, rfl⟩
  have hLmem : ∀ z ∈ L, z ∈ ns := fun z hz => by
    rw [hL] at hz
    exact List.mem_of_mem_drop (List.mem_of_mem_take hz)
  have hLlen : L.length ≤ 63 := by
    rw [hL]
    unfold cutL
    rw [List.length_take, List.length_drop]
    omega
  have hL4 : L ≠ [] → M ≤ ns.length := fun h => by
    rcases Nat.lt_or_ge ns.length M with l | l
    · exact absurd (by
        rw [hL]
        unfold cutL
        rw [show HT.sIx ns.length 0 (some (M : Nat)) = ns.length from by rw [HT.sIx_nat]; omega, List.drop_length, List.take_nil]) h
    · exact l
  let I : Nat → SL → Prop := fun j st => ∃ cs : List Int, cs.length = (ns.take M).length ∧ (∀ z ∈ cs, Bits (1048640 + j) z) ∧ st = [some (.scr ns), some (.int (M : Nat)), some (.lst true (cs.map .int)), none, none]
  have s1 : slT (.scr ns) none (some (M : Nat)) = some (.lst true ((ns.take M).map .int)) := by
    show some (T.lst true ((cutL ns none (some ((M : Nat) : Int))).map .int)) = _
    rw [cut_takeN]
  have s2 : slT (.scr ns) (some (M : Nat)) (some 63) = some (.lst true (L.map .int)) := by rw [hL]; rfl
  have e1 : pList [.lst true ((ns.take M).map T.int)] = some (.lst true ((ns.take M).map .int)) := by
    unfold pList
    simp [-List.map_take]
  have en := enT_zip T.int L 0
  have key : ∃ r as, m_law_folded [.scr ns, .int (M : Nat)] = .ok r as ∧ ∃ cs : List Int, r = .lst true (cs.map .int) ∧ as = [.scr ns, .int (M : Nat)] ∧ cs.length = (ns.take M).length ∧ ∀ z ∈ cs, Bits (1048640 + L.length) z := by
    refine def_ok rfl ?_
    unfold b_law_folded
    refine ok_seq fun K1 hK1 _ => ?_
    simp [s1, e1, -List.map_take]
    apply hK1
    refine ok_seq fun K2 hK2 _ => ?_
    refine ok_dp ?_
    unfold l_law_folded_2
    refine ok_forD (l := L.zipIdx) (fun p : Int × Nat => T.tup [.int (p.2 : Nat), .int p.1]) (st1 := [some (.scr ns), some (.int (M : Nat)), some (.lst true ((ns.take M).map .int)), none, none]) ?_ I ⟨ns.take M, rfl, fun z hz => Nat.le_trans (hb z (List.mem_of_mem_take hz)) (by omega), rfl⟩ ?_ ?_
    · simp [s2, en, -List.map_take]
    · rintro i p st hp ⟨cs, hcl, hcb, rfl⟩
      have hm := List.mem_zipIdx_iff_getElem?.mp (List.mem_of_getElem? hp)
      have hz := hLmem _ (List.mem_of_getElem? hm)
      have hlt := (List.getElem?_eq_some_iff.mp hm).1
      have h4 := hL4 (by intro e; rw [e] at hlt; simp at hlt)
      have hc4 : cs.length = M := by rw [hcl, List.length_take]; omega
      obtain ⟨r, hr⟩ : ∃ r : Nat, r = p.2 % M := ⟨_, rfl⟩
      have hr4 : r < cs.length := by rw [hc4, hr]; exact Nat.mod_lt _ M0
      have hri : ((p.2 : Nat) : Int) % (M : Nat) = (r : Nat) := by rw [hr]; exact (Int.natCast_emod ..).symm
      have hat := at_mapI (f := T.int) true (List.getElem?_eq_getElem hr4) rfl
      have hb2 : Bits 64 (((p.2 : Nat) : Int) + 2) := PyProof.Rows.intBits_le (by omega)
      have m1 : mulOk p.1 (((p.2 : Nat) : Int) + 2) = true := mulOk_bits (hb _ hz) hb2 (by decide)
      have hix : ixN (cs.map T.int).length ((r : Nat) : Int) = some r := ixN_nat _ _ (by rw [List.length_map]; exact hr4)
      rw [List.length_map] at hix
      have hset : (cs.map T.int).set r (.int (cs[r] + p.1 * (((p.2 : Nat) : Int) + 2))) = (cs.set r (cs[r] + p.1 * (((p.2 : Nat) : Int) + 2))).map T.int := by rw [List.map_set]
      refine ⟨_, rfl, fun K' hn _ _ _ => ?_⟩
      refine ok_wp ?_
      unfold k_law_folded_1
      simp [hri, hat, m1, hix, M0, -List.map_set]
      refine hn _ ⟨cs.set r (cs[r] + p.1 * (((p.2 : Nat) : Int) + 2)), by rw [List.length_set, hcl], fun z hz2 => ?_, by rw [hset]⟩
      rcases List.mem_or_eq_of_mem_set hz2 with h | h
      · exact Nat.le_trans (hcb z h) (by omega)
      · rw [h]
        have a1 := hcb cs[r] (List.getElem_mem hr4)
        have a2 : Builtin.Int.intBits (p.1 * (((p.2 : Nat) : Int) + 2)) ≤ 1048576 + 64 := intBits_mul_le (hb _ hz) hb2
        exact Nat.le_trans (intBits_add_le a1 a2) (by omega)
    · rintro st ⟨cs, hcl, hcb, rfl⟩
      apply hK2
      rw [List.length_zipIdx] at hcb
      simp
      exact ⟨_, _, ⟨rfl, rfl⟩, cs, rfl, rfl, by rw [hcl, List.length_take], hcb⟩
  obtain ⟨r, as, h, cs, rfl, rfl, hcl, hcb⟩ := key
  refine ⟨cs, fun z hz => Nat.le_trans (hcb z hz) (by omega), by rw [hcl, List.length_take]; omega, fun hne e => hne ?_, h⟩
  rw [e, List.length_take] at hcl
  have : ns.length = 0 := by
    have := hcl.symm
    simp only [List.length_nil] at this
    omega
  exact List.length_eq_zero_iff.mp this
end
end W_k13

namespace W_k13
open PySem PySem.Spec PyProof.Rows L2 Ev
noncomputable section
/-! comprehensions that draw -/
theorem lc_tape {α β : Type} {f : SI} {g : TS'} {te : SE} {vs : List Nat} (st : Tp → SL) (dec : α → T) (enc : β → T) (P : β → Prop) {l : List α} {t0 : Tp} {k c : Int} (hc : 0 ≤ c) (h0 : Tk k t0)
    {s0 : SL} (hf : f s0 = .ok (l.map dec) (st t0)) (hl : l.length ≤ 1000000)
    (h : ∀ (i : Nat) a t, l[i]? = some a → i < l.length → Tk (k + c * (i : Nat)) t → ∃ x t', P x ∧ Tk (k + c * (i : Nat) + c) t' ∧ (match g (dec a) (wipeL (st t) vs) with
      | some st2 => (match te st2 with
        | .ok y st3 => y = enc x ∧ wipeL st3 vs = wipeL (st t') vs
        | _ => False)
      | none => False))
    (hb : ∀ t', backL (st t0) vs (wipeL (wipeL (st t') vs) vs) = st t') :
    ∃ (xs : List β) (t' : Tp), eLc f g tYesB te vs s0 = .ok (.lst true (xs.map enc)) (st t') ∧ xs.length = l.length ∧ (∀ x ∈ xs, P x) ∧ Tk (k + c * (l.length : Nat)) t' := by
  obtain ⟨acc, st2, ⟨xs, t', e1, e2, e3, e4⟩, hal, e⟩ := lc_inv (te := te) (g := g) (vs := vs) (st := s0) (st1 := st t0) (ts := l.map dec)
    (fun acc s => ∃ (xs : List β) (t' : Tp), acc = xs.map enc ∧ s = wipeL (st t') vs ∧ (∀ x ∈ xs, P x) ∧ Tk (k + c * (acc.length : Nat)) t') hf (by rw [List.length_map]; omega)
    ⟨[], t0, rfl, rfl, (fun _ z => nomatch z), by simpa using h0⟩ (fun i u acc s hi ha ⟨xs, t', e1, e2, e3, e4⟩ => by
      rw [List.getElem?_map] at hi
      cases q : l[i]? with
      | none => rw [q] at hi; cases hi
      | some a =>
        rw [q] at hi
        cases hi
        rw [ha] at e4
        obtain ⟨x, t2, q4, q5, q0⟩ := h i a t' q (List.getElem?_eq_some_iff.mp q).1 e4
        obtain ⟨s2, s3, q1, q2, q3⟩ : ∃ s2 s3, g (dec a) (wipeL (st t') vs) = some s2 ∧ te s2 = .ok (enc x) s3 ∧ wipeL s3 vs = wipeL (st t2) vs := by
          cases z : g (dec a) (wipeL (st t') vs) with
          | none => rw [z] at q0; exact q0.elim
          | some s2 =>
            rw [z] at q0
            have q0' : (match te s2 with
              | .ok y st3 => y = enc x ∧ wipeL st3 vs = wipeL (st t2) vs
              | _ => False) := q0
            cases z2 : te s2 with
            | ex _ _ => rw [z2] at q0'; exact q0'.elim
            | no => rw [z2] at q0'; exact q0'.elim
            | ok y s3 =>
              rw [z2] at q0'
              obtain ⟨r1, r2⟩ := q0'
              exact ⟨s2, s3, rfl, by rw [z2, r1], r2⟩
        refine ⟨s2, enc x, s3, by rw [e2]; exact q1, q2, xs ++ [x], t2, by rw [e1, List.map_append]; rfl, q3, fun y hy => ?_, ?_⟩
        · rcases List.mem_append.mp hy with hy | hy
          · exact e3 y hy
          · rw [List.mem_singleton.mp hy]; exact q4
        · rw [List.length_append, List.length_singleton, ha]
          have e : k + c * ((i + 1 : Nat) : Int) = k + c * (i : Nat) + c := by
            rw [show ((i + 1 : Nat) : Int) = (i : Int) + 1 by omega, Int.mul_add, Int.mul_one]
            omega
          rw [e]
          exact q5)
  rw [List.length_map] at hal
  refine ⟨xs, t', ?_, ?_, e3, ?_⟩
  · rw [e, e2, hb, e1]
  · rw [← hal, e1, List.length_map]
  · rw [← hal]; exact e4
/-- .. of some of what is walked -/
theorem lcs_tape {α : Type} {f : SI} {g : TS'} {tt : ST} {te : SE} {vs : List Nat} (st : Tp → SL) (dec : α → T) {l : List α} {t0 : Tp} {k c : Int} (hc : 0 ≤ c) (h0 : Tk k t0)
    {s0 : SL} (hf : f s0 = .ok (l.map dec) (st t0)) (hl : l.length ≤ 1000000)
    (h : ∀ (i : Nat) a t, l[i]? = some a → i < l.length → Tk (k + c * (i : Nat)) t → ∃ t', Tk (k + c * (i : Nat) + c) t' ∧ (match g (dec a) (wipeL (st t) vs) with
      | some st2 => (match tt st2 with
        | .ok b st3 => wipeL st3 vs = wipeL (st t') vs ∧ te st3 = .ok (dec a) st3
        | _ => False)
      | none => False))
    (hb : ∀ t', backL (st t0) vs (wipeL (wipeL (st t') vs) vs) = st t') :
    ∃ (xs : List α) (t' : Tp), eLc f g tt te vs s0 = .ok (.lst true (xs.map dec)) (st t') ∧ xs.Sublist l ∧ Tk (k + c * (l.length : Nat)) t' := by
  have key : ∀ (us : List α) (j : Nat) (acc : List T) (t : Tp), (∀ i a, us[i]? = some a → l[j + i]? = some a) → j + us.length = l.length → acc.length ≤ j → Tk (k + c * (j : Nat)) t →
      ∃ (xs : List α) (t' : Tp), lcL g tt te vs (us.map dec) acc (wipeL (st t) vs) = .ok (acc ++ xs.map dec) (wipeL (st t') vs) ∧ xs.Sublist us ∧ Tk (k + c * (l.length : Nat)) t' := by
    intro us
    induction us with
    | nil =>
      intro j acc t hg hn _ ht
      refine ⟨[], t, ?_, List.Sublist.refl _, ?_⟩
      · show R.ok acc (wipeL (st t) vs) = _
        simp
      · rw [← hn]; simpa using ht
    | cons a us ih =>
      intro j acc t hg hn hacc ht
      obtain ⟨t', q5, q0⟩ := h j a t (by simpa using hg 0 a rfl) (List.getElem?_eq_some_iff.mp (by simpa using hg 0 a rfl : l[j]? = some a)).1 ht
      obtain ⟨b, s2, s3, q1, q2, q3, q4⟩ : ∃ b s2 s3, g (dec a) (wipeL (st t) vs) = some s2 ∧ tt s2 = .ok b s3 ∧ wipeL s3 vs = wipeL (st t') vs ∧ te s3 = .ok (dec a) s3 := by
        cases z : g (dec a) (wipeL (st t) vs) with
        | none => rw [z] at q0; exact q0.elim
        | some s2 =>
          rw [z] at q0
          have q0' : (match tt s2 with
            | .ok b st3 => wipeL st3 vs = wipeL (st t') vs ∧ te st3 = .ok (dec a) st3
            | _ => False) := q0
          cases z2 : tt s2 with
          | ex _ _ => rw [z2] at q0'; exact q0'.elim
          | no => rw [z2] at q0'; exact q0'.elim
          | ok b s3 =>
            rw [z2] at q0'
            exact ⟨b, s2, s3, rfl, z2, q0'.1, q0'.2⟩
      have e : k + c * (j : Nat) + c = k + c * ((j + 1 : Nat) : Int) := by
        rw [show ((j + 1 : Nat) : Int) = (j : Int) + 1 by omega, Int.mul_add, Int.mul_one]
        omega
      rw [e] at q5
      have hg' : ∀ i x, us[i]? = some x → l[j + 1 + i]? = some x := fun i x hx => by
        have z := hg (i + 1) x (by simpa using hx)
        rw [show j + 1 + i = j + (i + 1) by omega]
        exact z
      rw [List.length_cons] at hn
      cases b with
      | false =>
        obtain ⟨xs, t2, r1, r2, r3⟩ := ih (j + 1) acc t' hg' (by omega) (by omega) q5
        refine ⟨xs, t2, ?_, r2.cons a, r3⟩
        show (match g (dec a) (wipeL (st t) vs) with
          | none => R.no
          | some st1 => match tt st1 with
            | .ok true st2 => match te st2 with
              | .ok y st3 => if decide (acc.length < sizeLine) then lcL g tt te vs (us.map dec) (acc ++ [y]) (wipeL st3 vs) else R.no
              | _ => R.no
            | .ok false st2 => lcL g tt te vs (us.map dec) acc (wipeL st2 vs)
            | _ => R.no) = _
        rw [q1]
        show (match tt s2 with
            | .ok true st2 => match te st2 with
              | .ok y st3 => if decide (acc.length < sizeLine) then lcL g tt te vs (us.map dec) (acc ++ [y]) (wipeL st3 vs) else R.no
              | _ => R.no
            | .ok false st2 => lcL g tt te vs (us.map dec) acc (wipeL st2 vs)
            | _ => R.no) = _
        rw [q2]
        show lcL g tt te vs (us.map dec) acc (wipeL s3 vs) = _
        rw [q3]
        exact r1
      | true =>
        obtain ⟨xs, t2, r1, r2, r3⟩ := ih (j + 1) (acc ++ [dec a]) t' hg' (by omega) (by rw [List.length_append, List.length_singleton]; omega) q5
        refine ⟨a :: xs, t2, ?_, r2.cons_cons a, r3⟩
        show (match g (dec a) (wipeL (st t) vs) with
          | none => R.no
          | some st1 => match tt st1 with
            | .ok true st2 => match te st2 with
              | .ok y st3 => if decide (acc.length < sizeLine) then lcL g tt te vs (us.map dec) (acc ++ [y]) (wipeL st3 vs) else R.no
              | _ => R.no
            | .ok false st2 => lcL g tt te vs (us.map dec) acc (wipeL st2 vs)
            | _ => R.no) = _
        rw [q1]
        show (match tt s2 with
            | .ok true st2 => match te st2 with
              | .ok y st3 => if decide (acc.length < sizeLine) then lcL g tt te vs (us.map dec) (acc ++ [y]) (wipeL st3 vs) else R.no
              | _ => R.no
            | .ok false st2 => lcL g tt te vs (us.map dec) acc (wipeL st2 vs)
            | _ => R.no) = _
        rw [q2]
        show (match te s3 with
              | .ok y st3 => if decide (acc.length < sizeLine) then lcL g tt te vs (us.map dec) (acc ++ [y]) (wipeL st3 vs) else R.no
              | _ => R.no) = _
        rw [q4]
        show (if decide (acc.length < sizeLine) = true then lcL g tt te vs (us.map dec) (acc ++ [dec a]) (wipeL s3 vs) else R.no) = _
        rw [if_pos (decide_eq_true (szL _ (by omega))), q3, r1, List.map_cons, List.append_assoc]
        rfl
  obtain ⟨xs, t', r1, r2, r3⟩ := key l 0 [] t0 (fun i a hi => by simpa using hi) (by omega) (Nat.le_refl _) (by simpa using h0)
  refine ⟨xs, t', ?_, r2, r3⟩
  rw [ap_eLc, hf]
  show (match lcL g tt te vs (l.map dec) [] (wipeL (st t0) vs) with
    | .ok acc st1' => R.ok (T.lst true acc) (backL (st t0) vs (wipeL st1' vs))
    | _ => R.no) = _
  rw [r1]
  show R.ok (T.lst true ([] ++ xs.map dec)) (backL (st t0) vs (wipeL (wipeL (st t') vs) vs)) = _
  rw [hb]
  rfl
/-- range of numbers in a comprehension -/
theorem range_n {f : SA} {st st1 : SL} (n : Nat) {z : Int} (hz : z = (n : Nat)) (h : n ≤ 1000000) (h1 : f st = .ok [.v (.int z)] st1) : Ev.iInts rg1 f st = .ok ((List.range n).map fun i : Nat => T.int (i : Nat)) st1 := by
  subst hz
  exact range_ok (by omega) h1
end
end W_k13

namespace W_k13
open PySem PySem.Spec PyProof.Rows L2 Ev
noncomputable section
/-! names -/
def sS (cs : List Nat) : Str := ⟨cs.toArray⟩
def Letter (c : Nat) : Prop := 97 ≤ c ∧ c ≤ 122
structure IsName (cs : List Nat) : Prop where
  l1 : 1 ≤ cs.length
  l8 : cs.length ≤ 8
  az : ∀ c ∈ cs, Letter c
abbrev abc : Str := "abcdefghijklmnopqrstuvwxyz"
theorem abc_cps : abc.cps.toList = (List.range 26).map (97 + ·) := by decide +kernel
@[simp] theorem sS_cps (cs : List Nat) : (sS cs).cps.toList = cs := rfl
@[simp] theorem sS_len (cs : List Nat) : (sS cs).length = cs.length := rfl
theorem p_lenS (cs : List Nat) (h : cs.length ≤ 1000) : pLen [.str (sS cs)] = some (.int (cs.length : Nat)) := by
  show (lenT (.str (sS cs))).map (fun n => T.int (n : Nat)) = _
  have e : lenT (.str (sS cs)) = if decide ((sS cs).length ≤ sizeLine) = true then some (sS cs).length else none := by
    unfold lenT
    rfl
  rw [e, decide_eq_true (szN _ (by rw [sS_len]; omega)), if_pos rfl]
  rfl
theorem eqT_str {a b : Str} (ha : PyData.strOk a = true) (hb : PyData.strOk b = true) : eqT (.str a) (.str b) = some (a == b) := by
  show (if (SeqAt.shaped (.str a) && SeqAt.shaped (.str b)) = true then some (PyData.eqv (.str a) (.str b)) else none) = _
  have e : ∀ x : Str, PyData.strOk x = true → SeqAt.shaped (.str x) = true := fun x h => Bool.and_eq_true_iff.mpr ⟨h, decide_eq_true (Nat.zero_le 64)⟩
  rw [e a ha, e b hb, if_pos (show (true && true) = true from rfl)]
  rfl
theorem ok_S {cs : List Nat} (h : cs.length ≤ 1000) (hl : ∀ c ∈ cs, Letter c) : PyData.strOk (sS cs) = true := by
  unfold PyData.strOk sS
  rw [Array.all_eq_true']
  intro c hc
  have := hl c (by simpa using hc)
  exact decide_eq_true (by have := this.2; omega)
theorem sS_inj {a b : List Nat} (h : sS a = sS b) : a = b := by
  have := congrArg (fun z : Str => z.cps.toList) h
  simpa using this
theorem p_neS (cs : List Nat) (h : cs.length ≤ 1000) (hl : ∀ c ∈ cs, Letter c) : pNe [.str (sS cs), .str ""] = some (.bl (!decide (cs = []))) := by
  rw [p_ne, eqT_str (ok_S h hl) (by decide +kernel)]
  show some (T.bl (!(sS cs == ("" : Str)))) = _
  congr 2
  congr 1
  have e : ("" : Str) = sS [] := by decide +kernel
  rw [e]
  cases cs with
  | nil => exact beq_self_eq_true _
  | cons c cs =>
    rw [decide_eq_false (by simp)]
    exact beq_false_of_ne fun h => by cases sS_inj h
theorem p_addSS (a b : List Nat) (h : a.length + b.length ≤ 1000) : pAdd [.str (sS a), .str (sS b)] = some (.str (sS (a ++ b))) := by
  have e : pAdd [.str (sS a), .str (sS b)] = if decide ((sS a).length + (sS b).length ≤ sizeLine) = true then some (T.str (sS a ++ sS b)) else none := by
    unfold pAdd
    rfl
  rw [e, decide_eq_true (szN _ (by rw [sS_len, sS_len]; omega)), if_pos rfl]
  congr 2
  show (⟨a.toArray ++ b.toArray⟩ : Str) = ⟨(a ++ b).toArray⟩
  simp
theorem sl_S (a : List Nat) (lo hi : Option Int) (h : a.length ≤ 1000) : slT (.str (sS a)) lo hi = some (.str (sS (cutL a lo hi))) := by
  show (if decide ((sS a).length ≤ sizeLine) = true then some (T.str (cutS (sS a) lo hi)) else none) = _
  rw [decide_eq_true (szN _ (by rw [sS_len]; omega)), if_pos rfl]
  rfl
theorem at_S (a : List Nat) (i : Nat) (c : Nat) (h : a.length ≤ 1000) (hi : a[i]? = some c) : atT (.str (sS a)) ((i : Nat) : Int) = some (.str (sS [c])) := by
  show (if decide ((sS a).length ≤ sizeLine) = true then (atI (sS a).cps.toList ((i : Nat) : Int)).map (fun c => T.str ⟨#[c]⟩) else none) = _
  rw [decide_eq_true (szN _ (by rw [sS_len]; omega)), if_pos rfl, sS_cps, atI_nat hi]
  rfl
theorem p_mulS01 (a : List Nat) (k : Int) (h : a.length ≤ 100) (hk : k = 0 ∨ k = 1) : ∃ b : List Nat, pMulX [.str (sS a), .int k] = some (.str (sS b)) ∧ b.length ≤ a.length ∧ ∀ c ∈ b, c ∈ a := by
  rcases hk with rfl | rfl
  · exact ⟨[], p_mul0 _ (by rw [sS_len]; exact h), Nat.zero_le _, fun c hc => nomatch hc⟩
  · exact ⟨a, p_mul1 _ (by rw [sS_len]; exact h), Nat.le_refl _, fun c hc => hc⟩
theorem cut_mem {α : Type} {xs : List α} {lo hi : Option Int} {x : α} (h : x ∈ cutL xs lo hi) : x ∈ xs := by
  unfold cutL at h
  exact List.mem_of_mem_drop (List.mem_of_mem_take h)
theorem cut_len {α : Type} (xs : List α) (lo hi : Option Int) : (cutL xs lo hi).length ≤ xs.length := by
  unfold cutL
  rw [List.length_take, List.length_drop]
  omega
theorem at3 (a b c : List Nat) (w : Nat) (hw : w ≤ 2) : ∃ z, (z = a ∨ z = b ∨ z = c) ∧ atT (.lst true [.str (sS a), .str (sS b), .str (sS c)]) ((w : Nat) : Int) = some (.str (sS z)) := by
  match w, hw with
  | 0, _ => exact ⟨a, .inl rfl, by simp⟩
  | 1, _ => exact ⟨b, .inr (.inl rfl), by simp⟩
  | 2, _ => exact ⟨c, .inr (.inr rfl), by simp⟩
theorem name_step {a b : Option T} {sh ap st : Int} {stem head tail : List Nat} {L : List T} (k : Nat) (hk : k ≤ 1000) (h1 : 0 ≤ sh) (h1' : sh < 26) (h2 : 0 ≤ ap) (h2' : ap < 100) (h3 : 0 ≤ st) (h3' : st < 100) (hs : stem.length ≤ 7) (ht : head.length + tail.length ≤ 7) (hh : ∀ c ∈ head, Letter c) (htl : ∀ c ∈ tail, Letter c) (fL : frzL L = true) (hL : L.length ≤ 1000) :
    ∃ z w sg, IsName z ∧ k_law_names_1 [a, b, some (.str abc), some (.int sh), some (.str (sS stem)), some (.int ap), some (.int st), some (.lst true L), some (.str (sS head)), some (.str (sS tail)), some (.int (k : Nat)), none, none] = .ok .nx [a, b, some (.str abc), some (.int sh), some (.str (sS stem)), some (.int ap), some (.int st), some (.lst true (L ++ [.str (sS z)])), some (.str (sS head)), some (.str (sS tail)), some (.int (k : Nat)), some w, some sg] := by
  obtain ⟨w, hw, hw2⟩ : ∃ w : Nat, (sh + ap + (stem.length : Nat)) % 3 * (if tail = [] then 0 else 1) = (w : Nat) ∧ w ≤ 2 := by
    refine ⟨((sh + ap + (stem.length : Nat)) % 3 * (if tail = [] then 0 else 1)).toNat, ?_, ?_⟩ <;> split <;> omega
  have pl := p_lenS stem (by omega)
  have plt := p_lenS tail (by omega)
  have pn := p_neS tail (by omega) htl
  have m0 : mulOk ((sh + ap + (stem.length : Nat)) % 3) (if tail = [] then 0 else 1) = true := mulOk_sm (by omega) (by omega) (by split <;> decide) (by split <;> decide)
  -- the sign
  obtain ⟨q, hq, hq2⟩ : ∃ q : Int, atT (.lst true [.int (k : Nat), .int (((k : Nat) : Int) / 2), .int (k : Nat)]) ((w : Nat) : Int) = some (.int q) ∧ 0 ≤ q ∧ q ≤ 1000 := by
    match w, hw2 with
    | 0, _ => exact ⟨((k : Nat) : Int), by simp, by omega⟩
    | 1, _ => exact ⟨((k : Nat) : Int) / 2, by simp, by omega⟩
    | 2, _ => exact ⟨((k : Nat) : Int), by simp, by omega⟩
  have d2 : divOk ((k : Nat) : Int) 2 = true := divOk_of (b := 64) (by decide) (by decide) (by decide) (by decide)
  have m1 : mulOk st q = true := mulOk_sm (by omega) (by omega) (by omega) (by omega)
  obtain ⟨r, hr, hr2⟩ : ∃ r : Nat, (sh + st * q) % 26 = (r : Nat) ∧ r < 26 := ⟨((sh + st * q) % 26).toNat, by omega, by omega⟩
  have hab : abc = sS ((List.range 26).map (97 + ·)) := by
    have := abc_cps
    unfold sS
    rw [← this]
  have sgn : atT (.str abc) ((r : Nat) : Int) = some (.str (sS [97 + r])) := by
    rw [hab]
    exact at_S _ r (97 + r) (by simp) (by rw [List.getElem?_map, List.getElem?_range hr2]; rfl)
  -- the tails
  obtain ⟨t2, e2, l2, c2⟩ := p_mulS01 tail (((k : Nat) : Int) % 2) (by omega) (by omega)
  obtain ⟨j, hj⟩ : ∃ j : Nat, ((k : Nat) : Int) % (((tail.length : Nat) : Int) + 1) = (j : Nat) := ⟨(((k : Nat) : Int) % (((tail.length : Nat) : Int) + 1)).toNat, by have := Int.emod_nonneg ((k : Nat) : Int) (b := ((tail.length : Nat) : Int) + 1) (by omega); omega⟩
  have e3 := sl_S tail none (some ((j : Nat) : Int)) (by omega)
  obtain ⟨z, hz, ez⟩ := at3 tail t2 (cutL tail none (some ((j : Nat) : Int))) w hw2
  have hz1 : z.length ≤ tail.length := by
    rcases hz with rfl | rfl | rfl
    · exact Nat.le_refl _
    · exact l2
    · exact cut_len _ _ _
  have hz2 : ∀ c ∈ z, Letter c := by
    rcases hz with rfl | rfl | rfl
    · exact htl
    · exact fun c hc => htl c (c2 c hc)
    · exact fun c hc => htl c (cut_mem hc)
  have a1 := p_addSS head [97 + r] (by simp; omega)
  have a2 := p_addSS (head ++ [97 + r]) z (by simp; omega)
  refine ⟨head ++ [97 + r] ++ z, .int (w : Nat), .str (sS [97 + r]), ⟨by simp; omega, by simp; omega, fun c hc => ?_⟩, ?_⟩
  · simp only [List.mem_append, List.mem_singleton] at hc
    rcases hc with (hc | hc) | hc
    · exact hh c hc
    · subst hc; exact ⟨by omega, by omega⟩
    · exact hz2 c hc
  · have mp := p_appI (.str (sS (head ++ [97 + r] ++ z))) L rfl (by omega)
    have pos3 : (0 : Int) < ((tail.length : Nat) : Int) + 1 := by omega
    generalize sS stem = SS at pl
    unfold k_law_names_1
    simp [mp, pl, plt, pn, m0, hw, hq, d2, m1, hr, sgn, e2, hj, e3, ez, a1, a2, p_mulXI, szN, pos3, -p_len, -p_app, -p_ne, -List.append_assoc]
theorem abc_eq : abc = sS ((List.range 26).map (97 + ·)) := by
  have := abc_cps
  unfold sS
  rw [← this]
theorem abc_at (r : Nat) (h : r < 26) : atT (.str abc) ((r : Nat) : Int) = some (.str (sS [97 + r])) := by
  rw [abc_eq]
  exact at_S _ r (97 + r) (by simp) (by rw [List.getElem?_map, List.getElem?_range h]; rfl)
abbrev nmT (z : List Nat) : T := .str (sS z)
theorem join_one : ∀ cs : List Nat, Txt.join ⟨#[]⟩ (cs.map fun c => sS [c]) = sS cs := by
  intro cs
  show Builtin.Str.glued _ _ = _
  rw [StrLaws.glued_eq_join]
  induction cs with
  | nil => rfl
  | cons c cs ih =>
    cases cs with
    | nil => rfl
    | cons d cs =>
      show sS [c] ++ ⟨#[]⟩ ++ Str.join ⟨#[]⟩ ((d :: cs).map fun c => sS [c]) = _
      rw [ih]
      show (⟨#[c] ++ #[] ++ (d :: cs).toArray⟩ : Str) = ⟨(c :: d :: cs).toArray⟩
      congr 1
      simp
theorem join_chars (cs : List Nat) (h : cs.length ≤ 1000) (o : Bool) : pJoin [.str "", .lst o (cs.map fun c => .str (sS [c]))] = some (.str (sS cs)) := by
  have e : (cs.map fun c => T.str (sS [c])) = (cs.map fun c => sS [c]).map T.str := by rw [List.map_map]; rfl
  have hs : ∀ l : List Nat, (l.map fun c => (sS [c]).length).sum = l.length := by
    intro l
    induction l with
    | nil => rfl
    | cons c l ih => rw [List.map_cons, List.sum_cons, ih, List.length_cons]; show 1 + _ = _; omega
  rw [e, p_joinL _ _ _ (by
    rw [List.map_map, List.length_map]
    have := hs cs
    have e0 : ("" : Str).length = 0 := by decide +kernel
    rw [e0]
    have e1 : (cs.map ((fun x : Str => x.length) ∘ fun c => sS [c])).sum = cs.length := hs cs
    omega)]
  congr 2
  have e2 : ("" : Str) = (⟨#[]⟩ : Str) := by decide +kernel
  rw [e2]
  show Txt.join ⟨#[]⟩ (cs.map fun c => sS [c]) = sS cs
  exact join_one cs
theorem names_ex {k : Int} {t : Tp} (h : Tk k t) (hk : k < 2 ^ 37) (n : Nat) (hn : n ≤ 26) : ∃ (zs : List (List Nat)) (t' : Tp), m_law_names [tpT t, .int (n : Nat)] = .ok (.lst true (zs.map nmT)) [tpT t', .int (n : Nat)] ∧ zs.length = n ∧ (∀ z ∈ zs, IsName z) ∧ Tk (k + 20) t' := by
  obtain ⟨sh, t1, d1, s1, h1⟩ := draw_nat 26 h (by omega) (by decide) (by decide)
  obtain ⟨m, t2, d2, m1, h2⟩ := draw_nat 8 h1 (by omega) (by decide) (by decide)
  obtain ⟨cs, t3, e3, l3, p3, h3⟩ := lc_tape (f := iInts rg1 (aCons (uV (eCall m_law_draw [] (aCons (uVar 0) (aCons (uV (eC (.int 8))) aNil)))) aNil)) (s0 := [some (tpT t1), some (.int (n : Nat)), some (.str abc), some (.int (sh : Nat)), none, none, none, none, none, none, none, none, none]) (g := tgN 10) (te := (eCold (eP pIx (aCons (uVar 2) (aCons (uV (eCall m_law_draw [] (aCons (uVar 0) (aCons (uV (eC (.int 26))) aNil)))) aNil))))) (vs := [10])
    (fun t => [some (tpT t), some (.int (n : Nat)), some (.str abc), some (.int (sh : Nat)), none, none, none, none, none, none, none, none, none]) (fun i : Nat => T.int (i : Nat)) (fun c => .str (sS [c])) Letter (l := List.range m) (c := 1) (by decide) h2
    (range_n m rfl (by omega) (by simp [d2])) (by simp; omega) (fun i a t hi hl ht => by
      rw [List.length_range] at hl
      obtain ⟨r, t', d, r1, h'⟩ := draw_nat 26 ht (by omega) (by decide) (by decide)
      refine ⟨97 + r, t', ⟨by omega, by omega⟩, h', ?_⟩
      have := abc_at r (by omega)
      simp [tgN, d, this]) (fun _ => rfl)
  rw [List.length_range] at l3 h3
  have jn := join_chars cs (by omega) true
  obtain ⟨ap, t4, d4, a1, h4⟩ := draw_nat ((cs.length : Nat) + 1) h3 (by omega) (by omega) (by omega)
  obtain ⟨sr, t5, d5, s5, h5⟩ := draw_nat 3 h4 (by omega) (by decide) (by decide)
  obtain ⟨st, hst, ast⟩ := at_disp [1, 7, 25] sr (by simp; omega)
  simp at hst ast
  have pl := p_lenS cs (by omega)
  have s1' := sl_S cs none (some ((ap : Nat) : Int)) (by omega)
  have s2' := sl_S cs (some ((ap : Nat) : Int)) none (by omega)
  have key : ∃ r as, m_law_names [tpT t, .int (n : Nat)] = .ok r as ∧ ∃ (zs : List (List Nat)), r = .lst true (zs.map nmT) ∧ as = [tpT t5, .int (n : Nat)] ∧ zs.length = n ∧ (∀ z ∈ zs, IsName z) := by
    refine def_ok rfl ?_
    unfold b_law_names
    refine ok_seq fun K1 hK1 _ => ?_
    simp [d1, szN, tgCons]
    apply hK1
    refine ok_seq fun K2 hK2 _ => ?_
    have c3 : c_law_names_3 [some (tpT t1), some (.int (n : Nat)), some (.str abc), some (.int (sh : Nat)), none, none, none, none, none, none, none, none, none] = .ok (.lst true (cs.map fun c => .str (sS [c]))) [some (tpT t3), some (.int (n : Nat)), some (.str abc), some (.int (sh : Nat)), none, none, none, none, none, none, none, none, none] := e3
    simp [c3, jn]
    apply hK2
    refine ok_seq fun K3 hK3 _ => ?_
    simp [pl, d4, d5, ast, szN, -p_len]
    apply hK3
    refine ok_seq fun K4 hK4 _ => ?_
    simp [s1', s2']
    apply hK4
    refine ok_seq fun K5 hK5 _ => ok_dp ?_
    unfold l_law_names_2
    have chd : ∀ c ∈ cutL cs none (some ((ap : Nat) : Int)), Letter c := fun c hc => p3 c (cut_mem hc)
    have ctl : ∀ c ∈ cutL cs (some ((ap : Nat) : Int)) none, Letter c := fun c hc => p3 c (cut_mem hc)
    have clen : (cutL cs none (some ((ap : Nat) : Int))).length + (cutL cs (some ((ap : Nat) : Int)) none).length ≤ 7 := by
      have e1 : cutL cs none (some ((ap : Nat) : Int)) = cs.take ap := cut_takeN cs ap
      have e2 : (cutL cs (some ((ap : Nat) : Int)) none).length = cs.length - ap := by
        unfold cutL
        rw [show HT.sIx cs.length 0 (some ((ap : Nat) : Int)) = min ap cs.length from HT.sIx_nat .., show HT.sIx cs.length cs.length none = cs.length from rfl, List.length_take, List.length_drop]
        omega
      rw [e1, e2, List.length_take]
      omega
    generalize cutL cs none (some ((ap : Nat) : Int)) = hd at chd clen
    generalize cutL cs (some ((ap : Nat) : Int)) none = tl at ctl clen
    refine ok_forD (l := List.range n) (fun i : Nat => T.int (i : Nat)) (range_n n rfl (by omega) (by simp)) (fun j s => ∃ zs : List (List Nat), s = [some (tpT t5), some (.int (n : Nat)), some (.str abc), some (.int (sh : Nat)), some (.str (sS cs)), some (.int (ap : Nat)), some (.int st), some (.lst true (zs.map nmT)), some (.str (sS hd)), some (.str (sS tl)), none, none, none] ∧ zs.length = j ∧ ∀ z ∈ zs, IsName z) ⟨[], rfl, rfl, fun _ z => nomatch z⟩ ?_ ?_
    · rintro i x s hi ⟨zs, rfl, hz, hn2⟩
      have hx := List.getElem?_eq_some_iff.mp hi
      obtain ⟨hx1, hx2⟩ := hx
      rw [List.getElem_range] at hx2
      rw [List.length_range] at hx1
      subst hx2
      obtain ⟨z, w, sg, hzn, e⟩ := name_step (a := some (tpT t5)) (b := some (.int (n : Nat))) (sh := (sh : Nat)) (ap := (ap : Nat)) (st := st) (stem := cs) (head := hd) (tail := tl) (L := zs.map nmT) i (by omega) (by omega) (by omega) (by omega) (by omega) (by omega) (by omega) (by omega) clen chd ctl (frzL_of (fun _ => rfl) _) (by rw [List.length_map]; omega)
      refine ⟨_, rfl, fun K' hnx _ _ _ => ok_wp ?_⟩
      rw [show ([some (tpT t5), some (.int (n : Nat)), some (.str abc), some (.int (sh : Nat)), some (.str (sS cs)), some (.int (ap : Nat)), some (.int st), some (.lst true (zs.map nmT)), some (.str (sS hd)), some (.str (sS tl)), none, none, none] : SL).set 10 (some (.int (i : Nat))) = [some (tpT t5), some (.int (n : Nat)), some (.str abc), some (.int (sh : Nat)), some (.str (sS cs)), some (.int (ap : Nat)), some (.int st), some (.lst true (zs.map nmT)), some (.str (sS hd)), some (.str (sS tl)), some (.int (i : Nat)), none, none] from rfl, e]
      refine hnx _ ⟨zs ++ [z], by simp, by simp [hz], fun y hy => ?_⟩
      rcases List.mem_append.mp hy with hy | hy
      · exact hn2 y hy
      · rw [List.mem_singleton.mp hy]; exact hzn
    · rintro s ⟨zs, rfl, hz, hn2⟩
      rw [List.length_range] at hz
      apply hK5
      unfold P_law_names
      simp
      exact ⟨_, _, ⟨rfl, rfl⟩, zs, rfl, rfl, hz, hn2⟩
  obtain ⟨r, as, e, zs, rfl, rfl, q1, q2⟩ := key
  exact ⟨zs, t5, e, q1, q2, h5.le (by omega)⟩
/-! a name is one -/
@[simp] theorem frz_sgT (c : Nat) : frz (sgT c) = true := rfl
theorem isname_eq {z : List Nat} (h : IsName z) : mis_name [nmT z] = .ok (.bl true) [nmT z] := by
  have l1 := h.l1
  have l8 := h.l8
  have pl := p_lenS z (by omega)
  have ab : ∀ c ∈ z, (decide (c ∈ abc.cps.toList)) = true := fun c hc => by
    rw [abc_cps]
    obtain ⟨a, b⟩ := h.az c hc
    exact decide_eq_true (List.mem_map.mpr ⟨c - 97, List.mem_range.mpr (by omega), by omega⟩)
  have c1 : cis_name_1 [some (nmT z), none] = .ok (.lst true (z.map fun _ => .bl true)) [some (nmT z), none] := by
    unfold cis_name_1
    refine lc_all0 (l := z) sgT (fun _ => .bl true) (by simp [itAll]; rfl) (by omega) (fun c hc => ?_) rfl
    have := ab c hc
    simp only [decide_eq_true_eq] at this
    simp [this]
  have pa := p_allT z.length
  rw [← Ev.map_const] at pa
  refine def_eq rfl ?_
  unfold bis_name
  have g1 : (1 : Int) ≤ ((z.length : Nat) : Int) := by omega
  have g8 : ((z.length : Nat) : Int) ≤ 8 := by omega
  simp [p_isi1, btT, btN_str, isBT, pl, c1, pa, g1, g8, -p_len]
end
end W_k13

namespace W_k13
open PySem PySem.Spec PyProof.Rows L2 Ev
noncomputable section
/-! takes, hands -/
structure Four (M : Int) (ns : List Int) : Prop where
  len : ns.length = 4
  ok : ∀ x ∈ ns, 1 ≤ x ∧ x ≤ M
theorem Four.le {M M' : Int} {ns : List Int} (h : Four M ns) (l : M ≤ M') : Four M' ns := ⟨h.len, fun x hx => ⟨(h.ok x hx).1, Int.le_trans (h.ok x hx).2 l⟩⟩
abbrev fourT (ns : List Int) : T := .tup (ns.map .int)
theorem p_tupleL (o : Bool) (ns : List Int) : pTuple [.lst o (ns.map .int)] = some (.tup (ns.map .int)) := by
  unfold pTuple
  simp
theorem p_tupleT (ns : List Int) : pTuple [.tup (ns.map .int)] = some (.tup (ns.map .int)) := by
  unfold pTuple
  simp
theorem minB (i j : Int) : (if j < i then j else i) = min i j := minI' i j
theorem takes_ex {k : Int} {t : Tp} (M : Int) (M0 : 1 ≤ M) (M1 : M < 2 ^ 40) (h : Tk k t) (hk : k < 2 ^ 37) : ∃ (ns : List Int) (t' : Tp), m_law_takes [tpT t, .int M] = .ok (fourT ns) [tpT t', .int M] ∧ Four M ns ∧ Tk (k + 10) t' := by
  obtain ⟨w, t1, d1, w1, h1⟩ := draw_nat 4 h (by omega) (by decide) (by decide)
  obtain ⟨b, t2, d2, b0, b1, h2⟩ := draw_ex (n := min M 6) h1 (by omega) (by omega) (by omega)
  have hM6 : (if (6 : Int) < M then 6 else M) = min M 6 := minI' M 6
  have hM4 : (if (4 : Int) < M then 4 else M) = min M 4 := minI' M 4
  have hM12 : (if (12 : Int) < M then 12 else M) = min M 12 := minI' M 12
  have hw : w < 4 := by omega
  by_cases hw0 : w = 0
  · subst hw0
    refine ⟨[1 + b, 1 + b, 1 + b, 1 + b], t2, def_eq rfl ?_, ⟨rfl, fun x hx => ?_⟩, h2.le (by omega)⟩
    · have c2 : c_law_takes_2 [some (tpT t2), some (.int M), some (.int 0), some (.int (1 + b)), none] = .ok (.lst true ([1 + b, 1 + b, 1 + b, 1 + b].map .int)) [some (tpT t2), some (.int M), some (.int 0), some (.int (1 + b)), none] := by
        unfold c_law_takes_2
        have q := lc_all0 (f := iInts rg1 (aCons (uV (eC (.int 4))) aNil)) (g := tgN 4) (te := eOf (uVar 3)) (vs := [4]) (l := List.range 4) (fun i : Nat => T.int (i : Nat)) (fun _ => T.int (1 + b)) (st := [some (tpT t2), some (.int M), some (.int 0), some (.int (1 + b)), none]) (range_n 4 rfl (by decide) rfl) (by decide) (fun a _ => by simp [tgN]) (st9 := [some (tpT t2), some (.int M), some (.int 0), some (.int (1 + b)), none]) (by rfl)
        exact q
      have pt := p_tupleL true [1 + b, 1 + b, 1 + b, 1 + b]
      have d1' : m_law_draw [tpT t, .int 4] = .ok (.int 0) [tpT t1, .int 4] := d1
      unfold b_law_takes
      refine ok_seq fun K1 hK1 _ => ?_
      simp [d1', hM6, d2, szN, tgCons]
      apply hK1
      simp at c2 pt
      simp [eqT_int, c2, pt, P_law_takes]
    · have : x = 1 + b := by simpa using hx
      omega
  · obtain ⟨u, hu⟩ : ∃ u : Nat, ((w : Nat) : Int) - 1 = (u : Nat) ∧ u < 3 := ⟨w - 1, by omega, by omega⟩
    obtain ⟨m, hm, am⟩ := at_disp [min M 4, min M 12, M] u (by simp; omega)
    have hm2 : 1 ≤ m ∧ m ≤ M := by
      simp at hm
      rcases hm with rfl | rfl | rfl <;> omega
    simp at am
    obtain ⟨ns, t3, e3, l3, p3, h3⟩ := lc_tape (f := iInts rg1 (aCons (uV (eC (.int 4))) aNil)) (g := tgN 4) (te := (eP pAdd (aCons (uV (eC (.int 1))) (aCons (uV (eCall m_law_draw [] (aCons (uVar 0) (aCons (uV (eP pIx (aCons (uV (eLst (aCons (uV (eP pMin2 (aCons (uVar 1) (aCons (uV (eC (.int 4))) aNil)))) (aCons (uV (eP pMin2 (aCons (uVar 1) (aCons (uV (eC (.int 12))) aNil)))) (aCons (uV (eOf (uVar 1))) aNil))))) (aCons (uV (eP pSub (aCons (uVar 2) (aCons (uV (eC (.int 1))) aNil)))) aNil)))) aNil)))) aNil)))) (vs := [4])
      (fun t => [some (tpT t), some (.int M), some (.int (w : Nat)), some (.int (1 + b)), none]) (fun i : Nat => T.int (i : Nat)) T.int (fun x => 1 ≤ x ∧ x ≤ M) (l := List.range 4) (c := 1) (s0 := [some (tpT t2), some (.int M), some (.int (w : Nat)), some (.int (1 + b)), none]) (by decide) h2
      (range_n 4 rfl (by decide) rfl) (by decide) (fun i a t hi hl ht => by
        rw [List.length_range] at hl
        obtain ⟨r, t', d, r0, r1, h'⟩ := draw_ex (n := m) ht (by omega) (by omega) (by omega)
        exact ⟨1 + r, t', by omega, h', by simp [tgN, hM4, hM12, szN, hu.1, am, d]⟩) (fun _ => rfl)
    rw [List.length_range] at l3 h3
    refine ⟨ns, t3, def_eq rfl ?_, ⟨l3, p3⟩, h3.le (by omega)⟩
    have pt := p_tupleL true ns
    have c1 : c_law_takes_1 [some (tpT t2), some (.int M), some (.int (w : Nat)), some (.int (1 + b)), none] = .ok (.lst true (ns.map .int)) [some (tpT t3), some (.int M), some (.int (w : Nat)), some (.int (1 + b)), none] := e3
    have hw1 : ((w : Nat) : Int) ≠ 0 := by omega
    unfold b_law_takes
    refine ok_seq fun K1 hK1 _ => ?_
    simp [d1, hM6, d2, szN, tgCons]
    apply hK1
    simp [eqT_int, hw0, hw1, c1, pt, P_law_takes]
theorem hands_ex {k : Int} {t : Tp} (h : Tk k t) (hk : k < 2 ^ 37) : ∃ (ns : List Int) (t' : Tp), m_law_hands [tpT t] = .ok (fourT ns) [tpT t'] ∧ Four 4 ns ∧ Tk (k + 10) t' := by
  obtain ⟨w, t1, d1, w1, h1⟩ := draw_nat 3 h (by omega) (by decide) (by decide)
  by_cases hw0 : w = 0
  · subst hw0
    have d1' : m_law_draw [tpT t, .int 3] = .ok (.int 0) [tpT t1, .int 3] := d1
    refine ⟨[1, 1, 1, 1], t1, def_eq rfl ?_, ⟨rfl, fun x hx => ?_⟩, h1.le (by omega)⟩
    · unfold b_law_hands
      simp [d1', eqT_int, szN, P_law_hands]
    · have : x = 1 := by simpa using hx
      omega
  · have hw1 : ((w : Nat) : Int) ≠ 0 := by omega
    obtain ⟨ns, t3, e3, l3, p3, h3⟩ := lc_tape (f := iInts rg1 (aCons (uV (eC (.int 4))) aNil)) (g := tgN 1) (te := (eP pAdd (aCons (uV (eC (.int 1))) (aCons (uV (eCall m_law_draw [] (aCons (uVar 0) (aCons (uV (eC (.int 4))) aNil)))) aNil)))) (vs := [1])
      (fun t => [some (tpT t), none]) (fun i : Nat => T.int (i : Nat)) T.int (fun x => 1 ≤ x ∧ x ≤ 4) (l := List.range 4) (c := 1) (s0 := [some (tpT t1), none]) (by decide) h1
      (range_n 4 rfl (by decide) rfl) (by decide) (fun i a t hi hl ht => by
        rw [List.length_range] at hl
        obtain ⟨r, t', d, r0, r1, h'⟩ := draw_ex (n := 4) ht (by omega) (by omega) (by omega)
        exact ⟨1 + r, t', by omega, h', by simp [tgN, d]⟩) (fun _ => rfl)
    rw [List.length_range] at l3 h3
    have pt := p_tupleL true ns
    have c1 : c_law_hands_1 [some (tpT t1), none] = .ok (.lst true (ns.map .int)) [some (tpT t3), none] := e3
    refine ⟨ns, t3, def_eq rfl ?_, ⟨l3, p3⟩, h3.le (by omega)⟩
    unfold b_law_hands
    simp [d1, eqT_int, hw0, hw1, c1, pt, P_law_hands]
/-! what is a gang -/
theorem isnum_int (i : Int) : mis_number [.int i] = .ok (.bl true) [.int i] := by
  unfold mis_number defF bis_number Pis_number
  simp [p_isi1, btT, btN_int, btN_bool, isBT]
theorem within_int (x lo hi : Int) : mis_within [.int x, .int lo, .int hi] = .ok (.bl (decide (lo ≤ x) && decide (x ≤ hi))) [.int x, .int lo, .int hi] := by
  unfold mis_within defF bis_within Pis_within
  by_cases h : lo ≤ x <;> simp [isnum_int, h]
theorem isrow_lst (xs : List T) (h : frzL xs = true) : mis_row [.lst false xs] = .ok (.bl true) [.lst false xs] := by
  unfold mis_row defF bis_row Pis_row
  simp [p_isi2, tys_lt, btT, isBT, szN, h]
theorem isrow_tup (xs : List T) (h : frzL xs = true) : mis_row [.tup xs] = .ok (.bl true) [.tup xs] := by
  unfold mis_row defF bis_row Pis_row
  simp [p_isi2, tys_lt, btT, isBT, szN, h]
/-- four numbers in a list or a tuple -/
inductive Row4 (ns : List Int) : T → Prop where
  | l (o : Bool) : Row4 ns (.lst o (ns.map .int))
  | t : Row4 ns (.tup (ns.map .int))
theorem kinds_len : pLen [t_KINDS] = some (.int 4) := rfl
theorem four_fz {M : Int} {ns : List Int} (h : Four M ns) {u : T} (hu : u = .lst false (ns.map .int) ∨ u = .tup (ns.map .int)) : mare_four [u, .int M] = .ok (.bl true) [u, .int M] := by
  have fu : frz u = true := by rcases hu with rfl | rfl <;> simp
  have hi : itAny u = some (ns.map .int) := by rcases hu with rfl | rfl <;> simp
  have hr : mis_row [u] = .ok (.bl true) [u] := by
    rcases hu with rfl | rfl
    · exact isrow_lst _ (by simp)
    · exact isrow_tup _ (by simp)
  have hl : pLen [u] = some (.int 4) := by
    have := h.len
    rcases hu with rfl | rfl <;> simp [this]
  have c1 : care_four_1 [some u, some (.int M), none] = .ok (.lst true (List.replicate ns.length (.bl true))) [some u, some (.int M), none] := by
    unfold care_four_1
    rw [← Ev.map_const]
    refine lc_all0 (l := ns) T.int (fun _ => .bl true) (by simp [fu, fz_frz fu, hi]) (by rw [h.len]; decide) (fun x hx => ?_) rfl
    obtain ⟨a, b⟩ := h.ok x hx
    simp [tgN, within_int, a, b]
  have pa := p_allT ns.length
  refine def_eq rfl ?_
  unfold bare_four
  simp [fu, fz_frz fu, hr, hl, kinds_len, eqT_int, c1, pa, Pare_four, -p_len]
structure Gn where
  nm : List Nat
  ts : List Int
  hs : List Int
structure GnOk (g : Gn) : Prop where
  nm : IsName g.nm
  ts : Four 1000000 g.ts
  hs : Four 4 g.hs
def gnT (o : Bool) (g : Gn) : T := .obj o c_Gang [nmT g.nm, fourT g.ts, fourT g.hs]
abbrev gT := gnT false
@[simp] theorem frz_gT (g : Gn) : frz (gT g) = true := by
  show (!false && frzL [nmT g.nm, fourT g.ts, fourT g.hs]) = true
  simp
@[simp] theorem fz_gT (g : Gn) : fz (gT g) = gT g := fz_frz (frz_gT g)
theorem fz_gnT (o : Bool) (g : Gn) : fz (gnT o g) = gT g := by
  show T.obj false c_Gang (fzL [nmT g.nm, fourT g.ts, fourT g.hs]) = _
  simp [gnT]
@[simp] theorem isObj_gT (g : Gn) : isObj c_Gang (gT g) = true := isObj_o ..
theorem pf_nm (g : Gn) : pFld c_Gang 0 [gT g] = some (nmT g.nm) := by unfold pFld gT gnT; simp
theorem pf_ts (g : Gn) : pFld c_Gang 1 [gT g] = some (fourT g.ts) := by unfold pFld gT gnT; simp
theorem pf_hs (g : Gn) : pFld c_Gang 2 [gT g] = some (fourT g.hs) := by unfold pFld gT gnT; simp
/-- .. made -/
theorem gang_eq {g : Gn} (h : GnOk g) {u v : T} (hu : Row4 g.ts u) (hv : Row4 g.hs v) : mGang____init__ [.obj true c_Gang [], nmT g.nm, u, v] = .ok .non [gnT true g, nmT g.nm, u, v] := by
  have in1 := isname_eq h.nm
  have pt : pTuple [u] = some (fourT g.ts) := by cases hu; exact p_tupleL _ _; exact p_tupleT _
  have pv : pTuple [v] = some (fourT g.hs) := by cases hv; exact p_tupleL _ _; exact p_tupleT _
  have fu : mare_four [fz u, .int 1000000] = .ok (.bl true) [fz u, .int 1000000] := four_fz h.ts (by cases hu <;> simp)
  have fv : mare_four [fz v, .int 4] = .ok (.bl true) [fz v, .int 4] := four_fz h.hs (by cases hv <;> simp)
  have nv : Ev.isNon v = false := by cases hv <;> rfl
  have s0 : ∀ x : T, setA ([] : List T) 0 x = [x] := fun _ => rfl
  have s1 : ∀ a x : T, setA [a] 1 x = [a, x] := fun _ _ => rfl
  have s2 : ∀ a b x : T, setA [a, b] 2 x = [a, b, x] := fun _ _ _ => rfl
  unfold mGang____init__ defF bGang____init__ PGang____init__ sSetF gnT
  cases h1 : frz u <;> cases h2 : frz v <;> simp [in1, pt, pv, fu, fv, nv, s0, s1, s2, h1, h2]
end
end W_k13

namespace W_k13
open PySem PySem.Spec PyProof.Rows L2 Ev
noncomputable section
/-! lowest terms -/
theorem part_eq {a b : Nat} (ha : 1 ≤ a) (hb : 1 ≤ b) (a1 : a < 2 ^ 40) (b1 : b < 2 ^ 40) : mpart_of [.int (a : Nat), .int (b : Nat)] = .ok (.tup [.int ((a / Nat.gcd a b : Nat)), .int ((b / Nat.gcd a b : Nat))]) [.int (a : Nat), .int (b : Nat)] := by
  have g0 : 0 < Nat.gcd a b := Nat.gcd_pos_of_pos_left _ ha
  have g1 : Nat.gcd a b ≤ a := Nat.gcd_le_left _ ha
  refine def_eq rfl ?_
  unfold bpart_of
  refine ok_seq fun K1 hK1 _ => ?_
  simp
  apply hK1
  refine ok_seq fun K2 hK2 _ => ok_dp ?_
  unfold lpart_of_2
  refine ok_whileS (n := b) (fun n s => ∃ x y : Nat, s = [some (.int (a : Nat)), some (.int (b : Nat)), some (.int (x : Nat)), some (.int (y : Nat))] ∧ y = n ∧ Nat.gcd x y = Nat.gcd a b) ⟨a, b, rfl, rfl, rfl⟩ ?_
  rintro n s ⟨x, y, rfl, rfl, hg⟩
  by_cases hy : 0 < y
  · refine ⟨true, by simp [hy], (fun z => nomatch z), fun _ K' hn _ _ _ => ok_wp ?_⟩
    have hy' : (0 : Int) < ((y : Nat) : Int) := by omega
    obtain ⟨r, hr⟩ : ∃ r : Nat, r = x % y := ⟨_, rfl⟩
    have e : ((x : Nat) : Int) % ((y : Nat) : Int) = ((r : Nat) : Int) := by rw [hr]; exact (Int.natCast_emod ..).symm
    unfold kpart_of_1
    simp [hy', hy, e]
    exact hn r _ (by rw [hr]; exact Nat.mod_lt _ hy) ⟨y, r, rfl, rfl, by rw [← hg, hr, Nat.gcd_comm x y, Nat.gcd_rec y x, Nat.gcd_comm]⟩
  · have hy0 : y = 0 := by omega
    subst hy0
    have hx : x = Nat.gcd a b := by rw [← hg, Nat.gcd_zero_right]
    refine ⟨false, by simp, fun _ => ?_, fun z => nomatch z⟩
    apply hK2
    have d : ∀ c : Int, divOk c ((Nat.gcd a b : Nat) : Int) = true := fun c => divOk_of (b := 64) (by omega) (by omega) (by decide) (by decide)
    rw [hx]
    simp [d, szN, Ppart_of]
def topN (p : Int × Int) : Nat := p.1.toNat / Nat.gcd p.1.toNat p.2.toNat
def botN (p : Int × Int) : Nat := p.2.toNat / Nat.gcd p.1.toNat p.2.toNat
theorem part_of {p : Int × Int} (h1 : 1 ≤ p.1) (h2 : 1 ≤ p.2) (l1 : p.1 < 2 ^ 40) (l2 : p.2 < 2 ^ 40) : mpart_of [.int p.1, .int p.2] = .ok (.tup [.int (topN p : Nat), .int (botN p : Nat)]) [.int p.1, .int p.2] := by
  obtain ⟨a, b⟩ := p
  simp only at h1 h2 l1 l2
  obtain ⟨x, rfl⟩ : ∃ x : Nat, a = (x : Nat) := ⟨a.toNat, by omega⟩
  obtain ⟨y, rfl⟩ : ∃ y : Nat, b = (y : Nat) := ⟨b.toNat, by omega⟩
  exact part_eq (by omega) (by omega) (by omega) (by omega)
/-- lowest terms stand for the same part -/
theorem part_same {p : Int × Int} (h1 : 1 ≤ p.1) (h2 : 1 ≤ p.2) : ∃ g : Int, 1 ≤ g ∧ p.1 = (topN p : Nat) * g ∧ p.2 = (botN p : Nat) * g ∧ 1 ≤ topN p ∧ 1 ≤ botN p ∧ Nat.gcd (topN p) (botN p) = 1 := by
  obtain ⟨a, b⟩ := p
  simp only at h1 h2
  obtain ⟨x, rfl⟩ : ∃ x : Nat, a = (x : Nat) := ⟨a.toNat, by omega⟩
  obtain ⟨y, rfl⟩ : ∃ y : Nat, b = (y : Nat) := ⟨b.toNat, by omega⟩
  have g0 : 0 < Nat.gcd x y := Nat.gcd_pos_of_pos_left _ (by omega)
  have e1 : x / Nat.gcd x y * Nat.gcd x y = x := Nat.div_mul_cancel (Nat.gcd_dvd_left ..)
  have e2 : y / Nat.gcd x y * Nat.gcd x y = y := Nat.div_mul_cancel (Nat.gcd_dvd_right ..)
  refine ⟨(Nat.gcd x y : Nat), by omega, ?_, ?_, ?_, ?_, ?_⟩
  · show ((x : Nat) : Int) = ((x / Nat.gcd x y : Nat) : Int) * _
    rw [← Int.natCast_mul, e1]
  · show ((y : Nat) : Int) = ((y / Nat.gcd x y : Nat) : Int) * _
    rw [← Int.natCast_mul, e2]
  · exact Nat.div_pos (Nat.gcd_le_left _ (by omega)) g0
  · exact Nat.div_pos (Nat.gcd_le_right _ (by omega)) g0
  · exact Nat.gcd_div_gcd_div_gcd_of_pos_left (by omega)
/-! pace -/
/-- the pairs of a gang: take, hands -/
def prs (g : Gn) : List (Int × Int) := g.ts.zip g.hs
theorem prs_len {g : Gn} (h : GnOk g) : (prs g).length = 4 := by
  unfold prs
  rw [List.length_zip, h.ts.len, h.hs.len]
  rfl
theorem prs_ok {g : Gn} (h : GnOk g) : ∀ p ∈ prs g, 1 ≤ p.1 ∧ p.1 ≤ 1000000 ∧ 1 ≤ p.2 ∧ p.2 ≤ 4 := fun p hp => by
  have q := List.of_mem_zip hp
  exact ⟨(h.ts.ok _ q.1).1, (h.ts.ok _ q.1).2, (h.hs.ok _ q.2).1, (h.hs.ok _ q.2).2⟩
/-- a pair that no other one is above -/
structure Best (l : List (Int × Int)) (p : Int × Int) : Prop where
  mem : p ∈ l
  max : ∀ q ∈ l, q.1 * p.2 ≤ p.1 * q.2
theorem pace_ex {g : Gn} (h : GnOk g) : ∃ p, Best (prs g) p ∧ mGang__pace [gT g] = .ok (.tup [.int (topN p : Nat), .int (botN p : Nat)]) [gT g] := by
  obtain ⟨nm, ts, hs⟩ := g
  have hok := prs_ok h
  obtain ⟨n0, hts, hhs⟩ := h
  have lt := hts.len
  have lh := hhs.len
  simp only at lt lh hts hhs n0
  match ts, lt, hs, lh with
  | [a0, a1, a2, a3], _, [b0, b1, b2, b3], _ =>
  obtain ⟨g, hg⟩ : ∃ g : Gn, g = ⟨nm, [a0, a1, a2, a3], [b0, b1, b2, b3]⟩ := ⟨_, rfl⟩
  have hp : prs g = [(a0, b0), (a1, b1), (a2, b2), (a3, b3)] := by rw [hg]; rfl
  rw [← hg] at hok ⊢
  have key : ∃ r as, mGang__pace [gT g] = .ok r as ∧ ∃ p, Best (prs g) p ∧ r = .tup [.int (topN p : Nat), .int (botN p : Nat)] ∧ as = [gT g] := by
    have p1 : pFld c_Gang 1 [gT g] = some (.tup (g.ts.map .int)) := pf_ts g
    have p2 : pFld c_Gang 2 [gT g] = some (.tup (g.hs.map .int)) := pf_hs g
    refine def_ok rfl ?_
    unfold bGang__pace
    refine ok_seq fun K1 hK1 _ => ?_
    have q1 : atT (.tup (g.ts.map .int)) 0 = some (.int a0) := by rw [hg]; simp
    have q2 : atT (.tup (g.hs.map .int)) 0 = some (.int b0) := by rw [hg]; simp
    simp [p1, p2, q1, q2, szN]
    apply hK1
    refine ok_seq fun K2 hK2 _ => ok_dp ?_
    unfold lGang__pace_2
    have zt : zipT (g.ts.map T.int) (g.hs.map T.int) = (prs g).map fun p => T.tup [T.int p.1, T.int p.2] := zipT_map T.int T.int g.ts g.hs
    refine ok_forD (l := prs g) (fun p => T.tup [T.int p.1, T.int p.2]) (st1 := [some (gT g), some (.tup [.int a0, .int b0]), none, none]) ?_ (fun j s => ∃ p, s = [some (gT g), some (.tup [.int p.1, .int p.2]), none, none] ∧ p ∈ prs g ∧ ∀ i q, i < j → (prs g)[i]? = some q → q.1 * p.2 ≤ p.1 * q.2) ⟨(a0, b0), rfl, by rw [hp]; simp, fun i q hi => by omega⟩ ?_ ?_
    · have f1 : frzL (g.ts.map T.int) = true := by simp
      have f2 : frzL (g.hs.map T.int) = true := by simp
      have ll : (g.ts.map T.int).length = (g.hs.map T.int).length := by rw [hg]; rfl
      generalize g.ts.map T.int = L1 at p1 zt f1 ll
      generalize g.hs.map T.int = L2 at p2 zt f2 ll
      simp [p1, p2, f1, f2, fzL_frz f1, fzL_frz f2, ll, zt]
    · rintro i q s hi ⟨p, rfl, pm, pa⟩
      have qm := List.mem_of_getElem? hi
      obtain ⟨x1, x2, x3, x4⟩ := hok p pm
      obtain ⟨y1, y2, y3, y4⟩ := hok q qm
      refine ⟨[some (gT g), some (.tup [.int p.1, .int p.2]), some (.int q.1), some (.int q.2)], by simp [tgCons], fun K' hn _ _ _ => ok_wp ?_⟩
      have m1 := p_mulS (i := q.1) (j := p.2) (by omega) (by omega) (by omega) (by omega)
      have m2 := p_mulS (i := p.1) (j := q.2) (by omega) (by omega) (by omega) (by omega)
      unfold kGang__pace_1
      by_cases c : p.1 * q.2 < q.1 * p.2
      · simp [m1, m2, c, szN, -p_mul]
        refine hn _ ⟨q, rfl, qm, fun j r hj hr => ?_⟩
        rcases Nat.lt_or_ge j i with z | z
        · have z1 := pa j r z hr
          have z2 := hok r (List.mem_of_getElem? hr)
          -- r.1/r.2 ≤ p.1/p.2 < q.1/q.2
          have e1 : r.1 * q.2 * p.2 ≤ q.1 * r.2 * p.2 := by
            calc r.1 * q.2 * p.2 = (r.1 * p.2) * q.2 := by rw [Int.mul_assoc, Int.mul_comm q.2 p.2, ← Int.mul_assoc]
              _ ≤ (p.1 * r.2) * q.2 := Int.mul_le_mul_of_nonneg_right z1 (by omega)
              _ = (p.1 * q.2) * r.2 := by rw [Int.mul_assoc, Int.mul_comm r.2 q.2, ← Int.mul_assoc]
              _ ≤ (q.1 * p.2) * r.2 := Int.mul_le_mul_of_nonneg_right (by omega) (by omega)
              _ = q.1 * r.2 * p.2 := by rw [Int.mul_assoc, Int.mul_comm p.2 r.2, ← Int.mul_assoc]
          exact Int.le_of_mul_le_mul_right e1 (by omega)
        · have : j = i := by omega
          subst this
          rw [hi] at hr
          cases hr
          exact Int.le_refl _
      · simp [m1, m2, c, szN, -p_mul]
        refine hn _ ⟨p, rfl, pm, fun j r hj hr => ?_⟩
        rcases Nat.lt_or_ge j i with z | z
        · exact pa j r z hr
        · have : j = i := by omega
          subst this
          rw [hi] at hr
          cases hr
          omega
    · rintro s ⟨p, rfl, pm, pa⟩
      apply hK2
      obtain ⟨x1, x2, x3, x4⟩ := hok p pm
      have pt := part_of (p := p) x1 x3 (by omega) (by omega)
      simp [pt, PGang__pace]
      exact ⟨_, _, ⟨rfl, rfl⟩, p.1, p.2, ⟨pm, fun q hq => by
        obtain ⟨i, hi⟩ := List.getElem?_of_mem hq
        exact pa i q (List.getElem?_eq_some_iff.mp hi).1 hi⟩, rfl, rfl⟩
  obtain ⟨r, as, e, p, hb, rfl, rfl⟩ := key
  exact ⟨p, hb, e⟩
/-- by the pace or by the pair itself -/
theorem part_le {p q : Int × Int} (h1 : 1 ≤ p.1) (h2 : 1 ≤ p.2) (h3 : 0 ≤ q.1) (h4 : 0 ≤ q.2) : ((topN p : Nat) : Int) * q.2 ≤ q.1 * (botN p : Nat) ↔ p.1 * q.2 ≤ q.1 * p.2 := by
  obtain ⟨g, g0, e1, e2, _⟩ := part_same h1 h2
  have f1 : p.1 * q.2 = ((topN p : Nat) : Int) * q.2 * g := by
    generalize ((topN p : Nat) : Int) = A at e1
    rw [e1, Int.mul_assoc, Int.mul_comm g q.2, ← Int.mul_assoc]
  have f2 : q.1 * p.2 = q.1 * (botN p : Nat) * g := by
    generalize ((botN p : Nat) : Int) = A at e2
    rw [e2, ← Int.mul_assoc]
  rw [f1, f2]
  exact ⟨fun h => Int.mul_le_mul_of_nonneg_right h (by omega), fun h => Int.le_of_mul_le_mul_right h (by omega)⟩
end
end W_k13

namespace W_k13
open PySem PySem.Spec PyProof.Rows L2 Ev
noncomputable section
/-! the kinds that bind -/
def bndB (ts hs : List Int) (k : Nat) : Bool := (List.range 4).all fun j => decide (ts.getD j 0 * hs.getD k 0 ≤ ts.getD k 0 * hs.getD j 0)
def bndL (ts hs : List Int) : List Nat := (List.range 4).filter (bndB ts hs)
abbrev natT (k : Nat) : T := .int (k : Nat)
theorem four_cases {M : Int} {ns : List Int} (h : Four M ns) : ∃ a b c d, ns = [a, b, c, d] := by
  have l := h.len
  match ns, l with
  | [a, b, c, d], _ => exact ⟨a, b, c, d, rfl⟩
theorem four_get {M : Int} {ns : List Int} (h : Four M ns) {k : Nat} (hk : k < 4) : ns.getD k 0 ∈ ns ∧ 1 ≤ ns.getD k 0 ∧ ns.getD k 0 ≤ M ∧ atT (fourT ns) ((k : Nat) : Int) = some (.int (ns.getD k 0)) := by
  have hl : k < ns.length := by rw [h.len]; exact hk
  have hm := List.getElem_mem hl
  have e : ns.getD k 0 = ns[k] := by simp [List.getD, List.getElem?_eq_getElem hl]
  rw [e]
  exact ⟨hm, (h.ok _ hm).1, (h.ok _ hm).2, at_mapT (List.getElem?_eq_getElem hl) rfl⟩
theorem prs_get {g : Gn} (h : GnOk g) : prs g = (List.range 4).map fun k => (g.ts.getD k 0, g.hs.getD k 0) := by
  obtain ⟨a, b, c, d, e⟩ := four_cases h.ts
  obtain ⟨a', b', c', d', e'⟩ := four_cases h.hs
  unfold prs
  rw [e, e']
  rfl
theorem bndB_prs {g : Gn} (h : GnOk g) (k : Nat) : bndB g.ts g.hs k = true ↔ ∀ q ∈ prs g, q.1 * g.hs.getD k 0 ≤ g.ts.getD k 0 * q.2 := by
  unfold bndB
  rw [List.all_eq_true, prs_get h]
  simp only [List.mem_map]
  constructor
  · rintro a q ⟨j, hj, rfl⟩
    exact of_decide_eq_true (a j hj)
  · intro a j hj
    exact decide_eq_true (a _ ⟨j, hj, rfl⟩)
theorem best_all {l : List (Int × Int)} {p : Int × Int} (hb : Best l p) (hl : ∀ q ∈ l, 1 ≤ q.1 ∧ 1 ≤ q.2) {c d : Int} (c0 : 0 ≤ c) (d0 : 0 ≤ d) : p.1 * d ≤ c * p.2 ↔ ∀ q ∈ l, q.1 * d ≤ c * q.2 := by
  constructor
  · intro h q hq
    have hp := hl p hb.mem
    have hq2 := hl q hq
    have e : q.1 * d * p.2 ≤ c * q.2 * p.2 := by
      calc q.1 * d * p.2 = q.1 * p.2 * d := by rw [Int.mul_assoc, Int.mul_comm d, ← Int.mul_assoc]
        _ ≤ p.1 * q.2 * d := Int.mul_le_mul_of_nonneg_right (hb.max q hq) d0
        _ = p.1 * d * q.2 := by rw [Int.mul_assoc, Int.mul_comm q.2, ← Int.mul_assoc]
        _ ≤ c * p.2 * q.2 := Int.mul_le_mul_of_nonneg_right h (by omega)
        _ = c * q.2 * p.2 := by rw [Int.mul_assoc, Int.mul_comm p.2, ← Int.mul_assoc]
    exact Int.le_of_mul_le_mul_right e (by omega)
  · exact fun h => h p hb.mem
theorem bnd_pace {g : Gn} (h : GnOk g) {p : Int × Int} (hb : Best (prs g) p) {k : Nat} (hk : k < 4) : (g.ts.getD k 0 * (botN p : Nat) = (topN p : Nat) * g.hs.getD k 0) ↔ bndB g.ts g.hs k = true := by
  have hok := prs_ok h
  obtain ⟨x1, x2, x3, x4⟩ := hok p hb.mem
  obtain ⟨_, t1, t2, _⟩ := four_get h.ts hk
  obtain ⟨_, u1, u2, _⟩ := four_get h.hs hk
  have hm : (g.ts.getD k 0, g.hs.getD k 0) ∈ prs g := by
    rw [prs_get h]
    exact List.mem_map.mpr ⟨k, List.mem_range.mpr hk, rfl⟩
  have mx := hb.max _ hm
  simp only at mx
  rw [bndB_prs h, ← best_all hb (fun q hq => ⟨(hok q hq).1, (hok q hq).2.2.1⟩) (by omega) (by omega)]
  have le := part_le (p := p) (q := (g.ts.getD k 0, g.hs.getD k 0)) x1 x3 (by simp only; omega) (by simp only; omega)
  simp only at le
  rw [← le]
  obtain ⟨c, c0, e1, e2, _⟩ := part_same (p := p) x1 x3
  have ge : g.ts.getD k 0 * (botN p : Nat) ≤ (topN p : Nat) * g.hs.getD k 0 := by
    have f1 : g.ts.getD k 0 * p.2 = g.ts.getD k 0 * (botN p : Nat) * c := by
      generalize ((botN p : Nat) : Int) = A at e2
      rw [e2, ← Int.mul_assoc]
    have f2 : p.1 * g.hs.getD k 0 = (topN p : Nat) * g.hs.getD k 0 * c := by
      generalize ((topN p : Nat) : Int) = A at e1
      rw [e1, Int.mul_assoc, Int.mul_comm c, ← Int.mul_assoc]
    rw [f1, f2] at mx
    exact Int.le_of_mul_le_mul_right mx (by omega)
  constructor
  · intro e; rw [e]; exact Int.le_refl _
  · intro e; exact Int.le_antisymm ge e
theorem take_flt (p : Nat → Bool) {i : Nat} (hi : i < 4) : ((List.range 4).take (i + 1)).filter p = ((List.range 4).take i).filter p ++ (if p i then [i] else []) := by
  rw [List.take_succ, List.filter_append]
  have e : (List.range 4)[i]? = some i := by rw [List.getElem?_range hi]
  rw [e]
  congr 1
  show List.filter p [i] = _
  cases h : p i <;> simp [h]
/-- the first one that binds -/
theorem bnd_some {g : Gn} (h : GnOk g) : ∃ k ks, bndL g.ts g.hs = k :: ks ∧ k < 4 ∧ bndB g.ts g.hs k = true := by
  obtain ⟨p, hb, _⟩ := pace_ex h
  obtain ⟨x1, x2, x3, x4⟩ := prs_ok h p hb.mem
  have hm := hb.mem
  rw [prs_get h] at hm
  obtain ⟨k, hk, rfl⟩ := List.mem_map.mp hm
  have hk4 := List.mem_range.mp hk
  have hB : bndB g.ts g.hs k = true := (bndB_prs h k).mpr fun q hq => hb.max q hq
  have hin : k ∈ bndL g.ts g.hs := List.mem_filter.mpr ⟨hk, hB⟩
  cases e : bndL g.ts g.hs with
  | nil => rw [e] at hin; cases hin
  | cons j js =>
    have hj : j ∈ bndL g.ts g.hs := by rw [e]; exact List.mem_cons_self ..
    obtain ⟨j1, j2⟩ := List.mem_filter.mp hj
    exact ⟨j, js, rfl, List.mem_range.mp j1, j2⟩
theorem bnd_len (ts hs : List Int) : (bndL ts hs).length ≤ 4 := by
  unfold bndL
  exact Nat.le_trans (List.length_filter_le ..) (by simp)
theorem frz_nats (l : List Nat) : frzL (l.map natT) = true := by
  rw [frzL_all, List.all_eq_true]
  intro t ht
  obtain ⟨i, _, rfl⟩ := List.mem_map.mp ht
  rfl
theorem binds_eq {g : Gn} (h : GnOk g) : mGang__binds [gT g] = .ok (.lst true ((bndL g.ts g.hs).map natT)) [gT g] := by
  obtain ⟨p, hb, ep⟩ := pace_ex h
  have hok := prs_ok h
  obtain ⟨x1, x2, x3, x4⟩ := hok p hb.mem
  obtain ⟨c, c0, ec1, ec2, tt1, tt2, _⟩ := part_same (p := p) x1 x3
  have tl : ((topN p : Nat) : Int) ≤ p.1 := by
    have := Int.mul_le_mul_of_nonneg_left c0 (show (0 : Int) ≤ (topN p : Nat) by omega)
    rw [Int.mul_one] at this
    omega
  have bl : ((botN p : Nat) : Int) ≤ p.2 := by
    have := Int.mul_le_mul_of_nonneg_left c0 (show (0 : Int) ≤ (botN p : Nat) by omega)
    rw [Int.mul_one] at this
    omega
  have p1 : pFld c_Gang 1 [gT g] = some (.tup (g.ts.map .int)) := pf_ts g
  have p2 : pFld c_Gang 2 [gT g] = some (.tup (g.hs.map .int)) := pf_hs g
  refine def_eq rfl ?_
  unfold bGang__binds
  refine ok_seq fun K1 hK1 _ => ?_
  simp [ep, tgU, tgCons]
  apply hK1
  refine ok_seq fun K2 hK2 _ => ?_
  simp
  apply hK2
  refine ok_seq fun K3 hK3 _ => ok_dp ?_
  unfold lGang__binds_2
  have en : enT 0 (zipT (g.ts.map T.int) (g.hs.map T.int)) = (List.range 4).map fun k => T.tup [natT k, .tup [.int (g.ts.getD k 0), .int (g.hs.getD k 0)]] := by
    obtain ⟨a, b, c, d, e⟩ := four_cases h.ts
    obtain ⟨a', b', c', d', e'⟩ := four_cases h.hs
    rw [e, e']
    rfl
  have f1 : frzL (g.ts.map T.int) = true := by simp
  have f2 : frzL (g.hs.map T.int) = true := by simp
  have ll : (g.ts.map T.int).length = (g.hs.map T.int).length := by rw [List.length_map, List.length_map, h.ts.len, h.hs.len]
  generalize g.ts.map T.int = L1 at p1 en f1 ll
  generalize g.hs.map T.int = L2 at p2 en f2 ll
  refine ok_forD (l := List.range 4) (fun k => T.tup [natT k, .tup [.int (g.ts.getD k 0), .int (g.hs.getD k 0)]]) (st1 := [some (gT g), some (.int (topN p : Nat)), some (.int (botN p : Nat)), some (.lst true []), none, none, none]) ?_
    (fun j s => s = [some (gT g), some (.int (topN p : Nat)), some (.int (botN p : Nat)), some (.lst true ((((List.range 4).take j).filter (bndB g.ts g.hs)).map natT)), none, none, none]) rfl ?_ ?_
  · simp [p1, p2, f1, f2, fzL_frz f1, fzL_frz f2, ll, en]
  · rintro i k s hi rfl
    obtain ⟨hl, hk⟩ := List.getElem?_eq_some_iff.mp hi
    rw [List.length_range] at hl
    rw [List.getElem_range] at hk
    subst hk
    obtain ⟨_, t1, t2, _⟩ := four_get h.ts hl
    obtain ⟨_, u1, u2, _⟩ := four_get h.hs hl
    have m1 := p_mulS (i := g.ts.getD i 0) (j := (botN p : Nat)) (by omega) (by omega) (by omega) (by omega)
    have m2 := p_mulS (i := (topN p : Nat)) (j := g.hs.getD i 0) (by omega) (by omega) (by omega) (by omega)
    have tf := take_flt (bndB g.ts g.hs) hl
    have bp := bnd_pace h hb hl
    have fl : (((List.range 4).take i).filter (bndB g.ts g.hs)).length ≤ 4 := Nat.le_trans (List.length_filter_le ..) (by rw [List.length_take]; simp; omega)
    have ap := p_appI (natT i) ((((List.range 4).take i).filter (bndB g.ts g.hs)).map natT) rfl (by rw [List.length_map]; omega)
    generalize g.ts.getD i 0 = t at *
    generalize g.hs.getD i 0 = u at *
    obtain ⟨L, hL⟩ : ∃ L, L = (((List.range 4).take i).filter (bndB g.ts g.hs)) := ⟨_, rfl⟩
    rw [← hL] at ap tf ⊢
    refine ⟨[some (gT g), some (.int (topN p : Nat)), some (.int (botN p : Nat)), some (.lst true (L.map natT)), some (natT i), some (.int t), some (.int u)], by simp [tgCons], fun K' hn _ _ _ => ok_wp ?_⟩
    unfold kGang__binds_1
    by_cases c : t * (botN p : Nat) = (topN p : Nat) * u
    · have hB := bp.mp c
      simp [m1, m2, eqT_int, c, ap, -p_mul, -p_app]
      refine hn _ ?_
      rw [tf, if_pos hB, List.map_append]
      rfl
    · have hB : ¬ bndB g.ts g.hs i = true := fun z => c (bp.mpr z)
      simp [m1, m2, eqT_int, c, -p_mul, -p_app]
      refine hn _ ?_
      rw [tf, if_neg hB, List.append_nil]
  · rintro s rfl
    apply hK3
    rw [List.length_range]
    have : ((List.range 4).take 4).filter (bndB g.ts g.hs) = bndL g.ts g.hs := rfl
    rw [this]
    simp [PGang__binds]
end
end W_k13

namespace W_k13
open PySem PySem.Spec PyProof.Rows L2 Ev
noncomputable section
/-! when so many can be closed -/
def tG (ts : List Int) (k : Nat) : Int := ts.getD k 0
def hG (hs : List Int) (k : Nat) : Nat := (hs.getD k 0).toNat
theorem hG_ok {hs : List Int} (h : Four 4 hs) {k : Nat} (hk : k < 4) : 1 ≤ hG hs k ∧ hG hs k ≤ 4 ∧ hs.getD k 0 = (hG hs k : Nat) := by
  obtain ⟨_, u1, u2, _⟩ := four_get h hk
  unfold hG
  omega
theorem p_maxI (o : Bool) (n : Int) (ns : List Int) : pMaxL [.lst o ((n :: ns).map .int)] = some (.int (maxI n ns)) := by
  have e : lIntsT (.lst o ((n :: ns).map .int)) = some (n :: ns) := by
    cases o <;> exact intsT_map (n :: ns)
  show (match lIntsT (.lst o ((n :: ns).map .int)) with
    | some (n :: ns) => some (T.int (maxI n ns))
    | _ => none) = _
  rw [e]
theorem maxI_app (n : Int) (ns : List Int) (m : Int) : maxI n (ns ++ [m]) = max (maxI n ns) m := by
  unfold maxI
  rw [List.foldl_append]
  rfl
theorem range_1 {f : SA} {st st1 : SL} (n : Nat) {z : Int} (hz : z = (n : Nat) + 1) (h : n ≤ 1000000) (h1 : f st = .ok [.v (.int 1), .v (.int z)] st1) : Ev.iInts rg2 f st = .ok ((List.range n).map fun i : Nat => T.int (1 + (i : Nat))) st1 := by
  subst hz
  have e : rg2 [.int 1, .int ((n : Nat) + 1)] = some (rgI 1 ((n : Nat) + 1)) := by
    have a : leC (-(2 ^ 62)) 1 = true := leC_of (by decide)
    have b : ltC 1 (2 ^ 62) = true := ltC_of (by decide)
    have c : leC (-(2 ^ 62)) (((n : Nat) : Int) + 1) = true := leC_of (by omega)
    have d : ltC (((n : Nat) : Int) + 1) (2 ^ 62) = true := ltC_of (by omega)
    show (if ((leC (-(2 ^ 62)) 1 && ltC 1 (2 ^ 62)) && (leC (-(2 ^ 62)) (((n : Nat) : Int) + 1) && ltC (((n : Nat) : Int) + 1) (2 ^ 62))) = true then some (rgI 1 (((n : Nat) : Int) + 1)) else none) = _
    rw [a, b, c, d]
    rfl
  rw [iInts_ok h1 rfl e]
  unfold rgI
  rw [show (((n : Nat) : Int) + 1 - 1).toNat = n by omega, List.map_map]
  rfl
abbrev foundT (t : Nat → Int) (h : Nat → Nat) (n : Nat) : T := .lst true ((List.range n).map fun i : Nat => T.int (Lp.gf t h i))
theorem found_at {t : Nat → Int} {h : Nat → Nat} {n i : Nat} (hi : i < n) : atT (foundT t h n) ((i : Nat) : Int) = some (.int (Lp.gf t h i)) := at_mapI (f := fun i : Nat => T.int (Lp.gf t h i)) true (List.getElem?_range hi) rfl
theorem found_last {t : Nat → Int} {h : Nat → Nat} {n : Nat} : atT (foundT t h (n + 1)) (-1) = some (.int (Lp.gf t h n)) := by
  rw [atT_neg1, List.getLast?_eq_getElem?]
  have e : ((List.range (n + 1)).map fun i : Nat => T.int (Lp.gf t h i))[((List.range (n + 1)).map fun i : Nat => T.int (Lp.gf t h i)).length - 1]? = some (.int (Lp.gf t h n)) := by
    rw [List.length_map, List.length_range, Nat.add_sub_cancel, List.getElem?_map, List.getElem?_range (by omega)]
    rfl
  rw [e]
  rfl
theorem fill_eq {g : Gn} (hg : GnOk g) (n : Nat) (hn : n ≤ 100000) : mgreatest_fill [gT g, .int (n : Nat)] = .ok (.int (Lp.gf (tG g.ts) (hG g.hs) n)) [gT g, .int (n : Nat)] := by
  have p1 : pFld c_Gang 1 [gT g] = some (.tup (g.ts.map .int)) := pf_ts g
  have p2 : pFld c_Gang 2 [gT g] = some (.tup (g.hs.map .int)) := pf_hs g
  have h1 : ∀ k, k < 4 → 1 ≤ hG g.hs k := fun k hk => (hG_ok hg.hs hk).1
  have en : zipT (g.ts.map T.int) (g.hs.map T.int) = (List.range 4).map fun k => T.tup [.int (tG g.ts k), .int (hG g.hs k : Nat)] := by
    have u0 := (hG_ok hg.hs (k := 0) (by omega)).2.2
    have u1 := (hG_ok hg.hs (k := 1) (by omega)).2.2
    have u2 := (hG_ok hg.hs (k := 2) (by omega)).2.2
    have u3 := (hG_ok hg.hs (k := 3) (by omega)).2.2
    obtain ⟨a, b, c, d, e⟩ := four_cases hg.ts
    obtain ⟨a', b', c', d', e'⟩ := four_cases hg.hs
    rw [e'] at u0 u1 u2 u3 ⊢
    rw [e]
    have v0 : a' = (hG [a', b', c', d'] 0 : Nat) := u0
    have v1 : b' = (hG [a', b', c', d'] 1 : Nat) := u1
    have v2 : c' = (hG [a', b', c', d'] 2 : Nat) := u2
    have v3 : d' = (hG [a', b', c', d'] 3 : Nat) := u3
    show [T.tup [.int a, .int a'], .tup [.int b, .int b'], .tup [.int c, .int c'], .tup [.int d, .int d']] = [T.tup [.int a, .int (hG [a', b', c', d'] 0 : Nat)], .tup [.int b, .int (hG [a', b', c', d'] 1 : Nat)], .tup [.int c, .int (hG [a', b', c', d'] 2 : Nat)], .tup [.int d, .int (hG [a', b', c', d'] 3 : Nat)]]
    rw [← v0, ← v1, ← v2, ← v3]
  have f1 : frzL (g.ts.map T.int) = true := by simp
  have f2 : frzL (g.hs.map T.int) = true := by simp
  have ll : (g.ts.map T.int).length = (g.hs.map T.int).length := by rw [List.length_map, List.length_map, hg.ts.len, hg.hs.len]
  generalize g.ts.map T.int = L1 at p1 en f1 ll
  generalize g.hs.map T.int = L2 at p2 en f2 ll
  generalize tG g.ts = t at en ⊢
  generalize hG g.hs = h at en h1 ⊢
  generalize hX : gT g = X at *
  have fX : frz X = true := by rw [← hX]; simp
  refine def_eq rfl ?_
  unfold bgreatest_fill
  refine ok_seq fun K1 hK1 _ => ?_
  simp [szN]
  apply hK1
  refine ok_seq fun K2 hK2 _ => ok_dp ?_
  unfold lgreatest_fill_4
  have e0 : T.lst true [T.int 0] = foundT t h 1 := by
    show _ = T.lst true [T.int (Lp.gf t h 0)]
    rw [Lp.gf_0]
  rw [e0]
  generalize hF0 : foundT t h 1 = F0
  refine ok_forD (l := List.range n) (fun i : Nat => T.int (1 + (i : Nat))) (st1 := [some X, some (.int (n : Nat)), some F0, none, none, none, none]) (range_1 n rfl (by omega) (by simp))
    (fun j s => s = [some X, some (.int (n : Nat)), some (foundT t h (j + 1)), none, none, none, none]) (by rw [← hF0]) ?_ ?_
  · rintro i k s hi rfl
    obtain ⟨hl, hk⟩ := List.getElem?_eq_some_iff.mp hi
    rw [List.length_range] at hl
    rw [List.getElem_range] at hk
    subst hk
    have la := found_last (t := t) (h := h) (n := i)
    have at' : ∀ k : Nat, h k ≤ i + 1 → 1 ≤ h k → atT (foundT t h (i + 1)) (1 + (i : Nat) - (h k : Nat)) = some (.int (Lp.gf t h (i + 1 - h k))) := fun k a b => by
      rw [show (1 + (i : Nat) - (h k : Nat) : Int) = ((i + 1 - h k : Nat) : Int) by omega]
      exact found_at (by omega)
    have ap := fun x => p_appI (.int x) ((List.range (i + 1)).map fun j : Nat => T.int (Lp.gf t h j)) rfl (by rw [List.length_map, List.length_range]; omega)
    have nx : foundT t h (i + 1 + 1) = .lst true (((List.range (i + 1)).map fun j : Nat => T.int (Lp.gf t h j)) ++ [.int (Lp.gf t h (i + 1))]) := by
      show T.lst true ((List.range (i + 1 + 1)).map _) = _
      rw [List.range_succ, List.map_append]
      rfl
    have ff : foundT t h (i + 1) = .lst true ((List.range (i + 1)).map fun j : Nat => T.int (Lp.gf t h j)) := rfl
    rw [← ff] at ap
    rw [nx]
    generalize (List.range (i + 1)).map (fun j : Nat => T.int (Lp.gf t h j)) = FL at *
    generalize foundT t h (i + 1) = F at *
    subst ff
    refine ⟨_, rfl, fun K' hn' _ _ _ => ok_wp ?_⟩
    unfold kgreatest_fill_3
    refine ok_seq fun K3 hK3 _ => ?_
    simp [la, szN]
    apply hK3
    refine ok_seq fun K4 hK4 _ => ok_dp ?_
    unfold lgreatest_fill_2
    refine ok_forD (l := List.range 4) (fun k => T.tup [.int (t k), .int (h k : Nat)]) (st1 := [some X, some (.int (n : Nat)), some (.lst true FL), some (.int (1 + (i : Nat))), some (.lst true [.int (Lp.gf t h i)]), none, none]) ?_
      (fun j s => ∃ xs : List Int, s = [some X, some (.int (n : Nat)), some (.lst true FL), some (.int (1 + (i : Nat))), some (.lst true ((Lp.gf t h i :: xs).map .int)), none, none] ∧ xs.length ≤ j ∧ maxI (Lp.gf t h i) xs = Lp.pm t h i j) ⟨[], rfl, Nat.le_refl _, rfl⟩ ?_ ?_
    · simp [fX, p1, p2, f1, f2, fzL_frz f1, fzL_frz f2, ll, en]
    · rintro j k s hj ⟨xs, rfl, xl, xm⟩
      obtain ⟨hl2, hk2⟩ := List.getElem?_eq_some_iff.mp hj
      rw [List.length_range] at hl2
      rw [List.getElem_range] at hk2
      subst hk2
      have hj1 := h1 j hl2
      refine ⟨[some X, some (.int (n : Nat)), some (.lst true FL), some (.int (1 + (i : Nat))), some (.lst true ((Lp.gf t h i :: xs).map .int)), some (.int (t j)), some (.int (h j : Nat))], by simp [tgCons], fun K5 hn5 _ _ _ => ok_wp ?_⟩
      unfold kgreatest_fill_1
      by_cases c : h j ≤ i + 1
      · have c' : ((h j : Nat) : Int) ≤ 1 + (i : Nat) := by omega
        have a' := at' j c hj1
        have ap2 := p_appI (.int (Lp.gf t h (i + 1 - h j) + t j)) ((Lp.gf t h i :: xs).map .int) rfl (by simp; omega)
        obtain ⟨LL, hLL⟩ : ∃ LL, LL = (Lp.gf t h i :: xs).map T.int := ⟨_, rfl⟩
        rw [← hLL] at ap2 ⊢
        simp [c', a', ap2, -p_app]
        refine hn5 _ ⟨xs ++ [Lp.gf t h (i + 1 - h j) + t j], ?_, by simp; omega, ?_⟩
        · rw [hLL]; simp
        · rw [maxI_app, xm]
          show _ = if h j ≤ i + 1 then _ else _
          rw [if_pos c]
      · have c' : ¬ ((h j : Nat) : Int) ≤ 1 + (i : Nat) := by omega
        simp [c']
        refine hn5 _ ⟨xs, by simp, by omega, ?_⟩
        rw [xm]
        show _ = if h j ≤ i + 1 then _ else _
        rw [if_neg c]
    · rintro s ⟨xs, rfl, xl, xm⟩
      apply hK4
      have mx := p_maxI true (Lp.gf t h i) xs
      rw [xm, show (List.range 4).length = 4 from rfl, ← Lp.gf_pm h1] at mx
      have ap' := ap (Lp.gf t h (i + 1))
      generalize (Lp.gf t h i :: xs).map T.int = LL at *
      simp [mx, ap', -p_app]
      exact hn' _ rfl
  · rintro s rfl
    apply hK2
    rw [List.length_range]
    have a := found_at (t := t) (h := h) (n := n + 1) (i := n) (by omega)
    have ff : foundT t h (n + 1) = .lst true ((List.range (n + 1)).map fun j : Nat => T.int (Lp.gf t h j)) := rfl
    generalize (List.range (n + 1)).map (fun j : Nat => T.int (Lp.gf t h j)) = FL at *
    generalize foundT t h (n + 1) = F at *
    subst ff
    simp [a, fX, fz_frz fX, Pgreatest_fill]
/-- the gang's first binding kind is above all -/
theorem bnd_top {g : Gn} (hg : GnOk g) {k : Nat} (k4 : k < 4) (kB : bndB g.ts g.hs k = true) : Lp.Top (tG g.ts) (hG g.hs) k := by
  refine ⟨k4, ?_, fun j j4 => ?_, fun j j4 => (hG_ok hg.hs j4).2.1⟩
  · have := (four_get hg.ts k4).2.1
    show 0 ≤ g.ts.getD k 0
    omega
  · unfold bndB at kB
    rw [List.all_eq_true] at kB
    have := of_decide_eq_true (kB j (List.mem_range.mpr j4))
    rw [(hG_ok hg.hs k4).2.2, (hG_ok hg.hs j4).2.2] at this
    exact this
theorem sum4 {ts : List Int} {M : Int} (h : Four M ts) : ts.sum = tG ts 0 + tG ts 1 + tG ts 2 + tG ts 3 := by
  obtain ⟨a, b, c, d, rfl⟩ := four_cases h
  simp [tG]
  omega
def endI (g : Gn) (n : Nat) : Int := g.ts.sum + Lp.gf (tG g.ts) (hG g.hs) n
theorem end_eq {g : Gn} (hg : GnOk g) (n : Nat) (hn : n ≤ 1000000000000) : mleast_end [gT g, .int ((n : Nat) + 1)] = .ok (.int (endI g n)) [gT g, .int ((n : Nat) + 1)] := by
  obtain ⟨k, ks, ek, k4, kB⟩ := bnd_some hg
  have h1 : ∀ k, k < 4 → 1 ≤ hG g.hs k := fun k hk => (hG_ok hg.hs hk).1
  have top := bnd_top hg k4 kB
  obtain ⟨y1, y2, y3⟩ := hG_ok hg.hs k4
  have be := binds_eq hg
  have a0 : atT (.lst true ((bndL g.ts g.hs).map natT)) 0 = some (natT k) := at_mapI (n := 0) (x := k) true (by rw [ek]; rfl) rfl
  obtain ⟨_, t1, t2, at1⟩ := four_get hg.ts k4
  obtain ⟨_, u1, u2, at2⟩ := four_get hg.hs k4
  rw [y3] at at2
  have etk : g.ts.getD k 0 = tG g.ts k := rfl
  rw [etk] at t1 t2 at1
  have p1 : pFld c_Gang 1 [gT g] = some (fourT g.ts) := pf_ts g
  have p2 : pFld c_Gang 2 [gT g] = some (fourT g.hs) := pf_hs g
  obtain ⟨o, ho⟩ : ∃ o : Nat, o = n / hG g.hs k - 16 := ⟨_, rfl⟩
  have dv : ((n : Nat) : Int) / (hG g.hs k : Nat) = ((n / hG g.hs k : Nat) : Int) := (Int.natCast_ediv ..).symm
  have hq : n / hG g.hs k ≤ n := Nat.div_le_self _ _
  have hm : n / hG g.hs k * hG g.hs k ≤ n := Nat.div_mul_le_self _ _
  have mx : (if 16 < ((n : Nat) : Int) / (hG g.hs k : Nat) then ((n : Nat) : Int) / (hG g.hs k : Nat) - 16 else 0) = (o : Nat) := by
    rw [dv, ho]
    generalize n / hG g.hs k = q
    split <;> omega
  have dd := p_divS (i := ((n : Nat) : Int)) (j := (hG g.hs k : Nat)) (by omega) (by omega)
  have m1 := p_mulS (i := (o : Nat)) (j := (hG g.hs k : Nat)) (by omega) (by omega) (by omega) (by omega)
  have m2 := p_mulS (i := (o : Nat)) (j := tG g.ts k) (by omega) (by omega) (by omega) (by omega)
  have lt := Nat.lt_div_mul_add (a := n) (b := hG g.hs k) (by omega)
  have on : o * hG g.hs k ≤ n := Nat.le_trans (Nat.mul_le_mul_right _ (by rw [ho]; exact Nat.sub_le _ _)) hm
  obtain ⟨r, hr⟩ : ∃ r : Nat, r = n - o * hG g.hs k := ⟨_, rfl⟩
  have hre : ((n : Nat) : Int) - (o : Nat) * (hG g.hs k : Nat) = (r : Nat) := by
    rw [← Int.natCast_mul]; omega
  have rs : r ≤ 100000 := by
    rcases Nat.eq_zero_or_pos o with z | z
    · subst z
      have : n / hG g.hs k ≤ 16 := by omega
      have : n / hG g.hs k * hG g.hs k ≤ 16 * 4 := Nat.mul_le_mul this y2
      omega
    · have e : o + 16 = n / hG g.hs k := by omega
      have e2 : (o + 16) * hG g.hs k = o * hG g.hs k + 16 * hG g.hs k := Nat.add_mul ..
      rw [← e, e2] at lt
      omega
  have fe := fill_eq hg r rs
  have val : Lp.gf (tG g.ts) (hG g.hs) n = Lp.gf (tG g.ts) (hG g.hs) r + o * tG g.ts k := by
    rcases Nat.eq_zero_or_pos o with z | z
    · subst z
      have : r = n := by omega
      rw [this]; simp
    · have e : o + 16 = n / hG g.hs k := by omega
      have e2 : (o + 16) * hG g.hs k = o * hG g.hs k + 16 * hG g.hs k := Nat.add_mul ..
      rw [← e, e2] at hm
      have := Lp.gf_farN h1 top (n := r) (by omega) o
      rw [← this, hr, Nat.sub_add_cancel on]
  have ob : -(2 ^ 62) ≤ ((o : Nat) : Int) * tG g.ts k ∧ ((o : Nat) : Int) * tG g.ts k < 2 ^ 62 := by
    have a : (0 : Int) ≤ ((o : Nat) : Int) * tG g.ts k := Int.mul_nonneg (by omega) (by omega)
    have b : ((o : Nat) : Int) * tG g.ts k ≤ 1000000000000 * 1000000 := Int.mul_le_mul (by omega) t2 (by omega) (by omega)
    omega
  have sm := p_sumST g.ts (((o : Nat) : Int) * tG g.ts k) ob.1 ob.2
  have res : ((o : Nat) : Int) * tG g.ts k + g.ts.sum + Lp.gf (tG g.ts) (hG g.hs) r = endI g n := by
    unfold endI
    rw [val]
    omega
  have frt : frz (fourT g.ts) = true := by simp
  have frh : frz (fourT g.hs) = true := by simp
  obtain ⟨TT, hTT⟩ : ∃ TT, TT = fourT g.ts := ⟨_, rfl⟩
  obtain ⟨HH, hHH⟩ : ∃ HH, HH = fourT g.hs := ⟨_, rfl⟩
  have sm' : pSumS [TT, .int (((o : Nat) : Int) * tG g.ts k)] = some (.int (((o : Nat) : Int) * tG g.ts k + g.ts.sum)) := by rw [hTT]; exact sm
  rw [← hTT] at p1 at1 frt
  rw [← hHH] at p2 at2 frh
  generalize (bndL g.ts g.hs).map natT = LL at *
  generalize g.ts.sum = S at *
  generalize tG g.ts k = tt at *
  generalize Lp.gf (tG g.ts) (hG g.hs) r = G1 at *
  generalize ((o : Nat) : Int) * tt = OT at *
  generalize hG g.hs k = hk at *
  refine def_eq rfl ?_
  unfold bleast_end
  refine ok_seq fun K1 hK1 _ => ?_
  simp [be, a0]
  apply hK1
  refine ok_seq fun K2 hK2 _ => ?_
  simp [p2, at2, dd, mx, frh, -p_div]
  apply hK2
  refine ok_seq fun K3 hK3 _ => ?_
  simp [p2, at2, m1, hre, frh, -p_mul]
  apply hK3
  simp [p1, at1, m2, sm', fe, res, frt, -p_mul, Pleast_end]
end
end W_k13

namespace W_k13
open PySem PySem.Spec PyProof.Rows L2 Ev
noncomputable section
/-! a gang at work -/
def lT (l : List Int) : T := .lst true (l.map .int)
def lF (l : List Int) : T := .lst false (l.map .int)
theorem fz_lT (l : List Int) : fz (lT l) = lF l := by
  show T.lst false (fzL (l.map .int)) = _
  rw [fzL_ints]
  rfl
theorem frz_lF (l : List Int) : frz (lF l) = true := by
  show (!false && frzL (l.map .int)) = true
  rw [frzL_ints]
  rfl
def wmT : Option Int → T
  | none => .non
  | some i => .int i
structure Ln where
  g : Gn
  ws : List Int
  wm : Option Int
def lnT (L : Ln) (ls : List (List Int)) (n : Nat) : T := .obj true c_Line [gT L.g, lF L.ws, wmT L.wm, .lst true (ls.map lT), .int (n : Nat)]
def lnF (L : Ln) (ls : List (List Int)) (n : Nat) : T := .obj false c_Line [gT L.g, lF L.ws, wmT L.wm, .lst false (ls.map lF), .int (n : Nat)]
theorem frz_wm (w : Option Int) : frz (wmT w) = true := by cases w <;> rfl
theorem frzL_lF (ls : List (List Int)) : frzL (ls.map lF) = true := by
  rw [frzL_all, List.all_eq_true]
  intro t ht
  obtain ⟨l, _, rfl⟩ := List.mem_map.mp ht
  exact frz_lF l
theorem frz_lnF (L : Ln) (ls : List (List Int)) (n : Nat) : frz (lnF L ls n) = true := by
  show (!false && (frz (gT L.g) && (frz (lF L.ws) && (frz (wmT L.wm) && ((!false && frzL (ls.map lF)) && (frz (.int (n : Nat)) && true)))))) = true
  rw [frz_gT, frz_lF, frz_wm, frzL_lF]
  rfl
theorem fz_lnT (L : Ln) (ls : List (List Int)) (n : Nat) : fz (lnT L ls n) = lnF L ls n := by
  show T.obj false c_Line [fz (gT L.g), fz (lF L.ws), fz (wmT L.wm), .lst false (fzL (ls.map lT)), .int (n : Nat)] = _
  rw [fz_gT, fz_frz (frz_lF _), fz_frz (frz_wm _), fzL_map, List.map_map]
  have : (fz ∘ lT) = lF := funext fz_lT
  rw [this]
  rfl
theorem nfrz_lnT (L : Ln) (ls : List (List Int)) (n : Nat) : frz (lnT L ls n) = false := rfl
theorem pl0 (L : Ln) (ls : List (List Int)) (n : Nat) : pFld c_Line 0 [lnF L ls n] = some (gT L.g) ∧ pFld c_Line 0 [lnT L ls n] = some (gT L.g) := by
  unfold pFld lnF lnT
  simp
theorem pl1 (L : Ln) (ls : List (List Int)) (n : Nat) : pFld c_Line 1 [lnT L ls n] = some (lF L.ws) := by
  unfold pFld lnT
  simp [frz_lF]
theorem pl2 (L : Ln) (ls : List (List Int)) (n : Nat) : pFld c_Line 2 [lnF L ls n] = some (wmT L.wm) ∧ pFld c_Line 2 [lnT L ls n] = some (wmT L.wm) := by
  unfold pFld lnF lnT
  simp [frz_wm]
theorem pl3 (L : Ln) (ls : List (List Int)) (n : Nat) : pFld c_Line 3 [lnF L ls n] = some (.lst false (ls.map lF)) := by
  unfold pFld lnF
  simp [frzL_lF]
theorem pl4 (L : Ln) (ls : List (List Int)) (n : Nat) : pFld c_Line 4 [lnT L ls n] = some (.int (n : Nat)) := by
  unfold pFld lnT
  simp
def freeI (h : Nat) (l : List Int) : Int := if l.length = h then l.headD 0 else 0
theorem free_eq {L : Ln} (hg : GnOk L.g) {ls : List (List Int)} {n k : Nat} {l : List Int} (k4 : k < 4) (e : ls[k]? = some l) : mfree_from [lnF L ls n, .int (k : Nat)] = .ok (.int (freeI (hG L.g.hs k) l)) [lnF L ls n, .int (k : Nat)] := by
  obtain ⟨y1, y2, y3⟩ := hG_ok hg.hs k4
  obtain ⟨_, u1, u2, at2⟩ := four_get hg.hs k4
  rw [y3] at at2
  have p0 := (pl0 L ls n).1
  have p3 := pl3 L ls n
  have fl := frz_lnF L ls n
  have at1 : atT (.lst false (ls.map lF)) ((k : Nat) : Int) = some (lF l) := at_mapI false e (frz_lF l)
  have ph : pFld c_Gang 2 [gT L.g] = some (fourT L.g.hs) := pf_hs L.g
  have fH : frz (fourT L.g.hs) = true := by simp
  have fl2 := frz_lF l
  have hd : l.length = hG L.g.hs k → atT (lF l) 0 = some (.int (freeI (hG L.g.hs k) l)) := fun z => by
    unfold freeI
    rw [if_pos z]
    match l, z with
    | [], z => simp at z; omega
    | x :: l, z => exact at_mapI (n := 0) (x := x) false rfl rfl
  have no : l.length ≠ hG L.g.hs k → freeI (hG L.g.hs k) l = 0 := fun z => if_neg z
  have ln : pLen [lF l] = some (.int (l.length : Nat)) := by
    unfold lF
    simp
  generalize freeI (hG L.g.hs k) l = R at *
  generalize hG L.g.hs k = h at *
  generalize hX : lnF L ls n = X at *
  generalize hB : fourT L.g.hs = HH at *
  generalize T.lst false (ls.map lF) = LS at *
  generalize hl : l.length = m at *
  generalize lF l = LL at *
  refine def_eq rfl ?_
  unfold bfree_from
  refine ok_seq fun K1 hK1 _ => ?_
  simp [fl, p3, at1]
  apply hK1
  by_cases c : m = h
  · have c' : ((m : Nat) : Int) = ((h : Nat) : Int) := by omega
    have hd' := hd c
    simp [fl, fl2, fz_frz fl2, ln, p0, ph, at2, eqT_int, c', hd', Pfree_from]
  · have c' : (((m : Nat) : Int) == ((h : Nat) : Int)) = false := by
      rw [beq_eq_false_iff_ne]; omega
    have no' := no c
    simp [fl, fl2, fz_frz fl2, ln, p0, ph, at2, eqT_int, c', no', Pfree_from]
/-- nobody is let go where all stay hot for ever -/
theorem letgo_eq {L : Ln} (w : L.wm = none) {ls : List (List Int)} {n : Nat} (bs : List Int) (x : Int) : mis_let_go [lnF L ls n, lF bs, .int x] = .ok (.bl false) [lnF L ls n, lF bs, .int x] := by
  have p2 := (pl2 L ls n).1
  rw [w] at p2
  have fl := frz_lnF L ls n
  have ln : pLen [lF bs] = some (.int (bs.length : Nat)) := by
    unfold lF
    simp
  have fb := frz_lF bs
  generalize hX : lnF L ls n = X at *
  generalize bs.length = m at *
  generalize lF bs = BB at *
  refine def_eq rfl ?_
  unfold bis_let_go
  have n0 : Ev.isNon T.non = true := rfl
  by_cases c : 0 < m
  · have c2 : (0 : Int) < ((m : Nat) : Int) := by omega
    simp [fl, fb, ln, c, c2, p2, wmT, n0, Pis_let_go]
  · have c2 : ¬ (0 : Int) < ((m : Nat) : Int) := by omega
    simp [fl, fb, ln, c, c2, p2, wmT, n0, Pis_let_go]
abbrev lastN := Lp.lastL
theorem sl_last (o : Bool) (l : List Int) {h : Nat} (h1 : 1 ≤ h) : pSl10 [.lst o (l.map .int), .int (-((h : Nat) : Int))] = some (lT (lastN h l)) := by
  show (if frzL (l.map T.int) then some (T.lst true (cutL (l.map T.int) (some (-((h : Nat) : Int))) none)) else none) = _
  rw [frzL_ints, if_pos rfl, cutL_map]
  have e : cutL l (some (-((h : Nat) : Int))) none = lastN h l := by
    unfold cutL lastN Lp.lastL
    have i1 : HT.sIx l.length 0 (some (-((h : Nat) : Int))) = l.length - h := by
      show (if (-((h : Nat) : Int)) < 0 then (-((h : Nat) : Int) + (l.length : Int)).toNat else _) = _
      rw [if_pos (by omega)]
      omega
    rw [i1]
    show (l.drop (l.length - h)).take (l.length - (l.length - h)) = _
    exact List.take_of_length_le (by rw [List.length_drop]; omega)
  rw [e]
  rfl
theorem srt_ints (o : Bool) (ns : List Int) : pSorted [.lst o (ns.map .int)] = some (.lst true ((srtI ns).map .int)) := by
  show (match intsT (ns.map .int) with
    | some ns => some (T.lst true ((srtI ns).map .int))
    | none => _) = _
  rw [intsT_map]
theorem getP_fld {st : SL} {p : Pth} {c : Cd} {j : Nat} {f : Str} {xs : List T} (h : getP st p = some (.obj true c xs)) : getP st (.fld p c j f) = xs[j]? := by
  show (match getP st p with
    | some (.obj true c' xs) => if c' = c then xs[j]? else none
    | _ => none) = _
  rw [h]
  exact if_pos rfl
theorem putP_fld {st : SL} {p : Pth} {c : Cd} {j : Nat} {f : Str} {xs : List T} {t : T} (h : getP st p = some (.obj true c xs)) : putP st (.fld p c j f) t = putP st p (.obj true c (xs.set j t)) := by
  show (match getP st p with
    | some (.obj true c' xs) => putP st p (.obj true c' (xs.set j t))
    | _ => st) = _
  rw [h]
theorem getP_ix {st : SL} {p : Pth} {m k : Nat} {xs : List T} (h : getP st p = some (.lst true xs)) (i : ixSt st m xs.length = some k) : getP st (.ix p m) = xs[k]? := by
  show (match getP st p with
    | some (.lst true xs) => (match ixSt st m xs.length with
      | some k => xs[k]?
      | none => none)
    | some (.tup xs) => (match ixSt st m xs.length with
      | some k => xs[k]?
      | none => none)
    | _ => none) = _
  rw [h]
  show (match ixSt st m xs.length with
      | some k => xs[k]?
      | none => none) = _
  rw [i]
theorem putP_ix {st : SL} {p : Pth} {m k : Nat} {xs : List T} {t : T} (h : getP st p = some (.lst true xs)) (i : ixSt st m xs.length = some k) : putP st (.ix p m) t = putP st p (.lst true (xs.set k t)) := by
  show (match getP st p with
    | some (.lst true xs) => (match ixSt st m xs.length with
      | some k => putP st p (.lst true (xs.set k t))
      | none => st)
    | some (.tup xs) => (match ixSt st m xs.length with
      | some k => putP st p (.tup (xs.set k t))
      | none => st)
    | _ => st) = _
  rw [h]
  show (match ixSt st m xs.length with
      | some k => putP st p (.lst true (xs.set k t))
      | none => st) = _
  rw [i]
theorem line_get (L : Ln) (ls : List (List Int)) (n : Nat) (b : SL) : getP (some (lnT L ls n) :: b) (.fld (.nm 0) c_Line 3 "leaving") = some (.lst true (ls.map lT)) := by
  rw [getP_fld (xs := [gT L.g, lF L.ws, wmT L.wm, .lst true (ls.map lT), .int (n : Nat)]) rfl]
  rfl
theorem line_put (L : Ln) (ls ls' : List (List Int)) (n : Nat) (b : SL) : putP (some (lnT L ls n) :: b) (.fld (.nm 0) c_Line 3 "leaving") (.lst true (ls'.map lT)) = some (lnT L ls' n) :: b := by
  rw [putP_fld (xs := [gT L.g, lF L.ws, wmT L.wm, .lst true (ls.map lT), .int (n : Nat)]) rfl]
  rfl
theorem leaves_eq {L : Ln} (hg : GnOk L.g) {ls : List (List Int)} {n k : Nat} {l : List Int} {x : Int} (k4 : k < 4) (l4 : ls.length = 4) (e : ls[k]? = some l) (hs : (l ++ [x]).Pairwise (· ≤ ·)) (hl : l.length ≤ 1000) :
    mleaves [lnT L ls n, .int (k : Nat), .int x] = .ok .non [lnT L (ls.set k (lastN (hG L.g.hs k) (l ++ [x]))) n, .int (k : Nat), .int x] := by
  obtain ⟨y1, y2, y3⟩ := hG_ok hg.hs k4
  obtain ⟨_, u1, u2, at2⟩ := four_get hg.hs k4
  rw [y3] at at2
  have ph : pFld c_Gang 2 [gT L.g] = some (fourT L.g.hs) := pf_hs L.g
  have fH : frz (fourT L.g.hs) = true := by simp
  have kl : k < ls.length := by omega
  have ix : ixN ls.length ((k : Nat) : Int) = some k := ixN_nat _ _ kl
  have e1 : (ls.map lT)[k]? = some (lT l) := by rw [List.getElem?_map, e]; rfl
  have s1 : (ls.map lT).set k (lT (l ++ [x])) = (ls.set k (l ++ [x])).map lT := by rw [List.map_set]
  have p0 := (pl0 L (ls.set k (l ++ [x])) n).1
  have p3 := pl3 L (ls.set k (l ++ [x])) n
  have fl := frz_lnF L (ls.set k (l ++ [x])) n
  have at1 : atT (.lst false ((ls.set k (l ++ [x])).map lF)) ((k : Nat) : Int) = some (lF (l ++ [x])) := at_mapI false (by rw [List.getElem?_set_self kl]) (frz_lF _)
  have so : pSorted [lF (l ++ [x])] = some (lT (l ++ [x])) := by
    have := srt_ints false (l ++ [x])
    rw [← srtI_uniq (List.Perm.refl _) hs] at this
    exact this
  have sl : pSl10 [lT (l ++ [x]), .int (-((hG L.g.hs k : Nat) : Int))] = some (lT (lastN (hG L.g.hs k) (l ++ [x]))) := sl_last true _ y1
  have s2 : ((ls.set k (l ++ [x])).map lT).set k (lT (lastN (hG L.g.hs k) (l ++ [x]))) = (ls.set k (lastN (hG L.g.hs k) (l ++ [x]))).map lT := by
    rw [← List.map_set, List.set_set]
  have fx : flt (lT (lastN (hG L.g.hs k) (l ++ [x]))) = true := by
    show (List.all _ _) = true
    rw [List.all_eq_true]
    intro t ht
    obtain ⟨i, _, rfl⟩ := List.mem_map.mp ht
    rfl
  have sz : decide ((l.map T.int).length < sizeLine) = true := decide_eq_true (szL _ (by rw [List.length_map]; omega))
  have mp : l.map T.int ++ [T.int x] = (l ++ [x]).map T.int := by rw [List.map_append]; rfl
  have ix1 : ixSt [some (lnT L ls n), some (.int (k : Nat)), some (.int x)] 1 (ls.map lT).length = some k := by
    show ixN (ls.map lT).length ((k : Nat) : Int) = some k
    rw [List.length_map, ix]
  have g1 : getP [some (lnT L ls n), some (.int (k : Nat)), some (.int x)] (.ix (.fld (.nm 0) c_Line 3 "leaving") 1) = some (.lst true (l.map .int)) := by
    rw [getP_ix (line_get L ls n _) ix1]
    exact e1
  have q1 : putP [some (lnT L ls n), some (.int (k : Nat)), some (.int x)] (.ix (.fld (.nm 0) c_Line 3 "leaving") 1) (lT (l ++ [x])) = [some (lnT L (ls.set k (l ++ [x])) n), some (.int (k : Nat)), some (.int x)] := by
    rw [putP_ix (line_get L ls n _) ix1, s1]
    exact line_put L ls (ls.set k (l ++ [x])) n _
  have g2 : getP [some (lnT L (ls.set k (l ++ [x])) n), some (.int (k : Nat)), some (.int x)] (.fld (.nm 0) c_Line 3 "leaving") = some (.lst true ((ls.set k (l ++ [x])).map lT)) := line_get L _ n _
  have i2 : ixSt [some (lnT L (ls.set k (l ++ [x])) n), some (.int (k : Nat)), some (.int x)] 1 ((ls.set k (l ++ [x])).map lT).length = some k := by
    show ixN ((ls.set k (l ++ [x])).map lT).length ((k : Nat) : Int) = some k
    rw [List.length_map, List.length_set, ix]
  have q2 : putP [some (lnT L (ls.set k (l ++ [x])) n), some (.int (k : Nat)), some (.int x)] (.fld (.nm 0) c_Line 3 "leaving") (.lst true (((ls.set k (l ++ [x])).map lT).set k (lT (lastN (hG L.g.hs k) (l ++ [x]))))) = [some (lnT L (ls.set k (lastN (hG L.g.hs k) (l ++ [x]))) n), some (.int (k : Nat)), some (.int x)] := by
    rw [s2]
    exact line_put L _ _ n _
  have fzl := fz_lnT L (ls.set k (l ++ [x])) n
  have lTe : T.lst true ((l ++ [x]).map T.int) = lT (l ++ [x]) := rfl
  have frT : frz (lT (l ++ [x])) = false := rfl
  generalize lT (lastN (hG L.g.hs k) (l ++ [x])) = R2 at *
  generalize hG L.g.hs k = h at *
  generalize hM : lnT L (ls.set k (lastN h (l ++ [x]))) n = X2 at *
  generalize hN : lnT L (ls.set k (l ++ [x])) n = X1 at *
  generalize hF : lnF L (ls.set k (l ++ [x])) n = XF at *
  have f0 := nfrz_lnT L ls n
  have fz0 := fz_lnT L ls n
  generalize hO : lnT L ls n = X0 at *
  generalize T.lst false ((ls.set k (l ++ [x])).map lF) = LS at *
  have fl2 := frz_lF (l ++ [x])
  generalize lF (l ++ [x]) = LL at *
  generalize (ls.set k (l ++ [x])).map lT = LT at *
  generalize hB : fourT L.g.hs = HH at *
  refine def_eq rfl ?_
  unfold bleaves
  refine ok_seq fun K1 hK1 _ => ?_
  have st1 : sAppP (.ix (.fld (.nm 0) c_Line 3 "leaving") 1) (uVar 2) [some X0, some (.int (k : Nat)), some (.int x)] = .ok .nx [some X1, some (.int (k : Nat)), some (.int x)] := by
    have f0 : uVar 2 (frzS [some X0, some (.int (k : Nat)), some (.int x)]) = .ok (.v (.int x)) (frzS [some X0, some (.int (k : Nat)), some (.int x)]) := rfl
    rw [ap_sAppP, g1]
    simp only [f0]
    show (if (true && decide ((l.map T.int).length < sizeLine)) = true then R.ok Fl.nx (putP _ _ (.lst true (l.map T.int ++ [T.int x]))) else R.no) = _
    rw [sz, mp, lTe, q1]
    rfl
  show Ok (sAppP (.ix (.fld (.nm 0) c_Line 3 "leaving") 1) (uVar 2) [some X0, some (.int (k : Nat)), some (.int x)]) K1
  rw [st1]
  apply hK1
  have st2 : sSetP (.fld (.nm 0) c_Line 3 "leaving") 1 (eP pSl10 (aCons (uV (eP pSorted (aCons (uV (eP pIx (aCons (uV (eP (pFld c_Line 3) (aCons (uVar 0) aNil))) (aCons (uVar 1) aNil)))) aNil))) (aCons (uInt (uV (eP pNeg (aCons (uV (eP pIx (aCons (uV (eP (pFld c_Gang 2) (aCons (uV (eP (pFld c_Line 0) (aCons (uVar 0) aNil))) aNil))) (aCons (uVar 1) aNil)))) aNil)))) aNil))) [some X1, some (.int (k : Nat)), some (.int x)] = .ok .nx [some X2, some (.int (k : Nat)), some (.int x)] := by
    have fe : (eP pSl10 (aCons (uV (eP pSorted (aCons (uV (eP pIx (aCons (uV (eP (pFld c_Line 3) (aCons (uVar 0) aNil))) (aCons (uVar 1) aNil)))) aNil))) (aCons (uInt (uV (eP pNeg (aCons (uV (eP pIx (aCons (uV (eP (pFld c_Gang 2) (aCons (uV (eP (pFld c_Line 0) (aCons (uVar 0) aNil))) aNil))) (aCons (uVar 1) aNil)))) aNil)))) aNil))) (frzS [some X1, some (.int (k : Nat)), some (.int x)]) = .ok R2 [some XF, some (.int (k : Nat)), some (.int x)] := by
      have fS : frzS [some X1, some (.int (k : Nat)), some (.int x)] = [some XF, some (.int (k : Nat)), some (.int x)] := by
        show [some (fz X1), some (fz (T.int (k : Nat))), some (fz (T.int x))] = _
        rw [fzl]
        rfl
      rw [fS]
      have f1 : (eP (pFld c_Line 3) (aCons (uVar 0) aNil)) [some XF, some (.int (k : Nat)), some (.int x)] = .ok LS [some XF, some (.int (k : Nat)), some (.int x)] := by simp [fl, p3]
      have f2 : (eP pIx (aCons (uV (eP (pFld c_Line 3) (aCons (uVar 0) aNil))) (aCons (uVar 1) aNil))) [some XF, some (.int (k : Nat)), some (.int x)] = .ok LL [some XF, some (.int (k : Nat)), some (.int x)] := by
        generalize (eP (pFld c_Line 3) (aCons (uVar 0) aNil)) = ff at f1 ⊢
        simp [f1, at1]
      have f3 : (eP pSorted (aCons (uV (eP pIx (aCons (uV (eP (pFld c_Line 3) (aCons (uVar 0) aNil))) (aCons (uVar 1) aNil)))) aNil)) [some XF, some (.int (k : Nat)), some (.int x)] = .ok (lT (l ++ [x])) [some XF, some (.int (k : Nat)), some (.int x)] := by
        generalize (eP pIx (aCons (uV (eP (pFld c_Line 3) (aCons (uVar 0) aNil))) (aCons (uVar 1) aNil))) = ff at f2 ⊢
        simp [f2, so]
      have f4 : (eP pIx (aCons (uV (eP (pFld c_Gang 2) (aCons (uV (eP (pFld c_Line 0) (aCons (uVar 0) aNil))) aNil))) (aCons (uVar 1) aNil))) [some XF, some (.int (k : Nat)), some (.int x)] = .ok (.int (h : Nat)) [some XF, some (.int (k : Nat)), some (.int x)] := by
        simp [fl, p0, ph, at2]
      generalize (eP pSorted (aCons (uV (eP pIx (aCons (uV (eP (pFld c_Line 3) (aCons (uVar 0) aNil))) (aCons (uVar 1) aNil)))) aNil)) = gg at f3 ⊢
      generalize (eP pIx (aCons (uV (eP (pFld c_Gang 2) (aCons (uV (eP (pFld c_Line 0) (aCons (uVar 0) aNil))) aNil))) (aCons (uVar 1) aNil))) = hh at f4 ⊢
      generalize lT (l ++ [x]) = R1 at *
      simp [f3, f4, sl, -p_sl10]
    rw [ap_sSetP, g2]
    simp only [fe, fx, i2, q2, if_true]
  show Ok (sSetP (.fld (.nm 0) c_Line 3 "leaving") 1 _ [some X1, some (.int (k : Nat)), some (.int x)]) _
  rw [st2]
  simp [Pleaves]
theorem aug_eq (L : Ln) (ls : List (List Int)) (n : Nat) (b c : Option T) : sAugP (.nm 0) c_Line 4 1 [some (lnT L ls n), b, c] = .ok .nx [some (lnT L ls (n + 1)), b, c] := by
  show (if c_Line = c_Line then R.ok Fl.nx [some (T.obj true c_Line [gT L.g, lF L.ws, wmT L.wm, .lst true (ls.map lT), .int ((n : Nat) + 1)]), b, c] else R.no) = _
  rw [if_pos rfl]
  rfl
/-- a hole that wants no more -/
theorem hole_eq {L : Ln} (hg : GnOk L.g) (w : L.ws = []) (ls : List (List Int)) (n : Nat) (x : Int) : mhole_filled [lnT L ls n, .int x] = .ok (.int (x + tG L.g.ts 3)) [lnT L ls (n + 1), .int x] := by
  have p0 := fun n => (pl0 L ls n).2
  have p1 := pl1 L ls n
  have p4 := pl4 L ls n
  rw [w] at p1
  have l0 : pLen [lF []] = some (.int 0) := rfl
  have fl0 : frz (lF []) = true := rfl
  have nn : ¬ ((n : Nat) : Int) < 0 := by omega
  have ph : pFld c_Gang 1 [gT L.g] = some (fourT L.g.ts) := pf_ts L.g
  have at3 : atT (fourT L.g.ts) 3 = some (.int (tG L.g.ts 3)) := (four_get hg.ts (k := 3) (by omega)).2.2.2
  have au := aug_eq L ls n (some (.int x)) (some (.int 0))
  have fH : frz (fourT L.g.ts) = true := by simp
  have nf := fun n => nfrz_lnT L ls n
  generalize tG L.g.ts 3 = t3 at *
  have p0n := p0 n
  have p0m := p0 (n + 1)
  have nfn := nf n
  have nfm := nf (n + 1)
  clear p0 nf
  generalize lnT L ls n = X at *
  generalize lnT L ls (n + 1) = Y at *
  generalize lF [] = E at *
  generalize hB : fourT L.g.ts = TT at *
  refine def_eq rfl ?_
  unfold bhole_filled
  refine ok_seq fun K1 hK1 _ => ?_
  simp [p4, p1, l0, fl0, nn, nfn]
  apply hK1
  refine ok_seq fun K2 hK2 _ => ?_
  show Ok (sAugP (.nm 0) c_Line 4 1 [some X, some (.int x), some (.int 0)]) K2
  rw [au]
  apply hK2
  simp [p0m, ph, at3, nfm, fH, Phole_filled]
/-- pieces with asks so far apart -/
structure Apart (L : Ln) (a : List Int) : Prop where
  ok : GnOk L.g
  ws : L.ws = []
  wm : L.wm = none
  few : a.length ≤ 1000
  nn : ∀ x ∈ a, 0 ≤ x
  up : a.Pairwise (· ≤ ·)
  far : ∀ k, k < 4 → ∀ (j i : Nat) (y x : Int), j + hG L.g.hs k = i → a[j]? = some y → a[i]? = some x → y + tG L.g.ts k ≤ x
abbrev preG (g : Gn) : Nat → Int := Lp.pre (tG g.ts)
abbrev lvG (L : Ln) (a : List Int) (i m : Nat) : List (List Int) := Lp.lvT (tG L.g.ts) (preG L.g) (hG L.g.hs) a i m
def begs (g : Gn) (x : Int) (k : Nat) : List Int := (List.range k).map fun j => x + preG g j
theorem begs_snoc (g : Gn) (x : Int) (k : Nat) : begs g x (k + 1) = begs g x k ++ [x + preG g k] := by
  unfold begs
  rw [List.range_succ, List.map_append]
  rfl
theorem pre_nn {g : Gn} (hg : GnOk g) {k : Nat} (hk : k ≤ 4) : 0 ≤ preG g k := by
  induction k with
  | zero => exact Int.le_refl _
  | succ k ih =>
    have a := ih (by omega)
    have b := (four_get hg.ts (k := k) (by omega)).2.1
    have e : preG g (k + 1) = preG g k + tG g.ts k := rfl
    rw [e]
    unfold tG
    omega
theorem leave_step {L : Ln} {a : List Int} (A : Apart L a) {i m n : Nat} {x : Int} (hx : a[i]? = some x) (hm : m < 4) : mleaves [lnT L (lvG L a i m) n, .int (m : Nat), .int (x + preG L.g (m + 1))] = .ok .non [lnT L (lvG L a i (m + 1)) n, .int (m : Nat), .int (x + preG L.g (m + 1))] := by
  have h1 : ∀ k, k < 4 → 1 ≤ hG L.g.hs k := fun k hk => (hG_ok A.ok.hs hk).1
  have hi : i < a.length := (List.getElem?_eq_some_iff.mp hx).1
  have g := Lp.lvT_get (t := tG L.g.ts) (pre := preG L.g) (h := hG L.g.hs) (a := a) (i := i) (m := m) hm (Nat.le_refl _)
  have ss := Lp.lvs_sorted (t := tG L.g.ts) (pre := preG L.g) A.up m (i + 1)
  rw [Lp.lvs_snoc hx] at ss
  have e := leaves_eq (L := L) (n := n) (x := x + preG L.g (m + 1)) A.ok hm Lp.lvT_len g (Lp.last_sorted _ ss) (by have := Lp.last_len (hG L.g.hs m) (Lp.lvs (tG L.g.ts) (preG L.g) a m i); have := (hG_ok A.ok.hs hm).2.1; omega)
  rw [Lp.lvT_next h1 hx hm] at e
  exact e
theorem passed_ok : PyData.strOk ("passed" : Str) = true := by decide +kernel
theorem kindn_eq {L : Ln} {a : List Int} (A : Apart L a) {i k n : Nat} {x : Int} (hx : a[i]? = some x) (k4 : k < 4) {b : Option T} {K : Fl → SL → Prop}
    (hK : K .nx [some (lnT L (lvG L a i k) n), b, some (.bl false), some (lT (begs L.g x (k + 1))), some (.int (x + preG L.g (k + 1))), none, none, none]) :
    Ok (sWp [5, 6, 7] kone_passed_1 [some (lnT L (lvG L a i (k - 1)) n), b, some (.bl false), some (lT (begs L.g x k)), some (.int (x + preG L.g k)), some (.int (k : Nat)), none, none]) K := by
  have xn := A.nn x (List.mem_of_getElem? hx)
  have pn := pre_nn A.ok (k := k) (by omega)
  obtain ⟨y1, y2, y3⟩ := hG_ok A.ok.hs k4
  have g := Lp.lvT_get (t := tG L.g.ts) (pre := preG L.g) (h := hG L.g.hs) (a := a) (i := i) (m := k - 1) k4 (by omega)
  have fr := free_eq (L := L) (n := n) A.ok k4 g
  have fle : freeI (hG L.g.hs k) (Lp.lastL (hG L.g.hs k) (Lp.lvs (tG L.g.ts) (preG L.g) a k i)) ≤ x + preG L.g k := Lp.free_le (t := tG L.g.ts) (pre := preG L.g) (fun _ => rfl) y1 hx (by omega) (fun j y hj hy => A.far k k4 j i y x hj hy hx)
  have lg := letgo_eq (L := L) A.wm (ls := lvG L a i (k - 1)) (n := n) (begs L.g x k) (x + preG L.g k)
  have lv := fun (z : 1 ≤ k) => leave_step A (n := n) hx (m := k - 1) (by omega)
  have ap := p_appI (.int (x + preG L.g k)) ((begs L.g x k).map .int) rfl (by unfold begs; simp; omega)
  have bs : (begs L.g x k).map T.int ++ [T.int (x + preG L.g k)] = (begs L.g x (k + 1)).map .int := by rw [begs_snoc, List.map_append]; rfl
  rw [bs] at ap
  have hk1 : ∀ n, (k - 1 : Nat) + 1 = n → 1 ≤ k → n = k := fun n e z => by omega
  have p0 := (pl0 L (lvG L a i k) n).2
  have ph : pFld c_Gang 1 [gT L.g] = some (fourT L.g.ts) := pf_ts L.g
  have at3 : atT (fourT L.g.ts) ((k : Nat) : Int) = some (.int (tG L.g.ts k)) := (four_get A.ok.ts k4).2.2.2
  have fH : frz (fourT L.g.ts) = true := by simp
  have pe : x + preG L.g (k + 1) = x + preG L.g k + tG L.g.ts k := by
    have : preG L.g (k + 1) = preG L.g k + tG L.g.ts k := rfl
    omega
  rw [pe] at hK
  have nf1 := nfrz_lnT L (lvG L a i (k - 1)) n
  have fz1 := fz_lnT L (lvG L a i (k - 1)) n
  have nf2 := nfrz_lnT L (lvG L a i k) n
  have fzb := fz_lT (begs L.g x k)
  have nfb : frz (lT (begs L.g x k)) = false := rfl
  have tyb : tyOk "list" (lT (begs L.g x k)) = true := rfl
  have aps : mApp [lT (begs L.g x k), .int (x + preG L.g k)] = .ok .non [lT (begs L.g x (k + 1)), .int (x + preG L.g k)] := ap
  have lv' : 1 ≤ k → mleaves [lnT L (lvG L a i (k - 1)) n, .int (((k : Nat) : Int) - 1), .int (x + preG L.g k)] = .ok .non [lnT L (lvG L a i k) n, .int (((k : Nat) : Int) - 1), .int (x + preG L.g k)] := fun z => by
    have e := lv z
    have e2 : k - 1 + 1 = k := by omega
    have e3 : ((k - 1 : Nat) : Int) = ((k : Nat) : Int) - 1 := by omega
    rw [e2, e3] at e
    exact e
  have le0 : k = 0 → lnT L (lvG L a i (k - 1)) n = lnT L (lvG L a i k) n := fun z => by rw [z]
  clear lv ap bs
  generalize freeI (hG L.g.hs k) (Lp.lastL (hG L.g.hs k) (Lp.lvs (tG L.g.ts) (preG L.g) a k i)) = F at *
  generalize x + preG L.g k = R at *
  generalize tG L.g.ts k = tk at *
  generalize lnT L (lvG L a i (k - 1)) n = X1 at *
  generalize lnF L (lvG L a i (k - 1)) n = XF at *
  generalize lnT L (lvG L a i k) n = X2 at *
  generalize lT (begs L.g x (k + 1)) = B2 at *
  generalize lF (begs L.g x k) = BF at *
  generalize lT (begs L.g x k) = B1 at *
  generalize hB : fourT L.g.ts = TT at *
  have nlt : ¬ R < F := by omega
  have eqs := eqT_str passed_ok passed_ok
  rw [show (("passed" : Str) == ("passed" : Str)) = true from by decide +kernel] at eqs
  refine ok_wp ?_
  unfold kone_passed_1
  refine ok_seq fun K1 hK1 _ => ?_
  simp [nf1, fz1, fr, nlt]
  apply hK1
  refine ok_seq fun K2 hK2 _ => ?_
  simp
  apply hK2
  refine ok_seq fun K3 hK3 _ => ?_
  have go3 : K3 .nx [some X1, b, some (.bl false), some B1, some (.int R), some (.int (k : Nat)), some (.int R), some (.str "passed")] := by
    apply hK3
    refine ok_seq fun K4 hK4 _ => ?_
    have go4 : K4 .nx [some X2, b, some (.bl false), some B1, some (.int R), some (.int (k : Nat)), some (.int R), some (.str "passed")] := by
      apply hK4
      refine ok_seq fun K5 hK5 _ => ?_
      simp [eqs]
      apply hK5
      refine ok_seq fun K6 hK6 _ => ?_
      simp [nfb, tyb, aps, -p_app]
      apply hK6
      simp [nf2, p0, ph, at3, fH]
      exact hK
    by_cases z : 1 ≤ k
    · have z' : (0 : Int) < ((k : Nat) : Int) := by omega
      have z2 : 0 < k := z
      simp [z', z2, nf1, lv' z]
      exact go4
    · have z' : ¬ (0 : Int) < ((k : Nat) : Int) := by omega
      have z2 : ¬ 0 < k := by omega
      have e := le0 (by omega)
      subst e
      simp [z', z2]
      exact go4
  by_cases c : ((k : Nat) : Int) = 2
  · simp [nf1, fz1, nfb, fzb, lg, c, eqT_int]
    rw [c] at go3
    exact go3
  · have c' : (((k : Nat) : Int) == 2) = false := by rw [beq_eq_false_iff_ne]; exact c
    simp [nf1, fz1, nfb, fzb, lg, c', eqT_int]
    exact go3
end
end W_k13

namespace W_k13
open PySem PySem.Spec PyProof.Rows L2 Ev
noncomputable section
/-! a gang at work, whatever comes: what one_passed does on lists -/
/-- a piece leaves a kind -/
def leaveL (g : Gn) (ls : List (List Int)) (k : Nat) (x : Int) : List (List Int) := ls.set k (Lp.lastL (hG g.hs k) (srtI (ls.getD k [] ++ [x])))
theorem leaveL_len (g : Gn) (ls : List (List Int)) (k : Nat) (x : Int) : (leaveL g ls k x).length = ls.length := by unfold leaveL; rw [List.length_set]
theorem leave_gen {L : Ln} (hg : GnOk L.g) {ls : List (List Int)} {n k : Nat} {x : Int} (k4 : k < 4) (l4 : ls.length = 4) (few : ∀ l ∈ ls, l.length ≤ 1000) :
    mleaves [lnT L ls n, .int (k : Nat), .int x] = .ok .non [lnT L (leaveL L.g ls k x) n, .int (k : Nat), .int x] := by
  have kl : k < ls.length := by omega
  obtain ⟨l, hl⟩ : ∃ l, l = ls[k] := ⟨_, rfl⟩
  have e : ls[k]? = some l := by rw [hl]; exact List.getElem?_eq_getElem kl
  have gd : ls.getD k [] = l := by simp [List.getD, e]
  have ll : l.length ≤ 1000 := few l (List.mem_of_getElem? e)
  unfold leaveL
  rw [gd]
  obtain ⟨y1, y2, y3⟩ := hG_ok hg.hs k4
  obtain ⟨_, u1, u2, at2⟩ := four_get hg.hs k4
  rw [y3] at at2
  have ph : pFld c_Gang 2 [gT L.g] = some (fourT L.g.hs) := pf_hs L.g
  have fH : frz (fourT L.g.hs) = true := by simp
  have ix : ixN ls.length ((k : Nat) : Int) = some k := ixN_nat _ _ kl
  have e1 : (ls.map lT)[k]? = some (lT l) := by rw [List.getElem?_map, e]; rfl
  have s1 : (ls.map lT).set k (lT (l ++ [x])) = (ls.set k (l ++ [x])).map lT := by rw [List.map_set]
  have p0 := (pl0 L (ls.set k (l ++ [x])) n).1
  have p3 := pl3 L (ls.set k (l ++ [x])) n
  have fl := frz_lnF L (ls.set k (l ++ [x])) n
  have at1 : atT (.lst false ((ls.set k (l ++ [x])).map lF)) ((k : Nat) : Int) = some (lF (l ++ [x])) := at_mapI false (by rw [List.getElem?_set_self kl]) (frz_lF _)
  have so : pSorted [lF (l ++ [x])] = some (lT (srtI (l ++ [x]))) := srt_ints false (l ++ [x])
  have sl : pSl10 [lT (srtI (l ++ [x])), .int (-((hG L.g.hs k : Nat) : Int))] = some (lT (Lp.lastL (hG L.g.hs k) (srtI (l ++ [x])))) := sl_last true _ y1
  have s2 : ((ls.set k (l ++ [x])).map lT).set k (lT (Lp.lastL (hG L.g.hs k) (srtI (l ++ [x])))) = (ls.set k (Lp.lastL (hG L.g.hs k) (srtI (l ++ [x])))).map lT := by
    rw [← List.map_set, List.set_set]
  have fx : flt (lT (Lp.lastL (hG L.g.hs k) (srtI (l ++ [x])))) = true := by
    show (List.all _ _) = true
    rw [List.all_eq_true]
    intro t ht
    obtain ⟨i, _, rfl⟩ := List.mem_map.mp ht
    rfl
  have sz : decide ((l.map T.int).length < sizeLine) = true := decide_eq_true (szL _ (by rw [List.length_map]; omega))
  have mp : l.map T.int ++ [T.int x] = (l ++ [x]).map T.int := by rw [List.map_append]; rfl
  have ix1 : ixSt [some (lnT L ls n), some (.int (k : Nat)), some (.int x)] 1 (ls.map lT).length = some k := by
    show ixN (ls.map lT).length ((k : Nat) : Int) = some k
    rw [List.length_map, ix]
  have g1 : getP [some (lnT L ls n), some (.int (k : Nat)), some (.int x)] (.ix (.fld (.nm 0) c_Line 3 "leaving") 1) = some (.lst true (l.map .int)) := by
    rw [getP_ix (line_get L ls n _) ix1]
    exact e1
  have q1 : putP [some (lnT L ls n), some (.int (k : Nat)), some (.int x)] (.ix (.fld (.nm 0) c_Line 3 "leaving") 1) (lT (l ++ [x])) = [some (lnT L (ls.set k (l ++ [x])) n), some (.int (k : Nat)), some (.int x)] := by
    rw [putP_ix (line_get L ls n _) ix1, s1]
    exact line_put L ls (ls.set k (l ++ [x])) n _
  have g2 : getP [some (lnT L (ls.set k (l ++ [x])) n), some (.int (k : Nat)), some (.int x)] (.fld (.nm 0) c_Line 3 "leaving") = some (.lst true ((ls.set k (l ++ [x])).map lT)) := line_get L _ n _
  have i2 : ixSt [some (lnT L (ls.set k (l ++ [x])) n), some (.int (k : Nat)), some (.int x)] 1 ((ls.set k (l ++ [x])).map lT).length = some k := by
    show ixN ((ls.set k (l ++ [x])).map lT).length ((k : Nat) : Int) = some k
    rw [List.length_map, List.length_set, ix]
  have q2 : putP [some (lnT L (ls.set k (l ++ [x])) n), some (.int (k : Nat)), some (.int x)] (.fld (.nm 0) c_Line 3 "leaving") (.lst true (((ls.set k (l ++ [x])).map lT).set k (lT (Lp.lastL (hG L.g.hs k) (srtI (l ++ [x])))))) = [some (lnT L (ls.set k (Lp.lastL (hG L.g.hs k) (srtI (l ++ [x])))) n), some (.int (k : Nat)), some (.int x)] := by
    rw [s2]
    exact line_put L _ _ n _
  have fzl := fz_lnT L (ls.set k (l ++ [x])) n
  have lTe : T.lst true ((l ++ [x]).map T.int) = lT (l ++ [x]) := rfl
  generalize lT (Lp.lastL (hG L.g.hs k) (srtI (l ++ [x]))) = R2 at *
  generalize hM : lnT L (ls.set k (Lp.lastL (hG L.g.hs k) (srtI (l ++ [x])))) n = X2 at *
  generalize hG L.g.hs k = h at *
  generalize hN : lnT L (ls.set k (l ++ [x])) n = X1 at *
  generalize hF : lnF L (ls.set k (l ++ [x])) n = XF at *
  generalize hO : lnT L ls n = X0 at *
  generalize T.lst false ((ls.set k (l ++ [x])).map lF) = LS at *
  have fl2 := frz_lF (l ++ [x])
  generalize lF (l ++ [x]) = LL at *
  generalize (ls.set k (l ++ [x])).map lT = LT at *
  generalize hB : fourT L.g.hs = HH at *
  refine def_eq rfl ?_
  unfold bleaves
  refine ok_seq fun K1 hK1 _ => ?_
  have st1 : sAppP (.ix (.fld (.nm 0) c_Line 3 "leaving") 1) (uVar 2) [some X0, some (.int (k : Nat)), some (.int x)] = .ok .nx [some X1, some (.int (k : Nat)), some (.int x)] := by
    have f0 : uVar 2 (frzS [some X0, some (.int (k : Nat)), some (.int x)]) = .ok (.v (.int x)) (frzS [some X0, some (.int (k : Nat)), some (.int x)]) := rfl
    rw [ap_sAppP, g1]
    simp only [f0]
    show (if (true && decide ((l.map T.int).length < sizeLine)) = true then R.ok Fl.nx (putP _ _ (.lst true (l.map T.int ++ [T.int x]))) else R.no) = _
    rw [sz, mp, lTe, q1]
    rfl
  show Ok (sAppP (.ix (.fld (.nm 0) c_Line 3 "leaving") 1) (uVar 2) [some X0, some (.int (k : Nat)), some (.int x)]) K1
  rw [st1]
  apply hK1
  have st2 : sSetP (.fld (.nm 0) c_Line 3 "leaving") 1 (eP pSl10 (aCons (uV (eP pSorted (aCons (uV (eP pIx (aCons (uV (eP (pFld c_Line 3) (aCons (uVar 0) aNil))) (aCons (uVar 1) aNil)))) aNil))) (aCons (uInt (uV (eP pNeg (aCons (uV (eP pIx (aCons (uV (eP (pFld c_Gang 2) (aCons (uV (eP (pFld c_Line 0) (aCons (uVar 0) aNil))) aNil))) (aCons (uVar 1) aNil)))) aNil)))) aNil))) [some X1, some (.int (k : Nat)), some (.int x)] = .ok .nx [some X2, some (.int (k : Nat)), some (.int x)] := by
    have fe : (eP pSl10 (aCons (uV (eP pSorted (aCons (uV (eP pIx (aCons (uV (eP (pFld c_Line 3) (aCons (uVar 0) aNil))) (aCons (uVar 1) aNil)))) aNil))) (aCons (uInt (uV (eP pNeg (aCons (uV (eP pIx (aCons (uV (eP (pFld c_Gang 2) (aCons (uV (eP (pFld c_Line 0) (aCons (uVar 0) aNil))) aNil))) (aCons (uVar 1) aNil)))) aNil)))) aNil))) (frzS [some X1, some (.int (k : Nat)), some (.int x)]) = .ok R2 [some XF, some (.int (k : Nat)), some (.int x)] := by
      have fS : frzS [some X1, some (.int (k : Nat)), some (.int x)] = [some XF, some (.int (k : Nat)), some (.int x)] := by
        show [some (fz X1), some (fz (T.int (k : Nat))), some (fz (T.int x))] = _
        rw [fzl]
        rfl
      rw [fS]
      have f1 : (eP (pFld c_Line 3) (aCons (uVar 0) aNil)) [some XF, some (.int (k : Nat)), some (.int x)] = .ok LS [some XF, some (.int (k : Nat)), some (.int x)] := by simp [fl, p3]
      have f2 : (eP pIx (aCons (uV (eP (pFld c_Line 3) (aCons (uVar 0) aNil))) (aCons (uVar 1) aNil))) [some XF, some (.int (k : Nat)), some (.int x)] = .ok LL [some XF, some (.int (k : Nat)), some (.int x)] := by
        generalize (eP (pFld c_Line 3) (aCons (uVar 0) aNil)) = ff at f1 ⊢
        simp [f1, at1]
      have f3 : (eP pSorted (aCons (uV (eP pIx (aCons (uV (eP (pFld c_Line 3) (aCons (uVar 0) aNil))) (aCons (uVar 1) aNil)))) aNil)) [some XF, some (.int (k : Nat)), some (.int x)] = .ok (lT (srtI (l ++ [x]))) [some XF, some (.int (k : Nat)), some (.int x)] := by
        generalize (eP pIx (aCons (uV (eP (pFld c_Line 3) (aCons (uVar 0) aNil))) (aCons (uVar 1) aNil))) = ff at f2 ⊢
        simp [f2, so]
      have f4 : (eP pIx (aCons (uV (eP (pFld c_Gang 2) (aCons (uV (eP (pFld c_Line 0) (aCons (uVar 0) aNil))) aNil))) (aCons (uVar 1) aNil))) [some XF, some (.int (k : Nat)), some (.int x)] = .ok (.int (h : Nat)) [some XF, some (.int (k : Nat)), some (.int x)] := by
        simp [fl, p0, ph, at2]
      generalize (eP pSorted (aCons (uV (eP pIx (aCons (uV (eP (pFld c_Line 3) (aCons (uVar 0) aNil))) (aCons (uVar 1) aNil)))) aNil)) = gg at f3 ⊢
      generalize (eP pIx (aCons (uV (eP (pFld c_Gang 2) (aCons (uV (eP (pFld c_Line 0) (aCons (uVar 0) aNil))) aNil))) (aCons (uVar 1) aNil))) = hh at f4 ⊢
      generalize lT (srtI (l ++ [x])) = R1 at *
      simp [f3, f4, sl, -p_sl10]
    rw [ap_sSetP, g2]
    simp only [fe, fx, i2, q2, if_true]
  show Ok (sSetP (.fld (.nm 0) c_Line 3 "leaving") 1 _ [some X1, some (.int (k : Nat)), some (.int x)]) _
  rw [st2]
  simp [Pleaves]
/-- what a hole wants more -/
def moreI (L : Ln) (n : Nat) : Int := if n < L.ws.length then L.ws.getD n 0 else 0
theorem hole_gen {L : Ln} (hg : GnOk L.g) (ls : List (List Int)) (n : Nat) (x : Int) : mhole_filled [lnT L ls n, .int x] = .ok (.int (x + tG L.g.ts 3 + moreI L n)) [lnT L ls (n + 1), .int x] := by
  have p0m := (pl0 L ls (n + 1)).2
  have p1 := pl1 L ls n
  have p4 := pl4 L ls n
  have l0 : pLen [lF L.ws] = some (.int (L.ws.length : Nat)) := by
    unfold lF
    simp
  have fl0 := frz_lF L.ws
  have ph : pFld c_Gang 1 [gT L.g] = some (fourT L.g.ts) := pf_ts L.g
  have at3 : atT (fourT L.g.ts) 3 = some (.int (tG L.g.ts 3)) := (four_get hg.ts (k := 3) (by omega)).2.2.2
  have au := aug_eq L ls n (some (.int x)) (some (.int (moreI L n)))
  have fH : frz (fourT L.g.ts) = true := by simp
  have nfn := nfrz_lnT L ls n
  have nfm := nfrz_lnT L ls (n + 1)
  have yes : n < L.ws.length → atT (lF L.ws) ((n : Nat) : Int) = some (.int (moreI L n)) := fun z => by
    unfold moreI
    rw [if_pos z]
    exact at_mapI (x := L.ws.getD n 0) false (by simp [List.getD, List.getElem?_eq_getElem z]) rfl
  have no : ¬ n < L.ws.length → moreI L n = 0 := fun z => if_neg z
  generalize tG L.g.ts 3 = t3 at *
  generalize moreI L n = mo at *
  generalize lnT L ls n = X at *
  generalize lnT L ls (n + 1) = Y at *
  generalize L.ws.length = wl at *
  generalize lF L.ws = E at *
  generalize hB : fourT L.g.ts = TT at *
  refine def_eq rfl ?_
  unfold bhole_filled
  refine ok_seq fun K1 hK1 _ => ?_
  have go : K1 .nx [some X, some (.int x), some (.int mo)] := by
    apply hK1
    refine ok_seq fun K2 hK2 _ => ?_
    show Ok (sAugP (.nm 0) c_Line 4 1 [some X, some (.int x), some (.int mo)]) K2
    rw [au]
    apply hK2
    simp [p0m, ph, at3, nfm, fH, Phole_filled]
  by_cases c : n < wl
  · have c' : ((n : Nat) : Int) < ((wl : Nat) : Int) := by omega
    have y := yes c
    simp [p4, p1, l0, fl0, c, c', y, nfn]
    exact go
  · have c' : ¬ ((n : Nat) : Int) < ((wl : Nat) : Int) := by omega
    have z := no c
    subst z
    simp [p4, p1, l0, fl0, c, c', nfn]
    exact go
/-- whether a piece is let go cold ahead of a beat, or at it -/
def goB (L : Ln) (bs : List Int) (x : Int) : Bool := match L.wm with
  | none => false
  | some w => decide (0 < bs.length) && decide (bs.headD 0 + w < x)
theorem letgo_gen (L : Ln) (ls : List (List Int)) (n : Nat) (bs : List Int) (x : Int) : mis_let_go [lnF L ls n, lF bs, .int x] = .ok (.bl (goB L bs x)) [lnF L ls n, lF bs, .int x] := by
  cases hw : L.wm with
  | none =>
    have : goB L bs x = false := by unfold goB; rw [hw]
    rw [this]
    exact letgo_eq hw bs x
  | some w =>
    have p2 := (pl2 L ls n).1
    rw [hw] at p2
    have fl := frz_lnF L ls n
    have ln : pLen [lF bs] = some (.int (bs.length : Nat)) := by
      unfold lF
      simp
    have fb := frz_lF bs
    have at0 : 0 < bs.length → atT (lF bs) 0 = some (.int (bs.headD 0)) := fun z => by
      match bs, z with
      | y :: bs, _ => exact at_mapI (n := 0) (x := y) false rfl rfl
    have hv : goB L bs x = (decide (0 < bs.length) && decide (bs.headD 0 + w < x)) := by unfold goB; rw [hw]
    rw [hv]
    generalize hX : lnF L ls n = X at *
    generalize bs.headD 0 = b0 at *
    generalize bs.length = m at *
    generalize lF bs = BB at *
    have n0 : Ev.isNon (T.int w) = false := rfl
    refine def_eq rfl ?_
    unfold bis_let_go
    by_cases c : 0 < m
    · have c2 : (0 : Int) < ((m : Nat) : Int) := by omega
      have a := at0 c
      by_cases d : b0 + w < x
      · simp [fl, fb, ln, c, c2, p2, wmT, n0, a, d, Pis_let_go]
      · simp [fl, fb, ln, c, c2, p2, wmT, n0, a, d, Pis_let_go]
    · have c2 : ¬ (0 : Int) < ((m : Nat) : Int) := by omega
      simp [fl, fb, ln, c, c2, p2, wmT, n0, Pis_let_go]
theorem cold_ok : PyData.strOk ("cold" : Str) = true := by decide +kernel
theorem missed_ok : PyData.strOk ("missed" : Str) = true := by decide +kernel
/-- what comes of a piece with a kind: a word and a beat -/
def comes (L : Ln) (ms : Bool) (k : Nat) (ls : List (List Int)) (bs : List Int) (r : Int) : Str × Int :=
  if goB L bs (max r (freeI (hG L.g.hs k) (ls.getD k []))) then ("cold", bs.headD 0 + L.wm.getD 0 + 1)
  else if k = 2 ∧ ms = true then ("missed", max r (freeI (hG L.g.hs k) (ls.getD k []))) else ("passed", max r (freeI (hG L.g.hs k) (ls.getD k [])))
def nextL (L : Ln) (k : Nat) (ls : List (List Int)) (b : Int) : List (List Int) := if 0 < k then leaveL L.g ls (k - 1) b else ls
theorem kind_gen {L : Ln} (hg : GnOk L.g) {ms : Bool} {k n : Nat} {ls : List (List Int)} {bs : List Int} {r : Int} (k4 : k < 4) (l4 : ls.length = 4) (few : ∀ l ∈ ls, l.length ≤ 1000) (bl : bs.length ≤ 4) {a : Option T} {K : Fl → SL → Prop} {w : Str} {b : Int} (hwb : comes L ms k ls bs r = (w, b))
    (h1 : w = "passed" → K .nx [some (lnT L (nextL L k ls b) n), a, some (.bl ms), some (lT (bs ++ [b])), some (.int (b + tG L.g.ts k)), none, none, none])
    (h2 : w ≠ "passed" → K (.rt (.tup [.str w, .tup (bs.map .int), .int b])) [some (lnT L (nextL L k ls b) n), a, some (.bl ms), some (lT bs), some (.int r), none, none, none]) :
    Ok (sWp [5, 6, 7] kone_passed_1 [some (lnT L ls n), a, some (.bl ms), some (lT bs), some (.int r), some (.int (k : Nat)), none, none]) K := by
  have kl : k < ls.length := by omega
  have e : ls[k]? = some (ls.getD k []) := by simp [List.getD, List.getElem?_eq_getElem kl]
  have fr := free_eq (L := L) (n := n) hg k4 e
  obtain ⟨b0, hb0⟩ : ∃ b0, b0 = max r (freeI (hG L.g.hs k) (ls.getD k [])) := ⟨_, rfl⟩
  have lg := letgo_gen L ls n bs b0
  have p0 := (pl0 L (nextL L k ls b) n).2
  have p2 := (pl2 L ls n).2
  have ph : pFld c_Gang 1 [gT L.g] = some (fourT L.g.ts) := pf_ts L.g
  have at3 : atT (fourT L.g.ts) ((k : Nat) : Int) = some (.int (tG L.g.ts k)) := (four_get hg.ts k4).2.2.2
  have fH : frz (fourT L.g.ts) = true := by simp
  have nf1 := nfrz_lnT L ls n
  have fz1 := fz_lnT L ls n
  have nf2 := nfrz_lnT L (nextL L k ls b) n
  have fzb := fz_lT bs
  have nfb : frz (lT bs) = false := rfl
  have tyb : tyOk "list" (lT bs) = true := rfl
  have tp : pTuple [lT bs] = some (.tup (bs.map .int)) := p_tupleL true _
  have aps : mApp [lT bs, .int b] = .ok .non [lT (bs ++ [b]), .int b] := by
    have ap := p_appI (.int b) (bs.map .int) rfl (by rw [List.length_map]; omega)
    have e2 : bs.map T.int ++ [T.int b] = (bs ++ [b]).map .int := by rw [List.map_append]; rfl
    rw [e2] at ap
    exact ap
  have lv : 0 < k → mleaves [lnT L ls n, .int (((k : Nat) : Int) - 1), .int b] = .ok .non [lnT L (nextL L k ls b) n, .int (((k : Nat) : Int) - 1), .int b] := fun z => by
    have e := leave_gen (L := L) (n := n) (k := k - 1) (x := b) hg (by omega) l4 few
    rw [show ((k - 1 : Nat) : Int) = ((k : Nat) : Int) - 1 by omega] at e
    unfold nextL
    rw [if_pos z]
    exact e
  have lv0 : ¬ 0 < k → lnT L (nextL L k ls b) n = lnT L ls n := fun z => by
    unfold nextL
    rw [if_neg z]
  have wok : PyData.strOk w = true := by
    unfold comes at hwb
    split at hwb
    · cases hwb; exact cold_ok
    · split at hwb
      · cases hwb; exact missed_ok
      · cases hwb; exact passed_ok
  have eqs := eqT_str wok passed_ok
  refine ok_wp ?_
  unfold kone_passed_1
  refine ok_seq fun K1 hK1 hR1 => ?_
  have go1 : K1 .nx [some (lnT L ls n), a, some (.bl ms), some (lT bs), some (.int r), some (.int (k : Nat)), some (.int b0), none] := by
    apply hK1
    refine ok_seq fun K2 hK2 hR2 => ?_
    simp
    apply hK2
    refine ok_seq fun K3 hK3 hR3 => ?_
    have go3 : K3 .nx [some (lnT L ls n), a, some (.bl ms), some (lT bs), some (.int r), some (.int (k : Nat)), some (.int b), some (.str w)] := by
      apply hK3
      refine ok_seq fun K4 hK4 hR4 => ?_
      have go4 : K4 .nx [some (lnT L (nextL L k ls b) n), a, some (.bl ms), some (lT bs), some (.int r), some (.int (k : Nat)), some (.int b), some (.str w)] := by
        apply hK4
        generalize lnT L (nextL L k ls b) n = X2 at *
        generalize lT (bs ++ [b]) = B2 at *
        generalize lT bs = B1 at *
        generalize bs.map T.int = BI at *
        generalize hB : fourT L.g.ts = TT at *
        refine ok_seq fun K5 hK5 hR5 => ?_
        by_cases c : w = "passed"
        · have q : (w == ("passed" : Str)) = true := by rw [c]; decide +kernel
          rw [q] at eqs
          simp [eqs]
          apply hK5
          refine ok_seq fun K6 hK6 _ => ?_
          simp [nfb, tyb, aps, -p_app]
          apply hK6
          simp [nf2, p0, ph, at3, fH]
          exact h1 c
        · have q : (w == ("passed" : Str)) = false := by rw [beq_eq_false_iff_ne]; exact c
          rw [q] at eqs
          simp [eqs, nfb, tp, szN]
          exact hR5 _ _ (h2 c)
      by_cases z : 0 < k
      · have z' : (0 : Int) < ((k : Nat) : Int) := by omega
        have lvz := lv z
        generalize lnT L (nextL L k ls b) n = X2 at *
        generalize lnT L ls n = X1 at *
        simp [z', z, nf1, lvz]
        exact go4
      · have z' : ¬ (0 : Int) < ((k : Nat) : Int) := by omega
        have e := lv0 z
        rw [e] at go4
        generalize lnT L ls n = X1 at *
        simp [z', z]
        exact go4
    -- the word and the beat
    rw [hb0] at lg
    have hgo : comes L ms k ls bs r = (w, b) := hwb
    unfold comes at hgo
    rw [← hb0] at hgo lg
    cases hgB : goB L bs b0 with
    | true =>
      rw [hgB] at hgo lg
      obtain ⟨rfl, rfl⟩ : "cold" = w ∧ bs.headD 0 + L.wm.getD 0 + 1 = b := by
        have := hgo
        simp only [if_true] at this
        exact ⟨congrArg Prod.fst this, congrArg Prod.snd this⟩
      obtain ⟨wv, hwv⟩ : ∃ wv, L.wm = some wv := by
        cases hw : L.wm with
        | none => unfold goB at hgB; rw [hw] at hgB; cases hgB
        | some wv => exact ⟨wv, rfl⟩
      have bpos : 0 < bs.length := by
        unfold goB at hgB
        rw [hwv] at hgB
        simp at hgB
        exact hgB.1
      have at0 : atT (lT bs) 0 = some (.int (bs.headD 0)) := by
        match bs, bpos with
        | y :: bs, _ => exact at_mapI (n := 0) (x := y) true rfl rfl
      rw [hwv] at p2
      rw [hwv] at go3
      have p2' : pFld c_Line 2 [lnT L ls n] = some (.int wv) := p2
      have go3' : K3 .nx [some (lnT L ls n), a, some (.bl ms), some (lT bs), some (.int r), some (.int (k : Nat)), some (.int (bs.headD 0 + wv + 1)), some (.str "cold")] := go3
      generalize bs.headD 0 = y0 at *
      generalize lnT L ls n = X1 at *
      generalize lnF L ls n = XF at *
      generalize lT bs = B1 at *
      generalize lF bs = BF at *
      simp [nf1, fz1, nfb, fzb, lg, at0, p2']
      exact go3'
    | false =>
      rw [hgB] at hgo lg
      have hgo2 : (if k = 2 ∧ ms = true then (("missed" : Str), b0) else ("passed", b0)) = (w, b) := hgo
      by_cases c : k = 2
      · subst c
        cases hms : ms with
        | true =>
          rw [hms] at hgo2 go3
          obtain ⟨rfl, rfl⟩ : "missed" = w ∧ b0 = b := ⟨congrArg Prod.fst hgo2, congrArg Prod.snd hgo2⟩
          generalize lnT L ls n = X1 at *
          generalize lnF L ls n = XF at *
          generalize lT bs = B1 at *
          generalize lF bs = BF at *
          have go3' : K3 .nx [some X1, a, some (.bl true), some B1, some (.int r), some (.int 2), some (.int b0), some (.str "missed")] := go3
          simp [nf1, fz1, nfb, fzb, lg, eqT_int]
          exact go3'
        | false =>
          rw [hms] at hgo2 go3
          obtain ⟨rfl, rfl⟩ : "passed" = w ∧ b0 = b := ⟨congrArg Prod.fst hgo2, congrArg Prod.snd hgo2⟩
          generalize lnT L ls n = X1 at *
          generalize lnF L ls n = XF at *
          generalize lT bs = B1 at *
          generalize lF bs = BF at *
          have go3' : K3 .nx [some X1, a, some (.bl false), some B1, some (.int r), some (.int 2), some (.int b0), some (.str "passed")] := go3
          simp [nf1, fz1, nfb, fzb, lg, eqT_int]
          exact go3'
      · rw [if_neg fun z => c z.1] at hgo2
        obtain ⟨rfl, rfl⟩ : "passed" = w ∧ b0 = b := ⟨congrArg Prod.fst hgo2, congrArg Prod.snd hgo2⟩
        have c' : (((k : Nat) : Int) == 2) = false := by rw [beq_eq_false_iff_ne]; omega
        generalize lnT L ls n = X1 at *
        generalize lnF L ls n = XF at *
        generalize lT bs = B1 at *
        generalize lF bs = BF at *
        simp [nf1, fz1, nfb, fzb, lg, eqT_int, c']
        exact go3
  have mx : (if r < freeI (hG L.g.hs k) (ls.getD k []) then freeI (hG L.g.hs k) (ls.getD k []) else r) = b0 := by rw [hb0]; split <;> omega
  generalize freeI (hG L.g.hs k) (ls.getD k []) = F at *
  generalize lnT L ls n = X1 at *
  generalize lnF L ls n = XF at *
  simp [nf1, fz1, fr, mx]
  exact go1
/-- what comes of a piece: a word, when it began with the kinds, its last beat; who leaves, how many holes are filled -/
structure Out where
  w : Str
  bs : List Int
  last : Int
  ls : List (List Int)
  n : Nat
def runK (L : Ln) (ms : Bool) (n : Nat) : Nat → Nat → List (List Int) → List Int → Int → Out
  | 0, _, ls, bs, _ => ⟨"closed", bs, bs.getD 3 0 + tG L.g.ts 3 + moreI L n, leaveL L.g ls 3 (bs.getD 3 0 + tG L.g.ts 3 + moreI L n), n + 1⟩
  | m + 1, k, ls, bs, r =>
    let c := comes L ms k ls bs r
    if c.1 = "passed" then runK L ms n m (k + 1) (nextL L k ls c.2) (bs ++ [c.2]) (c.2 + tG L.g.ts k) else ⟨c.1, bs, c.2, nextL L k ls c.2, n⟩
def oneG (L : Ln) (ms : Bool) (ls : List (List Int)) (n : Nat) (a : Int) : Out := runK L ms n 4 0 ls [] a
def outT (o : Out) : T := .tup [.str o.w, .tup (o.bs.map .int), .int o.last]
theorem frz_out (o : Out) : frz (outT o) = true := by
  show (true && ((frzL (o.bs.map .int)) && (true && true))) = true
  rw [frzL_ints]
  rfl
def FewL (ls : List (List Int)) : Prop := ls.length = 4 ∧ ∀ l ∈ ls, l.length ≤ 4
theorem few_leave {g : Gn} (hg : GnOk g) {ls : List (List Int)} (h : FewL ls) {k : Nat} (k4 : k < 4) (x : Int) : FewL (leaveL g ls k x) := by
  refine ⟨by rw [leaveL_len]; exact h.1, fun l hl => ?_⟩
  unfold leaveL at hl
  rcases List.mem_or_eq_of_mem_set hl with q | rfl
  · exact h.2 l q
  · exact Nat.le_trans (Lp.last_len _ _) (hG_ok hg.hs k4).2.1
theorem few_next {L : Ln} (hg : GnOk L.g) {ls : List (List Int)} (h : FewL ls) {k : Nat} (k4 : k < 4) (x : Int) : FewL (nextL L k ls x) := by
  unfold nextL
  split
  · exact few_leave hg h (by omega) x
  · exact h
theorem one_gen {L : Ln} (hg : GnOk L.g) {ms : Bool} {n : Nat} {ls : List (List Int)} (hf : FewL ls) (a : Int) : mone_passed [lnT L ls n, .int a, .bl ms] = .ok (outT (oneG L ms ls n a)) [lnT L (oneG L ms ls n a).ls (oneG L ms ls n a).n, .int a, .bl ms] := by
  have kn : pLen [t_KINDS] = some (.int 4) := rfl
  obtain ⟨o, ho⟩ : ∃ o, o = oneG L ms ls n a := ⟨_, rfl⟩
  rw [← ho]
  refine def_eq rfl ?_
  unfold bone_passed
  refine ok_seq fun K1 hK1 _ => ?_
  simp [nfrz_lnT]
  apply hK1
  refine ok_seq fun K2 hK2 hR2 => ok_dp ?_
  unfold lone_passed_2
  refine ok_forD (l := List.range 4) (fun i : Nat => T.int (i : Nat)) (st1 := [some (lnT L ls n), some (.int a), some (.bl ms), some (.lst true []), some (.int a), none, none, none]) ?_
    (fun j s => ∃ (ls' : List (List Int)) (bs : List Int) (r : Int), s = [some (lnT L ls' n), some (.int a), some (.bl ms), some (lT bs), some (.int r), none, none, none] ∧ o = runK L ms n (4 - j) j ls' bs r ∧ bs.length = j ∧ FewL ls') ⟨ls, [], a, rfl, ho, rfl, hf⟩ ?_ ?_
  · exact range_n 4 (z := 4) rfl (by decide) (by simp [kn])
  · rintro j k s hj ⟨ls', bs, r, rfl, e, hb, f'⟩
    obtain ⟨hl, hk⟩ := List.getElem?_eq_some_iff.mp hj
    rw [List.length_range] at hl
    rw [List.getElem_range] at hk
    subst hk
    refine ⟨_, rfl, fun K' hn _ hr _ => ?_⟩
    obtain ⟨m, hm⟩ : ∃ m, 4 - j = m + 1 := ⟨3 - j, by omega⟩
    rw [hm] at e
    obtain ⟨w, b, hwb⟩ : ∃ w b, comes L ms j ls' bs r = (w, b) := ⟨_, _, rfl⟩
    have e2 : o = if w = "passed" then runK L ms n m (j + 1) (nextL L j ls' b) (bs ++ [b]) (b + tG L.g.ts j) else ⟨w, bs, b, nextL L j ls' b, n⟩ := by
      rw [e]
      show (if (comes L ms j ls' bs r).1 = "passed" then _ else _) = _
      rw [hwb]
    refine kind_gen hg hl f'.1 (fun l hl' => Nat.le_trans (f'.2 l hl') (by decide)) (by omega) hwb (fun hw => ?_) (fun hw => ?_)
    · rw [if_pos hw] at e2
      refine hn _ ⟨_, _, _, rfl, ?_, by rw [List.length_append, hb]; rfl, few_next hg f' hl b⟩
      rw [show 4 - (j + 1) = m by omega]
      exact e2
    · rw [if_neg hw] at e2
      refine hr _ _ (hR2 _ _ ?_)
      rw [e2]
      rfl
  · rintro s ⟨ls', bs, r, rfl, e, hb, f'⟩
    apply hK2
    rw [show (List.range 4).length = 4 from rfl] at e hb
    have e2 : o = ⟨"closed", bs, bs.getD 3 0 + tG L.g.ts 3 + moreI L n, leaveL L.g ls' 3 (bs.getD 3 0 + tG L.g.ts 3 + moreI L n), n + 1⟩ := e
    have ho2 := hole_gen hg ls' n (bs.getD 3 0)
    have lv := leave_gen (L := L) (n := n + 1) (k := 3) (x := bs.getD 3 0 + tG L.g.ts 3 + moreI L n) hg (by omega) f'.1 (fun l hl' => Nat.le_trans (f'.2 l hl') (by decide))
    have nf3 := nfrz_lnT L ls' n
    have nf3' := nfrz_lnT L ls' (n + 1)
    have b3 : atT (lT bs) 3 = some (.int (bs.getD 3 0)) := at_mapI (n := 3) (x := bs.getD 3 0) true (by simp [List.getD, List.getElem?_eq_getElem (show 3 < bs.length by omega)]) rfl
    have nfb : frz (lT bs) = false := rfl
    have tp : pTuple [lT bs] = some (.tup (bs.map .int)) := p_tupleL true _
    have res : outT o = .tup [.str "closed", .tup (bs.map .int), .int (bs.getD 3 0 + tG L.g.ts 3 + moreI L n)] := by rw [e2]; rfl
    have resl : lnT L o.ls o.n = lnT L (leaveL L.g ls' 3 (bs.getD 3 0 + tG L.g.ts 3 + moreI L n)) (n + 1) := by rw [e2]
    rw [res, resl]
    generalize bs.getD 3 0 + tG L.g.ts 3 + moreI L n = E at *
    generalize bs.getD 3 0 = x3 at *
    generalize lnT L ls' n = X1 at *
    generalize lnT L ls' (n + 1) = X2 at *
    generalize lnT L (leaveL L.g ls' 3 E) (n + 1) = X3 at *
    generalize bs.map T.int = BI at *
    generalize lT bs = B4 at *
    refine ok_seq fun K3 hK3 _ => ?_
    simp [nf3, nfb, b3, ho2]
    apply hK3
    refine ok_seq fun K4 hK4 _ => ?_
    have lv' : mleaves [X2, .int 3, .int E] = .ok .non [X3, .int 3, .int E] := lv
    simp [nf3', lv']
    apply hK4
    simp [nfb, tp, szN, Pone_passed]
/-- what is told of all pieces -/
def runG (L : Ln) (mis : Nat → Bool) : List Int → Nat → List (List Int) → Nat → List Out
  | [], _, _, _ => []
  | a :: as, i, ls, n => oneG L (mis i) ls n a :: runG L mis as (i + 1) (oneG L (mis i) ls n a).ls (oneG L (mis i) ls n a).n
/-- who has left, and how many holes are filled, behind so many pieces -/
def stG (L : Ln) (mis : Nat → Bool) (a : List Int) : Nat → List (List Int) × Nat
  | 0 => ([[], [], [], []], 0)
  | i + 1 => let s := stG L mis a i; let o := oneG L (mis i) s.1 s.2 (a.getD i 0); (o.ls, o.n)
def outG (L : Ln) (mis : Nat → Bool) (a : List Int) (i : Nat) : Out := oneG L (mis i) (stG L mis a i).1 (stG L mis a i).2 (a.getD i 0)
theorem few_run {L : Ln} (hg : GnOk L.g) {ms : Bool} {n : Nat} : ∀ (m k : Nat) {ls : List (List Int)} {bs : List Int} {r : Int}, m + k = 4 → FewL ls → FewL (runK L ms n m k ls bs r).ls
  | 0, k, ls, bs, r, _, h => few_leave hg h (by omega) _
  | m + 1, k, ls, bs, r, e, h => by
    show FewL (if (comes L ms k ls bs r).1 = "passed" then runK L ms n m (k + 1) (nextL L k ls (comes L ms k ls bs r).2) (bs ++ [(comes L ms k ls bs r).2]) ((comes L ms k ls bs r).2 + tG L.g.ts k) else (⟨(comes L ms k ls bs r).1, bs, (comes L ms k ls bs r).2, nextL L k ls (comes L ms k ls bs r).2, n⟩ : Out)).ls
    have f := few_next (L := L) hg h (show k < 4 by omega) (comes L ms k ls bs r).2
    split
    · exact few_run hg m (k + 1) (by omega) f
    · exact f
theorem few_st {L : Ln} (hg : GnOk L.g) (mis : Nat → Bool) (a : List Int) : ∀ i, FewL (stG L mis a i).1
  | 0 => ⟨rfl, fun l hl => by
    have hl' : l ∈ ([[], [], [], []] : List (List Int)) := hl
    have : l = [] := by simpa using hl'
    rw [this]; decide⟩
  | i + 1 => few_run hg 4 0 rfl (few_st hg mis a i)
theorem init_gen (g : Gn) {u : T} {ws : List Int} (hu : pList [u] = some (.lst true (ws.map .int))) (w : Option Int) (fu : u = lF ws ∨ u = .lst true []) : mLine____init__ [.obj true c_Line [], gT g, u, wmT w] = .ok .non [lnT ⟨g, ws, w⟩ [[], [], [], []] 0, gT g, u, wmT w] := by
  have s0 : ∀ x : T, setA ([] : List T) 0 x = [x] := fun _ => rfl
  have s1 : ∀ a x : T, setA [a] 1 x = [a, x] := fun _ _ => rfl
  have s2 : ∀ a b x : T, setA [a, b] 2 x = [a, b, x] := fun _ _ _ => rfl
  have s3 : ∀ a b c x : T, setA [a, b, c] 3 x = [a, b, c, x] := fun _ _ _ _ => rfl
  have s4 : ∀ a b c d x : T, setA [a, b, c, d] 4 x = [a, b, c, d, x] := fun _ _ _ _ _ => rfl
  have hl : lnT ⟨g, ws, w⟩ [[], [], [], []] 0 = .obj true c_Line [gT g, lF ws, wmT w, .lst true [.lst true [], .lst true [], .lst true [], .lst true []], .int 0] := rfl
  have fg : frz (gT g) = true := by simp
  have fw := frz_wm w
  have fwz := fz_frz fw
  have cW : fz (.lst true (ws.map T.int)) = lF ws := fz_lT ws
  rw [hl]
  generalize gT g = X at *
  have c1 : cLine____init___1 [some (.obj true c_Line [X, lF ws, wmT w]), some X, some u, some (wmT w), none] = .ok (.lst true [.lst true [], .lst true [], .lst true [], .lst true []]) [some (.obj true c_Line [X, lF ws, wmT w]), some X, some u, some (wmT w), none] := by
    unfold cLine____init___1
    exact lc_all0 (l := (["heater", "thrower", "holder", "closer"] : List Str)) T.str (fun _ => .lst true []) (by rfl) (by decide) (fun z hz => by simp [tgN, szN]) rfl
  have flW := frz_lF ws
  generalize hW : T.lst true (ws.map T.int) = WL at *
  generalize wmT w = W at *
  have fuc : (frz u = true ∨ frz u = false) := by cases frz u <;> simp
  generalize lF ws = LW at *
  refine def_eq rfl ?_
  unfold bLine____init__
  refine ok_seq fun K1 hK1 _ => ?_
  simp [sSetF, fg, s0]
  apply hK1
  refine ok_seq fun K2 hK2 _ => ?_
  rcases fuc with fuu | fuu
  · simp [sSetF, s1, fuu, hu, cW]
    apply hK2
    refine ok_seq fun K3 hK3 _ => ?_
    simp [sSetF, s2, fw]
    apply hK3
    refine ok_seq fun K4 hK4 _ => ?_
    simp [sSetF, s3, c1]
    apply hK4
    simp [sSetF, s4, PLine____init__]
  · simp [sSetF, s1, fuu, hu, cW]
    apply hK2
    refine ok_seq fun K3 hK3 _ => ?_
    simp [sSetF, s2, fw]
    apply hK3
    refine ok_seq fun K4 hK4 _ => ?_
    simp [sSetF, s3, c1]
    apply hK4
    simp [sSetF, s4, PLine____init__]
/-- all of them, none missed -/
theorem passed_gen {g : Gn} (hg : GnOk g) {u : T} {ws : List Int} (hu : (u = .non ∧ ws = []) ∨ u = lF ws) (w : Option Int) (a : List Int) (few : a.length ≤ 1000) (o : Bool := false) :
    mpassed [gT g, .lst o (a.map .int), u, .non, wmT w] = .ok (.lst true ((List.range a.length).map fun i => outT (outG ⟨g, ws, w⟩ (fun _ => false) a i))) [gT g, lF a, u, .non, wmT w] := by
  have fl := frz_lF a
  have fw := frz_wm w
  obtain ⟨L, hL⟩ : ∃ L : Ln, L = ⟨g, ws, w⟩ := ⟨_, rfl⟩
  have hgL : GnOk L.g := by rw [hL]; exact hg
  rw [← hL]
  have fu : frz u = true := by
    rcases hu with ⟨rfl, _⟩ | rfl
    · rfl
    · exact frz_lF ws
  have cp : cpassed_1 [some (gT g), some (.lst o (a.map .int)), some u, some .non, some (wmT w), some (lnT L (stG L (fun _ => false) a 0).1 (stG L (fun _ => false) a 0).2), some (fz (dicT true [])), none, none] = .ok (.lst true ((List.range a.length).map fun i => outT (outG L (fun _ => false) a i))) [some (gT g), some (lF a), some u, some .non, some (wmT w), some (lnT L (stG L (fun _ => false) a a.length).1 (stG L (fun _ => false) a a.length).2), some (fz (dicT true [])), none, none] := by
    unfold cpassed_1
    have en : enT 0 (fzL (a.map T.int)) = a.zipIdx.map fun p => T.tup [.int (p.2 : Nat), .int p.1] := by
      rw [fzL_ints, enT_zip]
    obtain ⟨acc, st2, ⟨h1, h2⟩, hal, e⟩ := lc_inv (te := eCold (eCall mone_passed [] (aCons (uVar 5) (aCons (uVar 8) (aCons (uV (eP (pDInO false) (aCons (uVar 7) (aCons (uVar 6) aNil)))) aNil))))) (g := (tgT (tgCons (tgN 7) (tgCons (tgN 8) tgNil)))) (vs := [7, 8])
      (st := [some (gT g), some (.lst o (a.map .int)), some u, some .non, some (wmT w), some (lnT L (stG L (fun _ => false) a 0).1 (stG L (fun _ => false) a 0).2), some (fz (dicT true [])), none, none]) (st1 := [some (gT g), some (lF a), some u, some .non, some (wmT w), some (lnT L (stG L (fun _ => false) a 0).1 (stG L (fun _ => false) a 0).2), some (fz (dicT true [])), none, none])
      (ts := a.zipIdx.map fun p => T.tup [.int (p.2 : Nat), .int p.1]) (f := iOf enAny (uVar 1))
      (fun acc s => acc = (List.range acc.length).map (fun i => outT (outG L (fun _ => false) a i)) ∧ s = [some (gT g), some (lF a), some u, some .non, some (wmT w), some (lnT L (stG L (fun _ => false) a acc.length).1 (stG L (fun _ => false) a acc.length).2), some (fz (dicT true [])), none, none])
      (by
        have en2 : enAny (lF a) = some (a.zipIdx.map fun p => T.tup [.int (p.2 : Nat), .int p.1]) := by
          rw [← en]
          rfl
        have fzo : fz (.lst o (a.map .int)) = lF a := by
          show T.lst false (fzL (a.map .int)) = _
          rw [fzL_ints]
          rfl
        cases o with
        | false =>
          have e0 : T.lst false (a.map .int) = lF a := rfl
          rw [e0]
          generalize lF a = LA at *
          generalize a.zipIdx.map (fun p => T.tup [.int (p.2 : Nat), .int p.1]) = EN at *
          simp [fl, fz_frz fl, en2]
        | true =>
          have nfo : frz (.lst true (a.map .int)) = false := rfl
          generalize T.lst true (a.map .int) = LO at *
          generalize lF a = LA at *
          generalize a.zipIdx.map (fun p => T.tup [.int (p.2 : Nat), .int p.1]) = EN at *
          simp [nfo, fzo, en2]) (by simp; omega) ⟨rfl, rfl⟩ (fun i v acc s hi ha ⟨h1, h2⟩ => by
        rw [List.getElem?_map] at hi
        have hil : i < a.length := by
          rcases Nat.lt_or_ge i a.length with q | q
          · exact q
          · rw [List.getElem?_eq_none (by simp; omega)] at hi; simp at hi
        have hx : a[i]? = some (a.getD i 0) := by simp [List.getD, List.getElem?_eq_getElem hil]
        have hv : v = T.tup [.int (i : Nat), .int (a.getD i 0)] := by
          rw [List.getElem?_zipIdx, hx] at hi
          simp at hi
          simpa using hi.symm
        subst hv
        rw [ha] at h1 h2
        subst h2
        have o : mone_passed [lnT L (stG L (fun _ => false) a i).1 (stG L (fun _ => false) a i).2, .int (a.getD i 0), .bl false] = .ok (outT (outG L (fun _ => false) a i)) [lnT L (stG L (fun _ => false) a (i + 1)).1 (stG L (fun _ => false) a (i + 1)).2, .int (a.getD i 0), .bl false] := one_gen hgL (few_st hgL _ a i) _
        have fr := frz_out (outG L (fun _ => false) a i)
        have dn : pDInO false [.int (i : Nat), fz (dicT true [])] = some (.bl false) := rfl
        have fd : frz (fz (dicT true [])) = true := rfl
        have nf := nfrz_lnT L (stG L (fun _ => false) a i).1 (stG L (fun _ => false) a i).2
        refine ⟨[some (gT g), some (lF a), some u, some .non, some (wmT w), some (lnT L (stG L (fun _ => false) a i).1 (stG L (fun _ => false) a i).2), some (fz (dicT true [])), some (.int (i : Nat)), some (.int (a.getD i 0))], outT (outG L (fun _ => false) a i), [some (gT g), some (lF a), some u, some .non, some (wmT w), some (lnT L (stG L (fun _ => false) a (i + 1)).1 (stG L (fun _ => false) a (i + 1)).2), some (fz (dicT true [])), some (.int (i : Nat)), some (.int (a.getD i 0))], by simp [tgCons], ?_, ?_, ?_⟩
        · generalize fz (dicT true []) = DD at *
          generalize lnT L (stG L (fun _ => false) a i).1 (stG L (fun _ => false) a i).2 = X1 at *
          generalize lnT L (stG L (fun _ => false) a (i + 1)).1 (stG L (fun _ => false) a (i + 1)).2 = X2 at *
          generalize hr : outT (outG L (fun _ => false) a i) = RR at *
          generalize a.getD i 0 = xi at *
          simp [nf, fd, dn, o, fz_frz fr]
        · rw [List.length_append, List.length_singleton, ha, List.range_succ, List.map_append, ← h1]
          rfl
        · rw [List.length_append, List.length_singleton, ha]
          rfl)
    have hl2 : acc.length = a.length := by rw [hal]; simp
    rw [hl2] at h1 h2
    rw [e, h1, h2]
    rfl
  have z0 : lnT L (stG L (fun _ => false) a 0).1 (stG L (fun _ => false) a 0).2 = lnT L [[], [], [], []] 0 := rfl
  rw [z0] at cp
  have fd : frz (fz (dicT true [])) = true := rfl
  have fgt : frz (gT g) = true := by simp
  have n0 : Ev.isNon T.non = true := rfl
  have dd : eDNew = fun st => R.ok (dicT true []) st := rfl
  have pW : pList [lF ws] = some (.lst true (ws.map .int)) := by
    show (if frzL (ws.map T.int) then some (T.lst true (ws.map T.int)) else none) = _
    rw [frzL_ints]
    rfl
  have iniW := init_gen g pW w (.inl rfl)
  have pE : pList [.lst true []] = some (.lst true (([] : List Int).map .int)) := rfl
  have iniE := init_gen g pE w (.inr rfl)
  have nonW : Ev.isNon (lF ws) = false := rfl
  rw [← hL] at iniW
  have iniE' : ws = [] → mLine____init__ [.obj true c_Line [], gT g, .lst true [], wmT w] = .ok .non [lnT L [[], [], [], []] 0, gT g, .lst true [], wmT w] := fun z => by rw [hL, z]; exact iniE
  have flW := frz_lF ws
  generalize lnT L (stG L (fun _ => false) a a.length).1 (stG L (fun _ => false) a a.length).2 = XE at *
  generalize lnT L [[], [], [], []] 0 = X0 at *
  generalize (List.range a.length).map (fun i => outT (outG L (fun _ => false) a i)) = RS at *
  generalize hLO : T.lst o (a.map T.int) = LO at *
  generalize lF a = LA at *
  generalize gT g = GG at *
  generalize wmT w = WM at *
  refine def_eq rfl ?_
  unfold bpassed
  refine ok_seq fun K1 hK1 _ => ?_
  have go : K1 .nx [some GG, some LO, some u, some .non, some WM, some X0, none, none, none] := by
    apply hK1
    refine ok_seq fun K2 hK2 _ => ?_
    rw [dd]
    simp [n0]
    apply hK2
    simp [cp, Ppassed, fl, fgt, fu, fw]
  rcases hu with ⟨rfl, hz⟩ | rfl
  · have i2 := iniE' hz
    simp [fgt, fz_frz fgt, szN, i2, n0, fw]
    exact go
  · generalize lF ws = LW at *
    simp [fgt, fz_frz fgt, szN, iniW, nonW, fw, flW]
    exact go
end
end W_k13

namespace W_k13
open PySem PySem.Spec PyProof.Rows L2 Ev
noncomputable section
abbrev noM : Nat → Bool := fun _ => false
theorem comes_pass {L : Ln} (w : L.wm = none) (k : Nat) (ls : List (List Int)) (bs : List Int) (r : Int) : comes L false k ls bs r = (("passed" : Str), max r (Lp.frI (hG L.g.hs k) (ls.getD k []))) := by
  have go : ∀ x, goB L bs x = false := fun x => by unfold goB; rw [w]
  unfold comes
  rw [go]
  simp
  rfl
theorem run_step {L : Ln} (w : L.wm = none) (n m k : Nat) (ls : List (List Int)) (bs : List Int) (r : Int) : runK L false n (m + 1) k ls bs r = runK L false n m (k + 1) (nextL L k ls (max r (Lp.frI (hG L.g.hs k) (ls.getD k [])))) (bs ++ [max r (Lp.frI (hG L.g.hs k) (ls.getD k []))]) (max r (Lp.frI (hG L.g.hs k) (ls.getD k [])) + tG L.g.ts k) := by
  show (if (comes L false k ls bs r).1 = "passed" then runK L false n m (k + 1) (nextL L k ls (comes L false k ls bs r).2) (bs ++ [(comes L false k ls bs r).2]) ((comes L false k ls bs r).2 + tG L.g.ts k) else _) = _
  rw [comes_pass w]
  exact if_pos rfl
theorem leave_ne (g : Gn) (ls : List (List Int)) {j k : Nat} (x : Int) (h : j ≠ k) : (leaveL g ls j x).getD k [] = ls.getD k [] := by
  unfold leaveL
  simp [List.getD, List.getElem?_set, h]
theorem leave_self (g : Gn) {ls : List (List Int)} {k : Nat} (x : Int) (h : k < ls.length) : (leaveL g ls k x).getD k [] = Lp.lastL (hG g.hs k) (srtI (ls.getD k [] ++ [x])) := by
  unfold leaveL
  simp [List.getD, List.getElem?_set, h]
/-- a piece's begins and its last beat -/
structure Pc (L : Ln) (ls : List (List Int)) (n : Nat) (x : Int) (b0 b1 b2 b3 e : Int) : Prop where
  h0 : b0 = max x (Lp.frI (hG L.g.hs 0) (ls.getD 0 []))
  h1 : b1 = max (b0 + tG L.g.ts 0) (Lp.frI (hG L.g.hs 1) (ls.getD 1 []))
  h2 : b2 = max (b1 + tG L.g.ts 1) (Lp.frI (hG L.g.hs 2) (ls.getD 2 []))
  h3 : b3 = max (b2 + tG L.g.ts 2) (Lp.frI (hG L.g.hs 3) (ls.getD 3 []))
  he : e = b3 + tG L.g.ts 3 + moreI L n
theorem one_is {L : Ln} (w : L.wm = none) (ls : List (List Int)) (n : Nat) (x : Int) : ∃ b0 b1 b2 b3 e, Pc L ls n x b0 b1 b2 b3 e ∧ oneG L false ls n x = ⟨"closed", [b0, b1, b2, b3], e, leaveL L.g (leaveL L.g (leaveL L.g (leaveL L.g ls 0 b1) 1 b2) 2 b3) 3 e, n + 1⟩ := by
  refine ⟨_, _, _, _, _, ⟨rfl, rfl, rfl, rfl, rfl⟩, ?_⟩
  have n0 : ∀ b, nextL L 0 ls b = ls := fun b => rfl
  have n1 : ∀ b, nextL L 1 ls b = leaveL L.g ls 0 b := fun b => rfl
  have n2 : ∀ l b, nextL L 2 l b = leaveL L.g l 1 b := fun l b => rfl
  have n3 : ∀ l b, nextL L 3 l b = leaveL L.g l 2 b := fun l b => rfl
  unfold oneG
  rw [run_step w, n0, run_step w, n1, run_step w, n2, run_step w, n3]
  rw [leave_ne (j := 0) (k := 2) _ _ _ (by decide), leave_ne (j := 1) (k := 3) _ _ _ (by decide), leave_ne (j := 0) (k := 3) _ _ _ (by decide)]
  rfl
/-- when a piece leaves a kind -/
def lvI (L : Ln) (a : List Int) (k i : Nat) : Int := if k < 3 then (outG L noM a i).bs.getD (k + 1) 0 else (outG L noM a i).last
def bgI (L : Ln) (a : List Int) (i k : Nat) : Int := (outG L noM a i).bs.getD k 0
theorem st_n {L : Ln} (w : L.wm = none) (a : List Int) : ∀ i, (stG L noM a i).2 = i
  | 0 => rfl
  | i + 1 => by
    obtain ⟨b0, b1, b2, b3, e, _, h⟩ := one_is w (stG L noM a i).1 (stG L noM a i).2 (a.getD i 0)
    show (oneG L false (stG L noM a i).1 (stG L noM a i).2 (a.getD i 0)).n = i + 1
    rw [h]
    show (stG L noM a i).2 + 1 = i + 1
    rw [st_n w a i]
theorem out_is {L : Ln} (w : L.wm = none) (a : List Int) (i : Nat) : ∃ b0 b1 b2 b3 e, Pc L (stG L noM a i).1 i (a.getD i 0) b0 b1 b2 b3 e ∧ outG L noM a i = ⟨"closed", [b0, b1, b2, b3], e, leaveL L.g (leaveL L.g (leaveL L.g (leaveL L.g (stG L noM a i).1 0 b1) 1 b2) 2 b3) 3 e, i + 1⟩ := by
  obtain ⟨b0, b1, b2, b3, e, p, h⟩ := one_is w (stG L noM a i).1 (stG L noM a i).2 (a.getD i 0)
  rw [st_n w a i] at p h
  refine ⟨b0, b1, b2, b3, e, p, ?_⟩
  unfold outG
  rw [st_n w a i]
  exact h
theorem range_snoc (f : Nat → Int) (i : Nat) : (List.range (i + 1)).map f = (List.range i).map f ++ [f i] := by rw [List.range_succ, List.map_append]; rfl
/-- the lists are the greatest of all who left -/
theorem grt_st {L : Ln} (hg : GnOk L.g) (w : L.wm = none) (a : List Int) : ∀ (i k : Nat), k < 4 → Lp.Grt ((stG L noM a i).1.getD k []) ((List.range i).map (lvI L a k)) (hG L.g.hs k)
  | 0, k, k4 => by
    have : (stG L noM a 0).1.getD k [] = [] := by
      have hk : k = 0 ∨ k = 1 ∨ k = 2 ∨ k = 3 := by omega
      rcases hk with rfl | rfl | rfl | rfl <;> rfl
    rw [this]
    exact Lp.Grt.nil _
  | i + 1, k, k4 => by
    have ih := grt_st hg w a i k k4
    obtain ⟨b0, b1, b2, b3, e, p, h⟩ := out_is w a i
    have st : (stG L noM a (i + 1)).1 = (outG L noM a i).ls := rfl
    have l4 := (few_st hg noM a i).1
    rw [range_snoc, st, h]
    simp only
    have len0 : ∀ x, (leaveL L.g (stG L noM a i).1 0 x).length = 4 := fun x => by rw [leaveL_len, l4]
    have len1 : ∀ x y, (leaveL L.g (leaveL L.g (stG L noM a i).1 0 x) 1 y).length = 4 := fun x y => by rw [leaveL_len, len0]
    have len2 : ∀ x y z, (leaveL L.g (leaveL L.g (leaveL L.g (stG L noM a i).1 0 x) 1 y) 2 z).length = 4 := fun x y z => by rw [leaveL_len, len1]
    have hk : k = 0 ∨ k = 1 ∨ k = 2 ∨ k = 3 := by omega
    rcases hk with rfl | rfl | rfl | rfl
    · rw [leave_ne _ _ _ (by decide), leave_ne _ _ _ (by decide), leave_ne _ _ _ (by decide), leave_self _ _ (by omega)]
      have : lvI L a 0 i = b1 := by unfold lvI; rw [h]; rfl
      rw [this]
      exact ih.snoc _
    · rw [leave_ne _ _ _ (by decide), leave_ne _ _ _ (by decide), leave_self _ _ (by rw [len0]; omega), leave_ne _ _ _ (by decide)]
      have : lvI L a 1 i = b2 := by unfold lvI; rw [h]; rfl
      rw [this]
      exact ih.snoc _
    · rw [leave_ne _ _ _ (by decide), leave_self _ _ (by rw [len1]; omega), leave_ne _ _ _ (by decide), leave_ne _ _ _ (by decide)]
      have : lvI L a 2 i = b3 := by unfold lvI; rw [h]; rfl
      rw [this]
      exact ih.snoc _
    · rw [leave_self _ _ (by rw [len2]; omega), leave_ne _ _ _ (by decide), leave_ne _ _ _ (by decide), leave_ne _ _ _ (by decide)]
      have : lvI L a 3 i = e := by unfold lvI; rw [h]; rfl
      rw [this]
      exact ih.snoc _
end
end W_k13

namespace W_k13
open PySem PySem.Spec PyProof.Rows L2 Ev
noncomputable section
/-- a passing with nobody let go, no piece missed -/
structure Ok13 (L : Ln) (a : List Int) : Prop where
  g : GnOk L.g
  wm : L.wm = none
  ws : ∀ x ∈ L.ws, 0 ≤ x
  nn : ∀ i, 0 ≤ a.getD i 0
  up : ∀ i j, i ≤ j → j < a.length → a.getD i 0 ≤ a.getD j 0
theorem more_nn {L : Ln} {a : List Int} (A : Ok13 L a) (n : Nat) : 0 ≤ moreI L n := by
  unfold moreI
  split
  · rename_i h
    have : L.ws.getD n 0 = L.ws[n] := by simp [List.getD, List.getElem?_eq_getElem h]
    rw [this]
    exact A.ws _ (List.getElem_mem h)
  · exact Int.le_refl _
abbrev fr13 (L : Ln) (a : List Int) (i k : Nat) : Int := Lp.frI (hG L.g.hs k) ((stG L noM a i).1.getD k [])
/-- the begins and the last beat, by turns -/
theorem bg_0 {L : Ln} {a : List Int} (A : Ok13 L a) (i : Nat) : bgI L a i 0 = max (a.getD i 0) (fr13 L a i 0) := by
  obtain ⟨b0, b1, b2, b3, e, p, h⟩ := out_is A.wm a i
  unfold bgI
  rw [h]
  exact p.h0
theorem bg_s {L : Ln} {a : List Int} (A : Ok13 L a) (i k : Nat) (k3 : k < 3) : bgI L a i (k + 1) = max (bgI L a i k + tG L.g.ts k) (fr13 L a i (k + 1)) := by
  obtain ⟨b0, b1, b2, b3, e, p, h⟩ := out_is A.wm a i
  unfold bgI
  rw [h]
  have hk : k = 0 ∨ k = 1 ∨ k = 2 := by omega
  rcases hk with rfl | rfl | rfl
  · exact p.h1
  · exact p.h2
  · exact p.h3
theorem lv_s {L : Ln} {a : List Int} (i k : Nat) (k3 : k < 3) : lvI L a k i = bgI L a i (k + 1) := by
  unfold lvI bgI
  rw [if_pos k3]
theorem lv_3 {L : Ln} {a : List Int} (A : Ok13 L a) (i : Nat) : lvI L a 3 i = bgI L a i 3 + tG L.g.ts 3 + moreI L i := by
  obtain ⟨b0, b1, b2, b3, e, p, h⟩ := out_is A.wm a i
  unfold lvI bgI
  rw [h]
  exact p.he
theorem t_nn {L : Ln} {a : List Int} (A : Ok13 L a) {k : Nat} (k4 : k < 4) : 1 ≤ tG L.g.ts k := (four_get A.g.ts k4).2.1
/-- it leaves a kind no sooner than its take is over -/
theorem lv_ge {L : Ln} {a : List Int} (A : Ok13 L a) (i : Nat) {k : Nat} (k4 : k < 4) : bgI L a i k + tG L.g.ts k ≤ lvI L a k i := by
  rcases Nat.lt_or_ge k 3 with q | q
  · rw [lv_s i k q, bg_s A i k q]
    omega
  · have : k = 3 := by omega
    subst this
    rw [lv_3 A]
    have := more_nn A i
    omega
theorem fr_nn {L : Ln} {a : List Int} (A : Ok13 L a) : ∀ (i : Nat), (∀ k, k < 4 → 0 ≤ bgI L a i k) ∧ ∀ k, k < 4 → 0 ≤ lvI L a k i := fun i => by
  have b0 : 0 ≤ bgI L a i 0 := by
    rw [bg_0 A]
    have := A.nn i
    omega
  have st : ∀ k, k < 3 → 0 ≤ bgI L a i k → 0 ≤ bgI L a i (k + 1) := fun k k3 q => by
    rw [bg_s A i k k3]
    have := t_nn A (k := k) (by omega)
    omega
  have b1 := st 0 (by omega) b0
  have b2 := st 1 (by omega) b1
  have b3 := st 2 (by omega) b2
  have all : ∀ k, k < 4 → 0 ≤ bgI L a i k := fun k k4 => by
    have hk : k = 0 ∨ k = 1 ∨ k = 2 ∨ k = 3 := by omega
    rcases hk with rfl | rfl | rfl | rfl <;> assumption
  refine ⟨all, fun k k4 => ?_⟩
  have := lv_ge A i k4
  have := all k k4
  have := t_nn A k4
  omega
/-- a hand is free no sooner than the last so many leave -/
theorem fr_ge {L : Ln} {a : List Int} (A : Ok13 L a) {i k : Nat} (k4 : k < 4) (hi : hG L.g.hs k ≤ i) {v : Int} (far : ∀ j, i - hG L.g.hs k ≤ j → j < i → v ≤ lvI L a k j) : v ≤ fr13 L a i k := by
  have G := grt_st A.g A.wm a i k k4
  have h1 := (hG_ok A.g.hs k4).1
  have ln : ((List.range i).map (lvI L a k)).length = i := by simp
  have c := Lp.cnt_tail (E := (List.range i).map (lvI L a k)) (h := hG L.g.hs k) (v := v) (by omega) (fun j y hj hy => by
    rw [ln] at hj
    rw [List.getElem?_map] at hy
    rcases Nat.lt_or_ge j i with q | q
    · rw [List.getElem?_range q] at hy
      cases hy
      exact far j hj q
    · rw [List.getElem?_eq_none (by simp; omega)] at hy
      cases hy)
  have g := G.ge h1 (by omega) c
  have l := G.len
  unfold fr13 Lp.frI
  rw [if_pos (by omega)]
  exact g
theorem fr_up {L : Ln} {a : List Int} (A : Ok13 L a) (i : Nat) {k : Nat} (k4 : k < 4) : fr13 L a i k ≤ fr13 L a (i + 1) k := by
  have G := grt_st A.g A.wm a i k k4
  have G2 := grt_st A.g A.wm a (i + 1) k k4
  rw [range_snoc] at G2
  refine Lp.fr_mono (hG_ok A.g.hs k4).1 G G2 fun y hy => ?_
  rw [← range_snoc] at hy
  obtain ⟨j, _, rfl⟩ := List.mem_map.mp hy
  exact (fr_nn A j).2 k k4
/-- begins rise from piece to piece -/
theorem bg_up {L : Ln} {a : List Int} (A : Ok13 L a) {i : Nat} (hi : i + 1 < a.length) : ∀ k, k < 4 → bgI L a i k ≤ bgI L a (i + 1) k
  | 0, _ => by
    rw [bg_0 A, bg_0 A]
    have := fr_up A i (k := 0) (by omega)
    have := A.up i (i + 1) (by omega) hi
    omega
  | k + 1, k4 => by
    rw [bg_s A i k (by omega), bg_s A (i + 1) k (by omega)]
    have := fr_up A i (k := k + 1) k4
    have := bg_up A hi k (by omega)
    omega
theorem bg_le {L : Ln} {a : List Int} (A : Ok13 L a) {i j k : Nat} (k4 : k < 4) (l : i ≤ j) (hj : j < a.length) : bgI L a i k ≤ bgI L a j k := by
  induction j with
  | zero => have : i = 0 := by omega
            rw [this]; exact Int.le_refl _
  | succ j ih =>
    rcases Nat.lt_or_ge j i with q | q
    · have : i = j + 1 := by omega
      rw [this]; exact Int.le_refl _
    · exact Int.le_trans (ih q (by omega)) (bg_up A hj k k4)
/-- of so many that follow one another the last begins a take behind the first -/
theorem stretch {L : Ln} {a : List Int} (A : Ok13 L a) {i k : Nat} (k4 : k < 4) (hi : i + hG L.g.hs k < a.length) : bgI L a i k + tG L.g.ts k ≤ bgI L a (i + hG L.g.hs k) k := by
  have f : bgI L a i k + tG L.g.ts k ≤ fr13 L a (i + hG L.g.hs k) k := fr_ge A k4 (by omega) fun j h1 h2 => by
    have := lv_ge A j k4
    have := bg_le A k4 (i := i) (j := j) (by omega) (by omega)
    omega
  rcases Nat.eq_zero_or_pos k with z | z
  · subst z
    rw [bg_0 A (i + hG L.g.hs 0)]
    omega
  · obtain ⟨m, rfl⟩ : ∃ m, k = m + 1 := ⟨k - 1, by omega⟩
    rw [bg_s A (i + hG L.g.hs (m + 1)) m (by omega)]
    omega
/-- no sooner than all at once, later -/
theorem low {L : Ln} {a : List Int} (A : Ok13 L a) (f : Int) (hf : ∀ i, i < a.length → f ≤ a.getD i 0) : ∀ (i : Nat), i < a.length → (∀ k, k < 4 → f + Lp.pb (tG L.g.ts) (hG L.g.hs) i k ≤ bgI L a i k) := by
  have h1 : ∀ k, k < 4 → 1 ≤ hG L.g.hs k := fun k hk => (hG_ok A.g.hs hk).1
  intro i
  induction i using Nat.strongRecOn with
  | _ i ih =>
    intro hi k
    have lv : ∀ j k, j < i → k < 4 → f + Lp.pb (tG L.g.ts) (hG L.g.hs) j (k + 1) ≤ lvI L a k j := fun j k hj k4 => by
      rcases Nat.lt_or_ge k 3 with q | q
      · rw [lv_s j k q]
        exact ih j hj (by omega) (k + 1) (by omega)
      · have : k = 3 := by omega
        subst this
        rw [lv_3 A, Lp.pb_4]
        have := ih j hj (by omega) 3 (by omega)
        have := more_nn A j
        omega
    have fr : ∀ k, k < 4 → hG L.g.hs k ≤ i → f + Lp.pb (tG L.g.ts) (hG L.g.hs) (i - hG L.g.hs k) (k + 1) ≤ fr13 L a i k := fun k k4 hk => fr_ge A k4 hk fun j j1 j2 => by
      have := lv j k j2 k4
      have := Lp.pb_le (t := tG L.g.ts) h1 (i := i - hG L.g.hs k) (j := j) (k := k + 1) (by omega) j1
      omega
    induction k with
    | zero =>
      intro k4
      rw [bg_0 A, Lp.pb_eq h1 i 0 k4]
      have := hf i hi
      split
      · rename_i q
        have := fr 0 k4 q
        show f + max 0 _ ≤ _
        omega
      · show f + 0 ≤ _
        omega
    | succ k ihk =>
      intro k4
      have b := ihk (by omega)
      rw [bg_s A i k (by omega), Lp.pb_eq h1 i (k + 1) k4]
      split
      · rename_i q
        have := fr (k + 1) k4 q
        show f + max (Lp.pb (tG L.g.ts) (hG L.g.hs) i k + tG L.g.ts k) _ ≤ _
        omega
      · show f + (Lp.pb (tG L.g.ts) (hG L.g.hs) i k + tG L.g.ts k) ≤ _
        omega
theorem last_low {L : Ln} {a : List Int} (A : Ok13 L a) (f : Int) (hf : ∀ i, i < a.length → f ≤ a.getD i 0) {i : Nat} (hi : i < a.length) : f + Lp.pb (tG L.g.ts) (hG L.g.hs) i 4 ≤ lvI L a 3 i := by
  rw [lv_3 A, Lp.pb_4]
  have := low A f hf i hi 3 (by omega)
  have := more_nn A i
  omega
end
end W_k13

namespace W_k13
open PySem PySem.Spec PyProof.Rows L2 Ev
noncomputable section
/-- all asked at once, no hole wants more: piece by piece as at once -/
theorem at_once {L : Ln} {a : List Int} (A : Ok13 L a) (z : ∀ i, a.getD i 0 = 0) (w : L.ws = []) : ∀ (i : Nat), i < a.length → ∀ k, k < 4 → bgI L a i k = Lp.pb (tG L.g.ts) (hG L.g.hs) i k := by
  have h1 : ∀ k, k < 4 → 1 ≤ hG L.g.hs k := fun k hk => (hG_ok A.g.hs hk).1
  have mo : ∀ n, moreI L n = 0 := fun n => by unfold moreI; rw [w]; simp
  intro i
  induction i using Nat.strongRecOn with
  | _ i ih =>
    intro hi
    have lv : ∀ j k, j < i → k < 4 → lvI L a k j = Lp.pb (tG L.g.ts) (hG L.g.hs) j (k + 1) := fun j k hj k4 => by
      rcases Nat.lt_or_ge k 3 with q | q
      · rw [lv_s j k q]
        exact ih j hj (by omega) (k + 1) (by omega)
      · have : k = 3 := by omega
        subst this
        rw [lv_3 A, Lp.pb_4, mo, ih j hj (by omega) 3 (by omega)]
        omega
    have fr1 : ∀ k, k < 4 → hG L.g.hs k ≤ i → fr13 L a i k = Lp.pb (tG L.g.ts) (hG L.g.hs) (i - hG L.g.hs k) (k + 1) := fun k k4 hk => by
      have hh := h1 k k4
      apply Int.le_antisymm
      · have G := grt_st A.g A.wm a i k k4
        have l := G.len
        have ln : ((List.range i).map (lvI L a k)).length = i := by simp
        have c := G.le (by omega)
        unfold fr13 Lp.frI
        rw [if_pos (by omega)]
        rcases Int.lt_or_le (Lp.pb (tG L.g.ts) (hG L.g.hs) (i - hG L.g.hs k) (k + 1)) (((stG L noM a i).1.getD k []).headD 0) with q | q
        · generalize ((stG L noM a i).1.getD k []).headD 0 = v at *
          have e : (List.range i).map (lvI L a k) = ((List.range i).map (lvI L a k)).take (i - hG L.g.hs k + 1) ++ ((List.range i).map (lvI L a k)).drop (i - hG L.g.hs k + 1) := (List.take_append_drop ..).symm
          rw [e, Lp.cnt_app, Lp.cnt_none (fun y hy => ?_)] at c
          · have := Lp.cnt_le v (((List.range i).map (lvI L a k)).drop (i - hG L.g.hs k + 1))
            rw [List.length_drop, ln] at this
            omega
          · obtain ⟨j, hj⟩ := List.getElem?_of_mem hy
            rw [List.getElem?_take] at hj
            split at hj
            · rename_i jl
              rw [List.getElem?_map, List.getElem?_range (by omega)] at hj
              cases hj
              rw [lv j k (by omega) k4]
              have := Lp.pb_le (t := tG L.g.ts) h1 (i := j) (j := i - hG L.g.hs k) (k := k + 1) (by omega) (by omega)
              omega
            · cases hj
        · exact q
      · refine fr_ge A k4 hk fun j j1 j2 => ?_
        rw [lv j k j2 k4]
        exact Lp.pb_le h1 (by omega) j1
    have fr0 : ∀ k, k < 4 → ¬ hG L.g.hs k ≤ i → fr13 L a i k = 0 := fun k k4 hk => by
      have G := grt_st A.g A.wm a i k k4
      have l := G.len
      have ln : ((List.range i).map (lvI L a k)).length = i := by simp
      unfold fr13 Lp.frI
      rw [if_neg (by omega)]
    intro k
    induction k with
    | zero =>
      intro k4
      rw [bg_0 A, Lp.pb_eq h1 i 0 k4, z]
      split
      · rename_i q
        rw [fr1 0 k4 q]
        rfl
      · rename_i q
        rw [fr0 0 k4 q]
        rfl
    | succ k ihk =>
      intro k4
      have b := ihk (by omega)
      have bn := (fr_nn A i).1 k (by omega)
      have tn := t_nn A (k := k) (by omega)
      rw [bg_s A i k (by omega), Lp.pb_eq h1 i (k + 1) k4]
      split
      · rename_i q
        rw [fr1 (k + 1) k4 q, b]
        rfl
      · rename_i q
        rw [fr0 (k + 1) k4 q]
        show _ = Lp.pb (tG L.g.ts) (hG L.g.hs) i k + tG L.g.ts k
        rw [← b]
        omega
theorem last_once {L : Ln} {a : List Int} (A : Ok13 L a) (z : ∀ i, a.getD i 0 = 0) (w : L.ws = []) {i : Nat} (hi : i < a.length) : lvI L a 3 i = endI L.g i := by
  have h1 : ∀ k, k < 4 → 1 ≤ hG L.g.hs k := fun k hk => (hG_ok A.g.hs hk).1
  have mo : moreI L i = 0 := by unfold moreI; rw [w]; simp
  rw [lv_3 A, mo, at_once A z w i hi 3 (by omega)]
  have e : Lp.pb (tG L.g.ts) (hG L.g.hs) i 4 = Lp.pb (tG L.g.ts) (hG L.g.hs) i 3 + tG L.g.ts 3 := Lp.pb_4 i
  have e2 := Lp.pb_end (t := tG L.g.ts) h1 i
  have s := sum4 A.g.ts
  unfold endI
  have p4 : Lp.pre (tG L.g.ts) 4 = 0 + tG L.g.ts 0 + tG L.g.ts 1 + tG L.g.ts 2 + tG L.g.ts 3 := rfl
  omega
theorem end_low {L : Ln} {a : List Int} (A : Ok13 L a) (f : Int) (hf : ∀ i, i < a.length → f ≤ a.getD i 0) {i : Nat} (hi : i < a.length) : f + endI L.g i ≤ lvI L a 3 i := by
  have h1 : ∀ k, k < 4 → 1 ≤ hG L.g.hs k := fun k hk => (hG_ok A.g.hs hk).1
  have q := last_low A f hf hi
  have e2 := Lp.pb_end (t := tG L.g.ts) h1 i
  have s := sum4 A.g.ts
  unfold endI
  have p4 : Lp.pre (tG L.g.ts) 4 = 0 + tG L.g.ts 0 + tG L.g.ts 1 + tG L.g.ts 2 + tG L.g.ts 3 := rfl
  omega
/-- what is told of a piece -/
theorem out_T {L : Ln} {a : List Int} (A : Ok13 L a) (i : Nat) : outT (outG L noM a i) = .tup [.str "closed", .tup ((List.range 4).map fun k => .int (bgI L a i k)), .int (lvI L a 3 i)] := by
  obtain ⟨b0, b1, b2, b3, e, p, h⟩ := out_is A.wm a i
  unfold outT bgI lvI
  rw [h]
  rfl
/-- the last closing of all -/
theorem maxI_le' : ∀ {ns : List Int} {n m : Int}, maxI n ns ≤ m ↔ n ≤ m ∧ ∀ y ∈ ns, y ≤ m
  | [], n, m => by simp [maxI]
  | x :: ns, n, m => by
    show maxI (max n x) ns ≤ m ↔ _
    rw [maxI_le' (ns := ns)]
    constructor
    · rintro ⟨h1, h2⟩
      refine ⟨by omega, fun y hy => ?_⟩
      rcases List.mem_cons.mp hy with rfl | hy
      · omega
      · exact h2 y hy
    · rintro ⟨h1, h2⟩
      have := h2 x (List.mem_cons_self ..)
      exact ⟨by omega, fun y hy => h2 y (List.mem_cons_of_mem _ hy)⟩
end
end W_k13

namespace W_k13
open PySem PySem.Spec PyProof.Rows L2 Ev
noncomputable section
abbrev begT (L : Ln) (a : List Int) (i : Nat) : T := .tup ((List.range 4).map fun k => .int (bgI L a i k))
def rowR (L : Ln) (a : List Int) (i : Nat) : T := .tup [.str "closed", begT L a i, .int (lvI L a 3 i)]
abbrev R13 (L : Ln) (a : List Int) : List T := (List.range a.length).map (rowR L a)
theorem frz_beg (L : Ln) (a : List Int) (i : Nat) : frz (begT L a i) = true := rfl
theorem frz_row (L : Ln) (a : List Int) (i : Nat) : frz (rowR L a i) = true := rfl
theorem frz_R (L : Ln) (a : List Int) : frzL (R13 L a) = true := by
  rw [frzL_all, List.all_eq_true]
  intro t ht
  obtain ⟨i, _, rfl⟩ := List.mem_map.mp ht
  exact frz_row L a i
theorem told_eq {L : Ln} {a : List Int} (A : Ok13 L a) : (List.range a.length).map (fun i => outT (outG L noM a i)) = R13 L a := List.map_congr_left fun i _ => out_T A i
/-- the greatest of so many -/
def maxL (n : Nat) (f : Nat → Int) : Int := maxI (f 0) ((List.range (n - 1)).map fun j => f (j + 1))
theorem maxL_le {n : Nat} (n1 : 1 ≤ n) {f : Nat → Int} {m : Int} : maxL n f ≤ m ↔ ∀ i, i < n → f i ≤ m := by
  unfold maxL
  rw [maxI_le']
  constructor
  · rintro ⟨h0, h⟩ i hi
    cases i with
    | zero => exact h0
    | succ i => exact h _ (List.mem_map.mpr ⟨i, List.mem_range.mpr (by omega), rfl⟩)
  · intro h
    refine ⟨h 0 (by omega), fun y hy => ?_⟩
    obtain ⟨j, hj, rfl⟩ := List.mem_map.mp hy
    exact h (j + 1) (by have := List.mem_range.mp hj; omega)
theorem range_cons (f : Nat → Int) (n : Nat) : (List.range (n + 1)).map f = f 0 :: (List.range n).map fun j => f (j + 1) := by
  rw [List.range_succ_eq_map, List.map_cons, List.map_map]
  rfl
theorem last_eq {L : Ln} {a : List Int} (n1 : 1 ≤ a.length) (few : a.length ≤ 1000) : m_law_last [.lst false (R13 L a)] = .ok (.int (maxL a.length (lvI L a 3))) [.lst false (R13 L a)] := by
  have fR := frz_R L a
  have c1 : c_law_last_1 [some (.lst false (R13 L a)), none, none, none] = .ok (.lst true ((List.range a.length).map fun i => T.int (lvI L a 3 i))) [some (.lst false (R13 L a)), none, none, none] := by
    unfold c_law_last_1
    refine lc_all (l := List.range a.length) (st1 := [some (.lst false (R13 L a)), none, none, none]) (rowR L a) (fun i => T.int (lvI L a 3 i)) ?_ (by simp; omega) (fun i hi => ?_) rfl
    · have ia : itAny (T.lst false (R13 L a)) = some (R13 L a) := by
        show some (fzL _) = _
        rw [fzL_frz fR]
      have fq : frz (T.lst false (R13 L a)) = true := by show (!false && frzL _) = true; rw [fR]; rfl
      show iOf itAny (uVar 0) _ = R.ok (R13 L a) _
      generalize R13 L a = RR at *
      generalize T.lst false RR = RT at *
      simp [fq, fz_frz fq, ia]
    · have fb := frz_beg L a i
      refine ⟨[some (.lst false (R13 L a)), some (.str "closed"), some (begT L a i), some (.int (lvI L a 3 i))], ?_, rfl, ?_⟩
      · unfold rowR
        generalize begT L a i = BB at *
        simp [tgCons]
      · simp
  obtain ⟨n, hn⟩ : ∃ n, a.length = n + 1 := ⟨a.length - 1, by omega⟩
  have mx : pMaxL [.lst true ((List.range a.length).map fun i => T.int (lvI L a 3 i))] = some (.int (maxL a.length (lvI L a 3))) := by
    have e : (List.range a.length).map (fun i => T.int (lvI L a 3 i)) = ((List.range a.length).map (lvI L a 3)).map T.int := by rw [List.map_map]; rfl
    rw [e, hn, range_cons]
    exact p_maxI true _ _
  generalize (List.range a.length).map (fun i => T.int (lvI L a 3 i)) = IL at *
  generalize R13 L a = RR at *
  refine def_eq rfl ?_
  unfold b_law_last
  simp [c1, mx, fR, P_law_last]
theorem sl_drop (o : Bool) (l : List Int) {h : Nat} (hl : h ≤ l.length) : pSl10 [.lst o (l.map .int), .int ((h : Nat) : Int)] = some (.lst true ((l.drop h).map .int)) := by
  show (if frzL (l.map T.int) then some (T.lst true (cutL (l.map T.int) (some ((h : Nat) : Int)) none)) else none) = _
  rw [frzL_ints, if_pos rfl, cutL_map]
  have e : cutL l (some ((h : Nat) : Int)) none = l.drop h := by
    unfold cutL
    rw [HT.sIx_nat, Nat.min_eq_left hl]
    show (l.drop h).take (l.length - h) = _
    exact List.take_of_length_le (by rw [List.length_drop]; omega)
  rw [e]
theorem stretches_eq {L : Ln} {a : List Int} (A : Ok13 L a) (few : a.length ≤ 1000) : m_law_stretches_right [fourT L.g.ts, fourT L.g.hs, .lst false (R13 L a)] = .ok (.bl true) [fourT L.g.ts, fourT L.g.hs, .lst false (R13 L a)] := by
  have fR := frz_R L a
  have ia : itAny (T.lst false (R13 L a)) = some (R13 L a) := by
    show some (fzL _) = _
    rw [fzL_frz fR]
  have fq : frz (T.lst false (R13 L a)) = true := by show (!false && frzL _) = true; rw [fR]; rfl
  have fA : frz (fourT L.g.ts) = true := by simp
  have fB : frz (fourT L.g.hs) = true := by simp
  refine def_eq rfl ?_
  unfold b_law_stretches_right
  refine ok_seq fun K1 hK1 _ => ok_dp ?_
  unfold l_law_stretches_right_5
  refine ok_forD (l := List.range 4) (fun i : Nat => T.int (i : Nat)) (st1 := [some (fourT L.g.ts), some (fourT L.g.hs), some (.lst false (R13 L a)), none, none, none, none, none]) (range_n 4 rfl (by decide) rfl)
    (fun _ s => s = [some (fourT L.g.ts), some (fourT L.g.hs), some (.lst false (R13 L a)), none, none, none, none, none]) rfl ?_ ?_
  · rintro k kk s hi rfl
    obtain ⟨hl, hk⟩ := List.getElem?_eq_some_iff.mp hi
    rw [List.length_range] at hl
    rw [List.getElem_range] at hk
    subst hk
    obtain ⟨y1, y2, y3⟩ := hG_ok A.g.hs hl
    have at1 : atT (fourT L.g.ts) ((k : Nat) : Int) = some (.int (tG L.g.ts k)) := (four_get A.g.ts hl).2.2.2
    have at2 := (four_get A.g.hs hl).2.2.2
    rw [y3] at at2
    have c3 : c_law_stretches_right_3 [some (fourT L.g.ts), some (fourT L.g.hs), some (.lst false (R13 L a)), some (.int (k : Nat)), none, none, none, none] = .ok (.lst true (((List.range a.length).map fun i => bgI L a i k).map .int)) [some (fourT L.g.ts), some (fourT L.g.hs), some (.lst false (R13 L a)), some (.int (k : Nat)), none, none, none, none] := by
      unfold c_law_stretches_right_3
      rw [List.map_map]
      refine lc_all0 (l := List.range a.length) (rowR L a) (fun i => .int (bgI L a i k)) ?_ (by simp; omega) (fun i hi => ?_) rfl
      · show iOf itAny (uVar 2) _ = R.ok (R13 L a) _
        generalize R13 L a = RR at *
        generalize T.lst false RR = RT at *
        simp [fq, fz_frz fq, ia]
      · have fr := frz_row L a i
        have i1 : atT (rowR L a i) 1 = some (begT L a i) := by
          unfold rowR
          have fb := frz_beg L a i
          generalize begT L a i = BB at *
          simp [fb]
        have i2 : atT (begT L a i) ((k : Nat) : Int) = some (.int (bgI L a i k)) := at_mapT (f := fun k : Nat => T.int (bgI L a i k)) (List.getElem?_range hl) rfl
        have fb := frz_beg L a i
        generalize rowR L a i = RW at *
        generalize begT L a i = BB at *
        generalize bgI L a i k = bv at *
        simp [tgN, fr, fb, i1, i2]
    obtain ⟨bs, hbs⟩ : ∃ bs, bs = (List.range a.length).map fun i => bgI L a i k := ⟨_, rfl⟩
    rw [← hbs] at c3
    have bl : bs.length = a.length := by rw [hbs]; simp
    have bg : ∀ i, i < a.length → bs[i]? = some (bgI L a i k) := fun i hi => by rw [hbs, List.getElem?_map, List.getElem?_range hi]; rfl
    have st := fun i hi => stretch A (i := i) hl hi
    clear hbs
    refine ⟨[some (fourT L.g.ts), some (fourT L.g.hs), some (.lst false (R13 L a)), some (.int (k : Nat)), none, none, none, none], by simp [tgN], fun K' hn _ _ _ => ok_wp ?_⟩
    have hn' := hn _ rfl
    generalize R13 L a = RR at *
    generalize hA : fourT L.g.ts = TT at *
    generalize hB : fourT L.g.hs = HH at *
    generalize tG L.g.ts k = tk at *
    generalize hG L.g.hs k = h at *
    unfold k_law_stretches_right_4
    refine ok_seq fun K3 hK3 _ => ?_
    simp [c3]
    apply hK3
    refine ok_dp ?_
    unfold l_law_stretches_right_2
    by_cases hle : h ≤ bs.length
    · have sl := sl_drop true bs hle
      have en : enAny (fz (.lst true ((bs.drop h).map .int))) = some ((bs.drop h).zipIdx.map fun p => T.tup [.int (p.2 : Nat), .int p.1]) := by
        show some (enT 0 (fzL (fzL ((bs.drop h).map .int)))) = _
        rw [fzL_ints, fzL_ints, enT_zip]
      refine ok_forD (l := (bs.drop h).zipIdx) (fun p => T.tup [.int (p.2 : Nat), .int p.1]) (st1 := [some TT, some HH, some (.lst false RR), some (.int (k : Nat)), some (.lst true (bs.map .int)), none, none, none]) ?_
        (fun _ s => s = [some TT, some HH, some (.lst false RR), some (.int (k : Nat)), some (.lst true (bs.map .int)), none, none, none]) rfl ?_ ?_
      · have nb : frz (.lst true (bs.map .int)) = false := rfl
        generalize T.lst true (bs.map .int) = BL at *
        generalize T.lst true ((bs.drop h).map .int) = BD at *
        generalize (bs.drop h).zipIdx.map (fun p => T.tup [.int (p.2 : Nat), .int p.1]) = EN at *
        simp [fB, at2, sl, nb, en, -p_sl10]
      · rintro j p s hj rfl
        rw [List.getElem?_zipIdx, List.getElem?_drop] at hj
        have hjl : h + j < a.length := by
          rcases Nat.lt_or_ge (h + j) a.length with q | q
          · exact q
          · rw [List.getElem?_eq_none (by omega)] at hj; simp at hj
        rw [bg (h + j) hjl] at hj
        simp at hj
        subst hj
        have at4 : atT (.lst true (bs.map .int)) ((j : Nat) : Int) = some (.int (bgI L a j k)) := at_mapI true (bg j (by omega)) rfl
        have q := st j (by omega)
        rw [Nat.add_comm j h] at q
        have nl : ¬ bgI L a (h + j) k - bgI L a j k < tk := by omega
        have nb : frz (.lst true (bs.map .int)) = false := rfl
        refine ⟨[some TT, some HH, some (.lst false RR), some (.int (k : Nat)), some (.lst true (bs.map .int)), some (.int (j : Nat)), some (.int (bgI L a (h + j) k)), none], by simp [tgCons], fun K5 hn5 _ _ _ => ok_wp ?_⟩
        have hn6 := hn5 _ rfl
        unfold k_law_stretches_right_1
        generalize T.lst true (bs.map .int) = BL at *
        generalize bgI L a (h + j) k = u at *
        generalize bgI L a j k = v at *
        simp [nb, at4, at1, fA, nl]
        exact hn6
      · rintro s rfl
        exact hn'
    · have sl : pSl10 [.lst true (bs.map .int), .int ((h : Nat) : Int)] = some (.lst true []) := by
        show (if frzL (bs.map T.int) then some (T.lst true (cutL (bs.map T.int) (some ((h : Nat) : Int)) none)) else none) = _
        rw [frzL_ints, if_pos rfl, cutL_map]
        have e : cutL bs (some ((h : Nat) : Int)) none = [] := by
          unfold cutL
          rw [HT.sIx_nat, Nat.min_eq_right (by omega)]
          simp
        rw [e]
        rfl
      refine ok_forD (l := ([] : List Nat)) (fun _ => T.non) (st1 := [some TT, some HH, some (.lst false RR), some (.int (k : Nat)), some (.lst true (bs.map .int)), none, none, none]) ?_
        (fun _ s => s = [some TT, some HH, some (.lst false RR), some (.int (k : Nat)), some (.lst true (bs.map .int)), none, none, none]) rfl ?_ ?_
      · have nb : frz (.lst true (bs.map .int)) = false := rfl
        generalize T.lst true (bs.map .int) = BL at *
        simp [fB, at2, sl, nb, -p_sl10]
        rfl
      · rintro j p s hj
        cases hj
      · rintro s rfl
        exact hn'
  · rintro s rfl
    apply hK1
    generalize R13 L a = RR at *
    generalize T.lst false RR = RT at *
    generalize hA : fourT L.g.ts = TT at *
    generalize hB : fourT L.g.hs = HH at *
    simp [P_law_stretches_right, fA, fB, fq]
end
end W_k13

namespace W_k13
open PySem PySem.Spec PyProof.Rows L2 Ev
noncomputable section
theorem asks_ex {k : Int} {t : Tp} (h : Tk k t) (hk : k < 2 ^ 36) (m : Nat) (hm : m ≤ 100) : ∃ (a : List Int) (t' : Tp), m_law_asks [tpT t, .int (m : Nat)] = .ok (.lst true (a.map .int)) [tpT t', .int (m : Nat)] ∧ a.length = m ∧ (∀ x ∈ a, 0 ≤ x) ∧ a.Pairwise (· ≤ ·) ∧ Tk (k + 2 + 3 * (m : Int)) t' := by
  obtain ⟨w, t1, d1, w1, h1⟩ := draw_nat 4 h (by omega) (by decide) (by decide)
  obtain ⟨b0, t2, d2, b00, b01, h2⟩ := draw_ex (n := 5) h1 (by omega) (by omega) (by omega)
  suffices hs : ∃ r as, m_law_asks [tpT t, .int (m : Nat)] = .ok r as ∧ ∃ (a : List Int) (t' : Tp), r = .lst true (a.map .int) ∧ as = [tpT t', .int (m : Nat)] ∧ a.length = m ∧ (∀ x ∈ a, 0 ≤ x) ∧ a.Pairwise (· ≤ ·) ∧ Tk (k + 2 + 3 * (m : Int)) t' by
    obtain ⟨r, as, e, a, t', rfl, rfl, o1, o2, o3, o4⟩ := hs
    exact ⟨a, t', e, o1, o2, o3, o4⟩
  refine def_ok rfl ?_
  unfold b_law_asks
  refine ok_seq fun K1 hK1 _ => ?_
  simp [d1, d2]
  apply hK1
  refine ok_seq fun K2 hK2 _ => ok_dp ?_
  unfold l_law_asks_2
  refine ok_forD (l := List.range m) (fun i : Nat => T.int (i : Nat)) (st1 := [some (tpT t2), some (.int (m : Nat)), some (.int (w : Nat)), some (.int b0), some (.lst true []), none]) (range_n m rfl (by omega) (by simp))
    (fun j s => ∃ (a : List Int) (b : Int) (t' : Tp), s = [some (tpT t'), some (.int (m : Nat)), some (.int (w : Nat)), some (.int b), some (.lst true (a.map .int)), none] ∧ a.length = j ∧ (∀ x ∈ a, 0 ≤ x ∧ x ≤ b) ∧ 0 ≤ b ∧ a.Pairwise (· ≤ ·) ∧ Tk (k + 2 + 3 * (j : Int)) t') ⟨[], b0, t2, rfl, rfl, (fun _ z => nomatch z), b00, List.Pairwise.nil, h2.le (by omega)⟩ ?_ ?_
  · rintro j jj s hj ⟨a, b, t', rfl, al, ab, bn, ap, h'⟩
    have hl := (List.getElem?_eq_some_iff.mp hj).1
    rw [List.length_range] at hl
    obtain ⟨x1, t3, d3, x10, x11, h3⟩ := draw_ex (n := 3) h' (by omega) (by omega) (by omega)
    obtain ⟨x2, t4, d4, x20, x21, h4⟩ := draw_ex (n := 9) h3 (by omega) (by omega) (by omega)
    obtain ⟨x3, t5, d5, x30, x31, h5⟩ := draw_ex (n := 60) h4 (by omega) (by omega) (by omega)
    obtain ⟨f, hf, af⟩ := at_disp [0, x1, x2, x3] w (by simp; omega)
    simp at hf af
    have f0 : 0 ≤ f := by omega
    have app := p_appI (.int b) (a.map .int) rfl (by rw [List.length_map]; omega)
    have bs : a.map T.int ++ [T.int b] = (a ++ [b]).map .int := by rw [List.map_append]; rfl
    rw [bs] at app
    have nb : frz (.lst true (a.map .int)) = false := rfl
    have tyb : tyOk "list" (.lst true (a.map .int)) = true := rfl
    refine ⟨[some (tpT t'), some (.int (m : Nat)), some (.int (w : Nat)), some (.int b), some (.lst true (a.map .int)), some (.int (jj : Nat))], by simp [tgN], fun K' hn _ _ _ => ok_wp ?_⟩
    have hn' := hn [some (tpT t5), some (.int (m : Nat)), some (.int (w : Nat)), some (.int (b + f)), some (.lst true ((a ++ [b]).map .int)), none] ⟨a ++ [b], b + f, t5, rfl, by rw [List.length_append, al]; rfl, fun x hx => by
      rcases List.mem_append.mp hx with q | q
      · have := ab x q; omega
      · rw [List.mem_singleton.mp q]; omega, by omega, List.pairwise_append.mpr ⟨ap, List.pairwise_singleton _ _, fun x hx y hy => by
        rw [List.mem_singleton.mp hy]; exact (ab x hx).2⟩, h5.le (by push_cast; omega)⟩
    generalize T.lst true ((a ++ [b]).map .int) = B2 at *
    generalize T.lst true (a.map .int) = B1 at *
    unfold k_law_asks_1
    refine ok_seq fun K3 hK3 _ => ?_
    simp [nb, tyb, app, -p_app]
    apply hK3
    simp [d3, d4, d5, szN, af]
    exact hn'
  · rintro s ⟨a, b, t', rfl, al, ab, bn, ap, h'⟩
    apply hK2
    rw [List.length_range] at al h'
    generalize hAL : a.map T.int = AL at *
    simp [P_law_asks]
    exact ⟨_, _, ⟨rfl, rfl⟩, a, by rw [hAL], t', rfl, al, fun x hx => (ab x hx).1, ap, h'⟩
end
end W_k13

namespace W_k13
open PySem PySem.Spec PyProof.Rows L2 Ev
noncomputable section
theorem closed_ok : PyData.strOk ("closed" : Str) = true := by decide +kernel
theorem words_all (n : Nat) : eqT (.lst true ((List.range n).map fun _ => T.str "closed")) (.lst true (List.replicate n (T.str "closed"))) = some true := by
  have e : List.replicate n (T.str "closed") = (List.range n).map fun _ => T.str "closed" := by
    rw [Ev.map_const, List.length_range]
  rw [e]
  exact eqT_self (d := fun _ => PyData.str "closed") (k := 0) ⟨fun _ => rfl, fun _ => by decide +kernel, fun _ => Nat.le_refl _⟩ (by decide) true true _
theorem fq_R (L : Ln) (a : List Int) : frz (T.lst false (R13 L a)) = true := by show (!false && frzL _) = true; rw [frz_R]; rfl
theorem ia_R (L : Ln) (a : List Int) : itAny (T.lst false (R13 L a)) = some (R13 L a) := by
  show some (fzL _) = _
  rw [fzL_frz (frz_R L a)]
theorem words (L : Ln) {a : List Int} (few : a.length ≤ 1000) (x0 x1 x2 x3 x4 x6 x7 x8 : Option T) : c_law_right_7 [x0, x1, x2, x3, x4, some (.lst false (R13 L a)), x6, x7, x8, none, none, none] = .ok (.lst true ((List.range a.length).map fun _ => T.str "closed")) [x0, x1, x2, x3, x4, some (.lst false (R13 L a)), x6, x7, x8, none, none, none] := by
  unfold c_law_right_7
  have fq := fq_R L a
  have ia := ia_R L a
  refine lc_all0 (l := List.range a.length) (rowR L a) (fun _ => T.str "closed") ?_ (by simp; omega) (fun i hi => ?_) rfl
  · show iOf itAny (uVar 5) _ = R.ok (R13 L a) _
    generalize R13 L a = RR at *
    generalize T.lst false RR = RT at *
    simp [fq, fz_frz fq, ia]
  · have fr := frz_row L a i
    have i1 : atT (rowR L a i) 0 = some (.str "closed") := by
      unfold rowR
      have fb := frz_beg L a i
      generalize begT L a i = BB at *
      simp [fb]
    generalize rowR L a i = RW at *
    simp [tgN, fr, i1]
theorem words2 (L : Ln) {a : List Int} (few : a.length ≤ 1000) (x0 x1 x2 x3 x4 x6 x7 x8 : Option T) : c_law_right_2 [x0, x1, x2, x3, x4, some (.lst false (R13 L a)), x6, x7, x8, none, none, none] = .ok (.lst true ((List.range a.length).map fun _ => T.str "closed")) [x0, x1, x2, x3, x4, some (.lst false (R13 L a)), x6, x7, x8, none, none, none] := words L few x0 x1 x2 x3 x4 x6 x7 x8
theorem any_f {L : Ln} {a : List Int} (A : Ok13 L a) (few : a.length ≤ 1000) (n1 : 1 ≤ a.length) (x0 x1 x2 x3 x4 x6 x7 : Option T) : c_law_right_1 [x0, x1, x2, x3, x4, some (.lst false (R13 L a)), x6, x7, some (lF a), none, none, none] = .ok (.lst true (List.replicate a.length (T.bl false))) [x0, x1, x2, x3, x4, some (.lst false (R13 L a)), x6, x7, some (lF a), none, none, none] := by
  have e : List.replicate a.length (T.bl false) = (List.range a.length).map fun _ => T.bl false := by
    rw [Ev.map_const, List.length_range]
  rw [e]
  unfold c_law_right_1
  have fq := fq_R L a
  have ia := ia_R L a
  have fl := frz_lF a
  have a0 : atT (lF a) 0 = some (.int (a.getD 0 0)) := at_mapI (n := 0) (x := a.getD 0 0) false (by simp [List.getD, List.getElem?_eq_getElem (show 0 < a.length by omega)]) rfl
  refine lc_all0 (l := List.range a.length) (rowR L a) (fun _ => T.bl false) ?_ (by simp; omega) (fun i hi => ?_) rfl
  · show iOf itAny (uVar 5) _ = R.ok (R13 L a) _
    generalize R13 L a = RR at *
    generalize T.lst false RR = RT at *
    simp [fq, fz_frz fq, ia]
  · have fr := frz_row L a i
    have fb := frz_beg L a i
    have i1 : atT (rowR L a i) 1 = some (begT L a i) := by
      unfold rowR
      generalize begT L a i = BB at *
      simp [fb]
    have i2 : atT (begT L a i) 0 = some (.int (bgI L a i 0)) := at_mapT (n := 0) (f := fun k : Nat => T.int (bgI L a i k)) (List.getElem?_range (by decide)) rfl
    have nl : ¬ bgI L a i 0 < a.getD 0 0 := by
      rw [bg_0 A]
      have := A.up 0 i (by omega) (List.mem_range.mp hi)
      omega
    generalize rowR L a i = RW at *
    generalize begT L a i = BB at *
    generalize bgI L a i 0 = bv at *
    generalize a.getD 0 0 = av at *
    generalize lF a = LA at *
    simp [tgN, fr, fb, fl, i1, i2, a0, nl]
theorem ok_of {g : Gn} (hg : GnOk g) {ws : List Int} (hw : ∀ x ∈ ws, 0 ≤ x) {a : List Int} (hn : ∀ x ∈ a, 0 ≤ x) (hp : a.Pairwise (· ≤ ·)) : Ok13 ⟨g, ws, none⟩ a := by
  refine ⟨hg, rfl, hw, fun i => ?_, fun i j l hj => ?_⟩
  · rcases Nat.lt_or_ge i a.length with q | q
    · have : a.getD i 0 = a[i] := by simp [List.getD, List.getElem?_eq_getElem q]
      rw [this]
      exact hn _ (List.getElem_mem q)
    · have : a.getD i 0 = 0 := by simp [List.getD, List.getElem?_eq_none q]
      rw [this]
      exact Int.le_refl _
  · have e1 : a.getD j 0 = a[j] := by simp [List.getD, List.getElem?_eq_getElem hj]
    have e2 : a.getD i 0 = a[i]'(by omega) := by simp [List.getD, List.getElem?_eq_getElem (show i < a.length by omega)]
    rw [e1, e2]
    rcases Nat.lt_or_ge i j with q | q
    · exact List.pairwise_iff_getElem.mp hp i j (by omega) hj q
    · have : i = j := by omega
      subst this
      exact Int.le_refl _
/-- other asks, holes that want more -/
theorem more_ex {k : Int} {t : Tp} {g : Gn} (hg : GnOk g) {m : Nat} (m1 : 1 ≤ m) (m2 : m ≤ 80) {f : Int} (f0 : 0 ≤ f) {u : T} {ws : List Int} (hu : (u = .non ∧ ws = []) ∨ u = lF ws) (hw : ∀ x ∈ ws, 0 ≤ x) (h : Tk k t) (hk : k < 2 ^ 35) :
    ∃ t', Tk (k + 300) t' ∧ ∀ (K : Fl → SL → Prop) (x6 : Option T), K .nx [some (tpT t'), some (gT g), some (.int (m : Nat)), some (.int (endI g (m - 1))), some (.int f), none, x6, none, none, none, none, none] →
      Ok (sWp [5, 7, 8, 9, 10, 11] k_law_right_4 [some (tpT t), some (gT g), some (.int (m : Nat)), some (.int (endI g (m - 1))), some (.int f), none, x6, some u, none, none, none, none]) K := by
  obtain ⟨a, t', ea, al, an, ap, h'⟩ := asks_ex h (by omega) m (by omega)
  refine ⟨t', h'.le (by omega), fun K x6 hK => ok_wp ?_⟩
  obtain ⟨b, hb⟩ : ∃ b : List Int, b = a.map fun x => f + x := ⟨_, rfl⟩
  have bl : b.length = m := by rw [hb, List.length_map, al]
  have A : Ok13 ⟨g, ws, none⟩ b := ok_of hg hw (by
    rw [hb]
    intro x hx
    obtain ⟨y, hy, rfl⟩ := List.mem_map.mp hx
    have := an y hy
    omega) (by
    rw [hb]
    exact List.pairwise_map.mpr (ap.imp fun h => by omega))
  have ps := passed_gen hg hu none b (by omega) true
  rw [told_eq A] at ps
  have la := last_eq (L := ⟨g, ws, none⟩) (a := b) (by omega) (by omega)
  have stq := stretches_eq A (by omega)
  have w2 := words2 ⟨g, ws, none⟩ (a := b) (by omega) (some (tpT t')) (some (gT g)) (some (.int (m : Nat))) (some (.int (endI g (m - 1)))) (some (.int f)) x6 (some u) (some (lF b))
  have an1 := any_f A (by omega) (by omega) (some (tpT t')) (some (gT g)) (some (.int (m : Nat))) (some (.int (endI g (m - 1)))) (some (.int f)) x6 (some u)
  have wa := words_all b.length
  have rp : pMul [.lst true [.str "closed"], .int (m : Nat)] = some (.lst true (List.replicate b.length (T.str "closed"))) := by
    have := p_rep1 (.str "closed") rfl (m : Nat) (by omega) (by omega)
    rw [Int.toNat_natCast] at this
    rw [bl]
    exact this
  have b0 : atT (lF b) 0 = some (.int (b.getD 0 0)) := at_mapI (n := 0) (x := b.getD 0 0) false (by simp [List.getD, List.getElem?_eq_getElem (show 0 < b.length by omega)]) rfl
  have low : ¬ maxL b.length (lvI ⟨g, ws, none⟩ b 3) < b.getD 0 0 + endI g (m - 1) := by
    have q := end_low A (b.getD 0 0) (fun i hi => A.up 0 i (by omega) hi) (i := m - 1) (by omega)
    have q2 := (maxL_le (n := b.length) (f := lvI ⟨g, ws, none⟩ b 3) (by omega)).mp (Int.le_refl _) (m - 1) (by omega)
    have e : endI (Ln.g ⟨g, ws, none⟩) (m - 1) = endI g (m - 1) := rfl
    omega
  have fu : frz u = true := by
    rcases hu with ⟨rfl, _⟩ | rfl
    · rfl
    · exact frz_lF ws
  have c3 : c_law_right_3 [some (tpT t), some (gT g), some (.int (m : Nat)), some (.int (endI g (m - 1))), some (.int f), none, x6, some u, none, none, none, none] = .ok (.lst true (b.map .int)) [some (tpT t'), some (gT g), some (.int (m : Nat)), some (.int (endI g (m - 1))), some (.int f), none, x6, some u, none, none, none, none] := by
    unfold c_law_right_3
    rw [hb, List.map_map]
    refine lc_all (l := a) (st1 := [some (tpT t'), some (gT g), some (.int (m : Nat)), some (.int (endI g (m - 1))), some (.int f), none, x6, some u, none, none, none, none]) T.int (fun x => T.int (f + x)) ?_ (by omega) (fun x hx => ⟨[some (tpT t'), some (gT g), some (.int (m : Nat)), some (.int (endI g (m - 1))), some (.int f), none, x6, some u, none, none, none, some (.int x)], by simp [tgN], rfl, by simp⟩) rfl
    have ia : fzL (a.map T.int) = a.map T.int := fzL_ints a
    generalize a.map T.int = AI at *
    generalize gT g = GG at *
    simp [ea, ia]
  have fq := fq_R ⟨g, ws, none⟩ b
  have fzR : fz (.lst true (R13 ⟨g, ws, none⟩ b)) = .lst false (R13 ⟨g, ws, none⟩ b) := by
    show T.lst false (fzL _) = _
    rw [fzL_frz (frz_R _ _)]
  have p1 : pFld c_Gang 1 [gT g] = some (fourT g.ts) := pf_ts g
  have p2 : pFld c_Gang 2 [gT g] = some (fourT g.hs) := pf_hs g
  have fA : frz (fourT g.ts) = true := by simp
  have fB : frz (fourT g.hs) = true := by simp
  have fg : frz (gT g) = true := by simp
  have flb := frz_lF b
  have pa := p_anyF b.length
  have stq' : m_law_stretches_right [fourT g.ts, fourT g.hs, .lst false (R13 ⟨g, ws, none⟩ b)] = .ok (.bl true) [fourT g.ts, fourT g.hs, .lst false (R13 ⟨g, ws, none⟩ b)] := stq
  have ps' : mpassed [gT g, .lst true (b.map .int), u, .non, .non] = .ok (.lst true (R13 ⟨g, ws, none⟩ b)) [gT g, lF b, u, .non, .non] := ps
  have nfb : frz (.lst true (b.map .int)) = false := rfl
  generalize hRT : T.lst false (R13 ⟨g, ws, none⟩ b) = RT at *
  generalize T.lst true (R13 ⟨g, ws, none⟩ b) = RO at *
  generalize (List.range b.length).map (fun _ => T.str "closed") = WL at *
  generalize List.replicate b.length (T.str "closed") = WR at *
  generalize List.replicate b.length (T.bl false) = AF at *
  generalize maxL b.length (lvI ⟨g, ws, none⟩ b 3) = MX at *
  generalize T.lst true (b.map .int) = BO at *
  generalize lF b = BF at *
  generalize b.getD 0 0 = bz at *
  generalize hA : fourT g.ts = TT at *
  generalize hB : fourT g.hs = HH at *
  generalize gT g = GG at *
  generalize endI g (m - 1) = E at *
  unfold k_law_right_4
  refine ok_seq fun K1 hK1 _ => ?_
  simp [c3]
  apply hK1
  refine ok_seq fun K2 hK2 _ => ?_
  simp [nfb, fg, fu, fz_frz fu, ps', fzR]
  apply hK2
  refine ok_seq fun K3 hK3 _ => ?_
  simp [w2, rp, wa, la, fq, fz_frz fq, b0, flb, low, szN]
  apply hK3
  simp [p1, p2, fg, fA, fB, fq, fz_frz fA, fz_frz fB, fz_frz fq, stq', an1, pa]
  exact hK
end
end W_k13

namespace W_k13
open PySem PySem.Spec PyProof.Rows L2 Ev
noncomputable section
theorem right_ex {k : Int} {t : Tp} {g : Gn} (hg : GnOk g) (h : Tk k t) (hk : k < 2 ^ 34) : ∃ t', m_law_right [tpT t, gT g] = .ok (.bl true) [tpT t', gT g] ∧ Tk (k + 800) t' := by
  obtain ⟨w, t1, d1, w1, h1⟩ := draw_nat 2 h (by omega) (by decide) (by decide)
  obtain ⟨M, hM, aM⟩ := at_disp [6, 80] w (by simp; omega)
  simp at hM aM
  obtain ⟨x, t2, d2, x0, x1, h2⟩ := draw_ex (n := M) h1 (by omega) (by omega) (by omega)
  obtain ⟨m, hm⟩ : ∃ m : Nat, (m : Int) = 1 + x := ⟨(1 + x).toNat, by omega⟩
  have m1 : 1 ≤ m := by omega
  have m2 : m ≤ 80 := by omega
  obtain ⟨f, t3, d3, f0, f1, h3⟩ := draw_ex (n := 50) h2 (by omega) (by omega) (by omega)
  have ee : mleast_end [gT g, .int (m : Nat)] = .ok (.int (endI g (m - 1))) [gT g, .int (m : Nat)] := by
    have e := end_eq hg (m - 1) (by omega)
    rw [show (((m - 1 : Nat) : Int) + 1) = (m : Nat) by omega] at e
    exact e
  -- all at once
  obtain ⟨a, ha⟩ : ∃ a : List Int, a = List.replicate m 0 := ⟨_, rfl⟩
  have al : a.length = m := by rw [ha]; simp
  have A : Ok13 ⟨g, [], none⟩ a := ok_of (ws := []) hg (fun x hx => by cases hx) (by rw [ha]; intro y hy; rw [List.eq_of_mem_replicate hy]; exact Int.le_refl _) (by rw [ha]; exact List.pairwise_replicate.mpr (.inr (Int.le_refl _)))
  have z : ∀ i, a.getD i 0 = 0 := fun i => by
    rw [ha]
    simp only [List.getD, List.getElem?_replicate]
    split <;> rfl
  have ps0 := passed_gen hg (u := .non) (ws := []) (.inl ⟨rfl, rfl⟩) none a (by omega)
  rw [told_eq A] at ps0
  have ps : mpassed [gT g, lF a, .non, .non, .non] = .ok (.lst true (R13 ⟨g, [], none⟩ a)) [gT g, lF a, .non, .non, .non] := ps0
  have rp0 : pMul [.lst true [.int 0], .int (m : Nat)] = some (.lst true (a.map .int)) := by
    have := p_rep1 (.int 0) rfl (m : Nat) (by omega) (by omega)
    rw [Int.toNat_natCast] at this
    rw [this, ha, List.map_replicate]
  have fzA : fz (.lst true (a.map .int)) = lF a := fz_lT a
  have la := last_eq (L := ⟨g, [], none⟩) (a := a) (by omega) (by omega)
  have mx : maxL a.length (lvI ⟨g, [], none⟩ a 3) = endI g (m - 1) := by
    have h1' : ∀ k, k < 4 → 1 ≤ hG g.hs k := fun k hk => (hG_ok hg.hs hk).1
    apply Int.le_antisymm
    · refine (maxL_le (by omega)).mpr fun i hi => ?_
      rw [last_once A z rfl hi]
      have := Lp.gf_mono (t := tG g.ts) h1' (m := i) (n := m - 1) (by omega)
      show endI g i ≤ _
      unfold endI
      omega
    · have q := (maxL_le (n := a.length) (f := lvI ⟨g, [], none⟩ a 3) (by omega)).mp (Int.le_refl _) (m - 1) (by omega)
      rw [last_once A z rfl (by omega)] at q
      exact q
  rw [mx] at la
  have wo := words ⟨g, [], none⟩ (a := a) (by omega) (some (tpT t3)) (some (gT g)) (some (.int (m : Nat))) (some (.int (endI g (m - 1)))) (some (.int f)) none none none
  have wa := words_all a.length
  have rp : pMul [.lst true [.str "closed"], .int (m : Nat)] = some (.lst true (List.replicate a.length (T.str "closed"))) := by
    have := p_rep1 (.str "closed") rfl (m : Nat) (by omega) (by omega)
    rw [Int.toNat_natCast] at this
    rw [al]
    exact this
  have fq := fq_R ⟨g, [], none⟩ a
  have fzR : fz (.lst true (R13 ⟨g, [], none⟩ a)) = .lst false (R13 ⟨g, [], none⟩ a) := by
    show T.lst false (fzL _) = _
    rw [fzL_frz (frz_R _ _)]
  -- holes
  obtain ⟨nh, t4, d4, nh1, h4⟩ := draw_nat 40 h3 (by omega) (by decide) (by decide)
  obtain ⟨ws, t5, e6, l6, p6, h5⟩ := lc_tape (f := iInts rg1 (aCons (uV (eP pAdd (aCons (uV (eC (.int 1))) (aCons (uV (eCall m_law_draw [] (aCons (uVar 0) (aCons (uV (eC (.int 40))) aNil)))) aNil)))) aNil)) (g := tgN 10) (te := (eCold (eP pIx (aCons (uV (eLst (aCons (uV (eC (.int 0))) (aCons (uV (eC (.int 0))) (aCons (uV (eCall m_law_draw [] (aCons (uVar 0) (aCons (uV (eC (.int 30))) aNil)))) aNil))))) (aCons (uV (eCall m_law_draw [] (aCons (uVar 0) (aCons (uV (eC (.int 3))) aNil)))) aNil))))) (vs := [10])
    (fun t => [some (tpT t), some (gT g), some (.int (m : Nat)), some (.int (endI g (m - 1))), some (.int f), some (.lst false (R13 ⟨g, [], none⟩ a)), none, none, none, none, none, none]) (fun i : Nat => T.int (i : Nat)) T.int (fun x => 0 ≤ x) (l := List.range (1 + nh)) (c := 2) (s0 := [some (tpT t3), some (gT g), some (.int (m : Nat)), some (.int (endI g (m - 1))), some (.int f), some (.lst false (R13 ⟨g, [], none⟩ a)), none, none, none, none, none, none]) (by decide) h4
    (by
      have d4' := d4
      generalize gT g = GG at *
      generalize T.lst false (R13 ⟨g, [], none⟩ a) = RT at *
      exact range_n (1 + nh) (z := 1 + (nh : Nat)) (by omega) (by omega) (by simp [d4'])) (by simp; omega) (fun i y t hi hl ht => by
      rw [List.length_range] at hl
      obtain ⟨y1, t6, q1, y10, y11, k1⟩ := draw_ex (n := 30) ht (by omega) (by omega) (by omega)
      obtain ⟨y2, t7, q2, y21, k2⟩ := draw_nat 3 k1 (by omega) (by decide) (by decide)
      obtain ⟨v, hv, av⟩ := at_disp [0, 0, y1] y2 (by simp; omega)
      simp at hv av
      refine ⟨v, t7, by omega, by rw [show k + 1 + 1 + 1 + 1 + 2 * ((i : Nat) : Int) + 2 = k + 1 + 1 + 1 + 1 + 2 * ((i : Nat) : Int) + 1 + 1 by omega]; exact k2, ?_⟩
      generalize gT g = GG at *
      generalize T.lst false (R13 ⟨g, [], none⟩ a) = RT at *
      simp [tgN, q1, q2, szN, av]) (fun _ => rfl)
  rw [List.length_range] at h5
  have c6 : c_law_right_6 [some (tpT t3), some (gT g), some (.int (m : Nat)), some (.int (endI g (m - 1))), some (.int f), some (.lst false (R13 ⟨g, [], none⟩ a)), none, none, none, none, none, none] = .ok (.lst true (ws.map .int)) [some (tpT t5), some (gT g), some (.int (m : Nat)), some (.int (endI g (m - 1))), some (.int f), some (.lst false (R13 ⟨g, [], none⟩ a)), none, none, none, none, none, none] := e6
  obtain ⟨t8, h8, go1⟩ := more_ex hg m1 m2 f0 (u := .non) (ws := []) (.inl ⟨rfl, rfl⟩) (fun x hx => by cases hx) (h5.le (k' := k + 100) (by push_cast; omega)) (by omega)
  obtain ⟨t9, h9, go2⟩ := more_ex hg m1 m2 f0 (u := lF ws) (ws := ws) (.inr rfl) p6 h8 (by omega)
  refine ⟨t9, def_eq rfl ?_, h9.le (by omega)⟩
  have fzW : fz (.lst true (ws.map .int)) = lF ws := fz_lT ws
  have flW := frz_lF ws
  have nfW : frz (.lst true (ws.map .int)) = false := rfl
  have fg : frz (gT g) = true := by simp
  have fla := frz_lF a
  generalize T.lst true (a.map .int) = AO at *
  generalize hRT : T.lst false (R13 ⟨g, [], none⟩ a) = RT at *
  generalize T.lst true (R13 ⟨g, [], none⟩ a) = RO at *
  generalize (List.range a.length).map (fun _ => T.str "closed") = WL at *
  generalize List.replicate a.length (T.str "closed") = WR at *
  generalize lF a = LA at *
  generalize T.lst true (ws.map .int) = WO at *
  generalize lF ws = WS at *
  generalize endI g (m - 1) = E at *
  generalize gT g = GG at *
  unfold b_law_right
  refine ok_seq fun K1 hK1 _ => ?_
  simp [d1, aM, d2, szN]
  apply hK1
  rw [← hm]
  refine ok_seq fun K2 hK2 _ => ?_
  simp [fg, ee, d3, szN, tgCons]
  apply hK2
  refine ok_seq fun K3 hK3 _ => ?_
  simp [fg, szN, rp0, fzA, fla, ps, fzR]
  apply hK3
  refine ok_seq fun K4 hK4 _ => ?_
  simp [fq, la, wo, rp, wa, eqT_int, szN]
  apply hK4
  refine ok_seq fun K5 hK5 _ => ?_
  simp [c6]
  apply hK5
  refine ok_seq fun K6 hK6 _ => ok_dp ?_
  unfold l_law_right_5
  let S : Tp → SL := fun t => [some (tpT t), some GG, some (.int (m : Nat)), some (.int E), some (.int f), none, some WS, none, none, none, none, none]
  refine ok_forD (l := [T.non, WS]) id (st1 := S t5) (by simp [S, nfW, fzW, flW, fz_frz flW, szN]) (fun j s => (j = 0 ∧ s = S t5) ∨ (j = 1 ∧ s = S t8) ∨ (j = 2 ∧ s = S t9)) (.inl ⟨rfl, rfl⟩) ?_ ?_
  · rintro j u s hj hs
    have hjl := (List.getElem?_eq_some_iff.mp hj).1
    simp only [List.length_cons, List.length_nil] at hjl
    rcases hs with ⟨rfl, rfl⟩ | ⟨rfl, rfl⟩ | ⟨rfl, rfl⟩
    · cases hj
      refine ⟨_, rfl, fun K' hn _ _ _ => go1 K' (some WS) (hn _ (.inr (.inl ⟨rfl, rfl⟩)))⟩
    · cases hj
      refine ⟨_, rfl, fun K' hn _ _ _ => go2 K' (some WS) (hn _ (.inr (.inr ⟨rfl, rfl⟩)))⟩
    · omega
  · rintro s hs
    have : s = S t9 := by
      rcases hs with ⟨q, _⟩ | ⟨q, _⟩ | ⟨_, q⟩
      · cases q
      · cases q
      · exact q
    subst this
    apply hK6
    simp [S, P_law_right]
end
end W_k13

namespace W_k13
open PySem PySem.Spec PyProof.Rows L2 Ev
noncomputable section
/-- one gang -/
theorem gang_ex {k : Int} {t : Tp} {z : List Nat} (hz : IsName z) (h : Tk k t) (hk : k < 2 ^ 33) {a b : Option T} : ∃ t', Tk (k + 900) t' ∧ ∀ K : Fl → SL → Prop, K .nx [a, b, none, some (tpT t'), none] → Ok (sWp [2, 4] klaw_1 [a, b, none, some (tpT t), some (nmT z)]) K := by
  obtain ⟨ts, t1, d1, f1, h1⟩ := takes_ex 60 (by decide) (by decide) h (by omega)
  obtain ⟨hs, t2, d2, f2, h2⟩ := hands_ex h1 (by omega)
  have hg : GnOk ⟨z, ts, hs⟩ := ⟨hz, f1.le (by decide), f2⟩
  obtain ⟨g, hgg⟩ : ∃ g : Gn, g = ⟨z, ts, hs⟩ := ⟨_, rfl⟩
  have e1 : g.ts = ts := by rw [hgg]
  have e2 : g.hs = hs := by rw [hgg]
  have e3 : g.nm = z := by rw [hgg]
  rw [← hgg] at hg
  have mk0 := gang_eq hg .t .t
  simp only [e1, e2, e3] at mk0
  have mk : mGang____init__ [.obj true c_Gang [], nmT z, fourT ts, fourT hs] = .ok .non [gnT true g, nmT z, fourT ts, fourT hs] := mk0
  have mf : fz (gnT true g) = gT g := fz_gnT true g
  obtain ⟨t3, d3, h3⟩ := right_ex hg h2 (by omega)
  refine ⟨t3, h3.le (by omega), fun K hK => ok_wp ?_⟩
  have fA : frz (fourT ts) = true := by simp
  have fB : frz (fourT hs) = true := by simp
  have fN : frz (nmT z) = true := by simp
  have fg : frz (gT g) = true := by simp
  generalize hA : fourT ts = TT at *
  generalize hB : fourT hs = HH at *
  generalize hN : nmT z = NN at *
  generalize gT g = GG at *
  unfold klaw_1
  simp [d1, d2, fA, fB, fN, fz_frz fA, fz_frz fB, fz_frz fN, mk, mf, d3, fg, fz_frz fg]
  exact hK
theorem case_eq {cs : List Int} (hc : ∀ z ∈ cs, Bits 2000000 z) {i : Nat} (hi : i ≤ 100) {a : T} {K : Fl → SL → Prop} (hK : K .nx [some a, some (.lst false (cs.map .int)), none, none, none]) : Ok (sWp [2, 3, 4] klaw_3 [some a, some (.lst false (cs.map .int)), some (.int (i : Nat)), none, none]) K := by
  obtain ⟨t, e0, h0⟩ := tape_eq hc i hi
  obtain ⟨zs, t1, d1, l1, f1, h1⟩ := names_ex h0 (by omega) 2 (by decide)
  have d1' : m_law_names [tpT t, .int 2] = .ok (.lst true (zs.map nmT)) [tpT t1, .int 2] := d1
  have fz1 : fzL (zs.map nmT) = zs.map nmT := fzL_frz (by
    rw [frzL_all, List.all_eq_true]
    intro t ht
    obtain ⟨z, _, rfl⟩ := List.mem_map.mp ht
    simp)
  refine ok_wp ?_
  unfold klaw_3
  refine ok_seq fun K1 hK1 _ => ?_
  simp [e0]
  apply hK1
  refine ok_dp ?_
  unfold llaw_2
  refine ok_forD (l := zs) nmT (st1 := [some a, some (.lst false (cs.map .int)), none, some (tpT t1), none]) (by simp [d1', fz1])
    (fun j s => ∃ t', s = [some a, some (.lst false (cs.map .int)), none, some (tpT t'), none] ∧ Tk (20 + 900 * (j : Int)) t') ⟨t1, rfl, h1.le (by omega)⟩ ?_ ?_
  · rintro j z s hz ⟨t', rfl, h'⟩
    have hjl := (List.getElem?_eq_some_iff.mp hz).1
    obtain ⟨t6, h6, go⟩ := gang_ex (f1 z (List.mem_of_getElem? hz)) h' (by omega) (a := some a) (b := some (.lst false (cs.map .int)))
    refine ⟨_, rfl, fun K' hnx _ _ _ => ?_⟩
    exact go K' (hnx _ ⟨t6, rfl, h6.le (by push_cast; omega)⟩)
  · rintro s ⟨t', rfl, h'⟩
    exact hK
end
end W_k13

namespace W_k13
open PySem PySem.Spec PyProof.Rows L2 Ev
noncomputable section
theorem all_true (ns : List Int) (hn : ns.length ≤ 63) (hb : ∀ z ∈ ns, Builtin.Int.intBits z ≤ 1048576) : ∃ as, mlaw [.scr ns] = .ok (.bl true) as := by
  have cells : ∃ cs : List Int, (∀ z ∈ cs, Bits 2000000 z) ∧ cs.length ≤ 4 ∧ ∀ K : Fl → SL → Prop, K .nx [some (.scr ns), some (.lst false (cs.map .int)), none, none, none] → Ok ((sAsg (eCold (eOf (uIf (bOf (eP pNe (aCons (uVar 0) (aCons (uV (eLst aNil)) aNil)))) (uV (eCall m_law_folded [] (aCons (uVar 0) (aCons (uV (eC (.int 4))) aNil)))) (uV (eLst (aCons (uV (eC (.int 0))) aNil)))))) (tgN 1)) [some (.scr ns), none, none, none, none]) K := by
    cases ns with
    | nil =>
      refine ⟨[0], fun z hz => ?_, by decide, fun K hK => ?_⟩
      · rw [List.mem_singleton.mp hz]
        show Builtin.Int.intBits 0 ≤ 2000000
        decide
      · simp [eqT_scr, szN]
        exact hK
    | cons n ns =>
      obtain ⟨cs, h1, h2, _, h3⟩ := folded_eq 4 (by decide) (by decide) hn hb
      refine ⟨cs, h1, h2, fun K hK => ?_⟩
      have h3' : m_law_folded [.scr (n :: ns), .int 4] = .ok (.lst true (cs.map .int)) [.scr (n :: ns), .int 4] := h3
      simp [eqT_scr, szN, h3']
      exact hK
  obtain ⟨cs, h1, h2, h3⟩ := cells
  suffices h : ∃ r as, mlaw [.scr ns] = .ok r as ∧ r = .bl true by
    obtain ⟨r, as, e, rfl⟩ := h
    exact ⟨as, e⟩
  refine def_ok rfl ?_
  unfold blaw
  refine ok_seq fun K1 hK1 _ => ?_
  refine h3 _ ?_
  apply hK1
  refine ok_seq fun K2 hK2 _ => ok_dp ?_
  unfold llaw_4
  refine ok_forD (l := List.range cs.length) (fun i : Nat => T.int (i : Nat)) (st1 := [some (.scr ns), some (.lst false (cs.map .int)), none, none, none]) (range_ok (by omega) (by simp)) (fun _ st => st = [some (.scr ns), some (.lst false (cs.map .int)), none, none, none]) rfl ?_ ?_
  · rintro i a st ha rfl
    obtain ⟨ha1, ha2⟩ := List.getElem?_eq_some_iff.mp ha
    rw [List.getElem_range] at ha2
    rw [List.length_range] at ha1
    subst ha2
    refine ⟨_, rfl, fun K' hn _ _ _ => ?_⟩
    exact case_eq h1 (by omega) (hn _ rfl)
  · rintro st rfl
    apply hK2
    unfold Plaw
    simp
end
end W_k13

theorem PySem.Challenge.cw_hotpass_k13_no_asks_are_quicker_holds : PySem.Challenge.rw_hotpass_k13_no_asks_are_quicker.Holds :=
  W_k13.walked W_k13.all_true
