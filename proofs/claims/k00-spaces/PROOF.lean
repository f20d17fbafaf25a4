import PyProof.Rows.All
import Wide.All
import OpenK.AllK
import Wide.FinOn
import HandS.ForMost
import HandS.Lambda
import HandS.TryMany
import HandS.Deep
import HandS.Zip
import HandS.SortInts
import HandS.TupAny
import HandS.TupLe
import HandS.DictTup
import HandS.Wide
import HandS.ExcInit
import KE.KSortTupAny
import HandS.More
import HandS.Conv
import HandS.TupLen
import HandS.WordsDict
import HandS.IsInst
import HandS.CallLocal
import KE.GoesMore
import KE.GoesEnum
import KE.GoesZip
import HandS.Style
import HandS.Defaults
import HandS.ExcField
import HandS.EndTab
import HandS.HeadHook4
import HandS.Words
import HandS.Codes
import HandS.NestedK
import HandS.Head2
import HandS.HeadEnd
import PySem.Challenge.RW_fewpoints_k00_spaces
set_option Elab.async false
set_option linter.all false
-- GA
set_option maxRecDepth 100000
set_option maxHeartbeats 4000000
namespace GP
open PySem PySem.Spec PyProof.Rows L2

inductive PV where
  | non | bl (b : Bool) | int (i : Int) | str (s : Str)
  | tup (xs : List PV) | lst (xs : List PV)
  | dic (k : Bool) (ks vs : List PV)
  | obj (t : Nat) (fs : List PV)
  | raw (v : V) | fn (x : Str) | row | rng (lo hi : Int)
  deriving Inhabited

structure Pg where
  P : Program
  w : World
  K : PySem.W.Frag
  mg : Str → Option Value
  base : Heap
  cl : Nat → Addr
  fl : Nat → List Str
  T : List (Addr × Str)
  ts : List Nat

def keyOf : PV → Option Key
  | .int i => some (.inl i)
  | .str s => some (.inr s)
  | _ => none
def keysOf : List PV → Option (List Key)
  | [] => some []
  | p :: ps => match keyOf p, keysOf ps with
    | some k, some ks => some (k :: ks)
    | _, _ => none
def tkeyOf : PV → Option (List Key)
  | .tup xs => keysOf xs
  | _ => none
def tkeysOf : List PV → Option (List (List Key))
  | [] => some []
  | p :: ps => match tkeyOf p, tkeysOf ps with
    | some k, some ks => some (k :: ks)
    | _, _ => none

mutual
def Rep (G : Pg) (ro : Option Addr) (H : Hp) : V → PV → Prop
  | x, .non => x = .non
  | x, .bl b => x = .bl b
  | x, .int i => x = .int i
  | x, .str s => x = .str s
  | x, .tup ps => ∃ a xs, x = .ref a ∧ SqT G.K H a xs ∧ RepL G ro H xs ps
  | x, .lst ps => ∃ a xs, x = .ref a ∧ H a = some (.lst xs) ∧ RepL G ro H xs ps
  | x, .dic false ks vs => ∃ a kvs, x = .ref a ∧ H a = some (.dK kvs) ∧ keysOf ks = some (kvs.map (·.1)) ∧ RepL G ro H (kvs.map (·.2)) vs
  | x, .dic true ks vs => ∃ a kvs, x = .ref a ∧ H a = some (.dT kvs) ∧ tkeysOf ks = some (kvs.map (·.1)) ∧ RepL G ro H (kvs.map (·.2)) vs
  | x, .obj t fs => ∃ a dx fvs, x = .ref a ∧ H a = some (.ins (G.cl t) dx fvs) ∧ fvs.map (·.1) = (G.fl t).take fs.length ∧ RepL G ro H (fvs.map (·.2)) fs
  | x, .raw v => x = v
  | x, .fn nm => ∃ a, x = .ref a ∧ G.mg nm = some (.ref a)
  | x, .row => ∃ r, ro = some r ∧ x = .ref r
  | x, .rng lo hi => ∃ a, x = .ref a ∧ H a = some (.rng lo hi)
def RepL (G : Pg) (ro : Option Addr) (H : Hp) : List V → List PV → Prop
  | xs, [] => xs = []
  | xs, p :: ps => ∃ y ys, xs = y :: ys ∧ Rep G ro H y p ∧ RepL G ro H ys ps
end

def RepO (G : Pg) (ro : Option Addr) (Hv : Hp) (o : HO) : PV → Prop
  | .lst ps => ∃ xs, o = .lst xs ∧ RepL G ro Hv xs ps
  | .dic false ks vs => ∃ kvs, o = .dK kvs ∧ keysOf ks = some (kvs.map (·.1)) ∧ RepL G ro Hv (kvs.map (·.2)) vs
  | .dic true ks vs => ∃ kvs, o = .dT kvs ∧ tkeysOf ks = some (kvs.map (·.1)) ∧ RepL G ro Hv (kvs.map (·.2)) vs
  | .obj t fs => ∃ dx fvs, o = .ins (G.cl t) dx fvs ∧ fvs.map (·.1) = (G.fl t).take fs.length ∧ RepL G ro Hv (fvs.map (·.2)) fs
  | _ => False

def NoTb (o : HO) : Prop := ∀ ps, o ≠ .tbl ps
def Le (H H' : Hp) : Prop := ∀ a o, H a = some o → NoTb o → H' a = some o
def clrO : Option HO → Option HO
  | some (.tbl _) => none
  | o => o
def clr (H : Hp) : Hp := fun a => clrO (H a)
theorem clr_none {H : Hp} {a : Addr} (h : H a = none) : clr H a = none := by unfold clr; rw [h]; rfl
theorem clr_some {H : Hp} {a : Addr} {o : HO} (h : H a = some o) (n : NoTb o) : clr H a = some o := by
  unfold clr; rw [h]
  cases o <;> first | rfl | exact absurd rfl (n _)
theorem of_clr {H : Hp} {a : Addr} {o : HO} (h : clr H a = some o) : H a = some o ∧ NoTb o := by
  unfold clr at h
  cases e : H a with
  | none => rw [e] at h; cases h
  | some u =>
    rw [e] at h
    cases u <;> first | (cases h; done) | (injection h with h; subst h; exact ⟨rfl, fun ps z => by cases z⟩)
theorem clr_clr (H : Hp) : clr (clr H) = clr H := by
  funext a
  show clrO (clrO (H a)) = clrO (H a)
  cases H a with
  | none => rfl
  | some o => cases o <;> rfl
theorem Le.refl (H : Hp) : Le H H := fun _ _ h _ => h
theorem Le.trans {A B C : Hp} (a : Le A B) (b : Le B C) : Le A C := fun x o h n => b x o (a x o h n) n
theorem Le.sqT {K : PySem.W.Frag} {H H' : Hp} {a : Addr} {xs : List V} (e : Le H H') (h : SqT K H a xs) : SqT K H' a xs := by
  rcases h with (h | ⟨o, h⟩) | h
  · exact .inl (.inl (e _ _ h (by intro ps z; cases z)))
  · exact .inl (.inr ⟨o, e _ _ h (by intro ps z; cases z)⟩)
  · exact .inr h
theorem Le.sqL {K : PySem.W.Frag} {H H' : Hp} {a : Addr} {xs : List V} (e : Le H H') (h : SqL K H a xs) : SqL K H' a xs := by
  rcases h with (h | ⟨o, h⟩) | h
  · exact .inl (.inl (e _ _ h (by intro ps z; cases z)))
  · exact .inl (.inr ⟨o, e _ _ h (by intro ps z; cases z)⟩)
  · exact .inr h

section
variable {G : Pg} {ro : Option Addr} {H H' : Hp}
mutual
theorem Rep.mono (e : Le H H') : ∀ {x : V} (p : PV), Rep G ro H x p → Rep G ro H' x p
  | x, .non, h => by simpa only [Rep] using h
  | x, .bl b, h => by simpa only [Rep] using h
  | x, .int b, h => by simpa only [Rep] using h
  | x, .str b, h => by simpa only [Rep] using h
  | x, .raw b, h => by simpa only [Rep] using h
  | x, .fn b, h => by simpa only [Rep] using h
  | x, .row, h => by simpa only [Rep] using h
  | x, .rng lo hi, h => by
    simp only [Rep] at h ⊢
    obtain ⟨a, e1, h1⟩ := h
    exact ⟨a, e1, e _ _ h1 (by intro ps z; cases z)⟩
  | x, .tup ps, h => by
    simp only [Rep] at h ⊢
    obtain ⟨a, xs, e1, h1, h2⟩ := h
    exact ⟨a, xs, e1, e.sqT h1, RepL.mono e ps h2⟩
  | x, .lst ps, h => by
    simp only [Rep] at h ⊢
    obtain ⟨a, xs, e1, h1, h2⟩ := h
    exact ⟨a, xs, e1, e _ _ h1 (by intro ps z; cases z), RepL.mono e ps h2⟩
  | x, .dic false ks vs, h => by
    simp only [Rep] at h ⊢
    obtain ⟨a, kvs, e1, h1, h2, h3⟩ := h
    exact ⟨a, kvs, e1, e _ _ h1 (by intro ps z; cases z), h2, RepL.mono e vs h3⟩
  | x, .dic true ks vs, h => by
    simp only [Rep] at h ⊢
    obtain ⟨a, kvs, e1, h1, h2, h3⟩ := h
    exact ⟨a, kvs, e1, e _ _ h1 (by intro ps z; cases z), h2, RepL.mono e vs h3⟩
  | x, .obj t fs, h => by
    simp only [Rep] at h ⊢
    obtain ⟨a, dx, fvs, e1, h1, h2, h3⟩ := h
    exact ⟨a, dx, fvs, e1, e _ _ h1 (by intro ps z; cases z), h2, RepL.mono e fs h3⟩
theorem RepL.mono (e : Le H H') : ∀ {xs : List V} (ps : List PV), RepL G ro H xs ps → RepL G ro H' xs ps
  | xs, [], h => by simpa only [RepL] using h
  | xs, p :: ps, h => by
    simp only [RepL] at h ⊢
    obtain ⟨y, ys, e1, h1, h2⟩ := h
    exact ⟨y, ys, e1, Rep.mono e p h1, RepL.mono e ps h2⟩
end
theorem RepO.mono (e : Le H H') {o : HO} : ∀ {p : PV}, RepO G ro H o p → RepO G ro H' o p
  | .lst ps, ⟨xs, e1, h⟩ => ⟨xs, e1, h.mono e⟩
  | .dic false ks vs, ⟨kvs, e1, h1, h⟩ => ⟨kvs, e1, h1, h.mono e⟩
  | .dic true ks vs, ⟨kvs, e1, h1, h⟩ => ⟨kvs, e1, h1, h.mono e⟩
  | .obj t fs, ⟨dx, fvs, e1, h1, h⟩ => ⟨dx, fvs, e1, h1, h.mono e⟩
theorem RepO.noTb {o : HO} {p : PV} (h : RepO G ro H o p) : NoTb o := by
  intro ps z
  subst z
  cases p with
  | lst ps => obtain ⟨xs, e1, h⟩ := h; cases e1
  | dic k ks vs => cases k <;> (obtain ⟨xs, e1, h⟩ := h; cases e1)
  | obj t fs => obtain ⟨dx, fvs, e1, h⟩ := h; cases e1
  | _ => exact h
theorem RepO.rep {a : Addr} {o : HO} (e : H a = some o) : ∀ {p : PV}, RepO G ro H o p → Rep G ro H (.ref a) p
  | .lst ps, ⟨xs, e1, h⟩ => by simp only [Rep]; exact ⟨a, xs, rfl, (by rw [e, e1]), h⟩
  | .dic false ks vs, ⟨kvs, e1, h1, h⟩ => by simp only [Rep]; exact ⟨a, kvs, rfl, (by rw [e, e1]), h1, h⟩
  | .dic true ks vs, ⟨kvs, e1, h1, h⟩ => by simp only [Rep]; exact ⟨a, kvs, rfl, (by rw [e, e1]), h1, h⟩
  | .obj t fs, ⟨dx, fvs, e1, h1, h⟩ => by simp only [Rep]; exact ⟨a, dx, fvs, rfl, (by rw [e, e1]), h1, h⟩
theorem RepL.length : ∀ {ps : List PV} {xs : List V}, RepL G ro H xs ps → xs.length = ps.length
  | [], xs, h => by simp only [RepL] at h; rw [h]; rfl
  | p :: ps, xs, h => by
    simp only [RepL] at h
    obtain ⟨y, ys, e, _, h2⟩ := h
    rw [e, List.length_cons, List.length_cons, h2.length]
theorem RepL.get : ∀ {ps : List PV} {xs : List V} {i : Nat} {p : PV}, RepL G ro H xs ps → ps[i]? = some p → ∃ x, xs[i]? = some x ∧ Rep G ro H x p
  | [], xs, i, p, h, e => by simp at e
  | q :: ps, xs, 0, p, h, e => by
    simp only [RepL] at h
    obtain ⟨y, ys, e1, h1, h2⟩ := h
    simp at e; subst e; subst e1
    exact ⟨y, rfl, h1⟩
  | q :: ps, xs, i + 1, p, h, e => by
    simp only [RepL] at h
    obtain ⟨y, ys, e1, h1, h2⟩ := h
    subst e1
    obtain ⟨x, h3, h4⟩ := h2.get (i := i) (p := p) (by simpa using e)
    exact ⟨x, by simpa using h3, h4⟩
theorem RepL.getV : ∀ {ps : List PV} {xs : List V} {i : Nat} {x : V}, RepL G ro H xs ps → xs[i]? = some x → ∃ p, ps[i]? = some p ∧ Rep G ro H x p := fun {ps xs i x} h e => by
  have hl := h.length
  have hi : i < ps.length := by rw [← hl]; exact (List.getElem?_eq_some_iff.mp e).1
  obtain ⟨x', e', r⟩ := h.get (List.getElem?_eq_getElem hi)
  rw [e] at e'; cases e'
  exact ⟨_, List.getElem?_eq_getElem hi, r⟩
theorem RepL.append : ∀ {ps qs : List PV} {xs ys : List V}, RepL G ro H xs ps → RepL G ro H ys qs → RepL G ro H (xs ++ ys) (ps ++ qs)
  | [], qs, xs, ys, h, h' => by simp only [RepL] at h; subst h; exact h'
  | p :: ps, qs, xs, ys, h, h' => by
    simp only [RepL] at h
    obtain ⟨y, zs, e1, h1, h2⟩ := h
    subst e1
    show RepL G ro H (y :: (zs ++ ys)) (p :: (ps ++ qs))
    simp only [RepL]
    exact ⟨y, _, rfl, h1, h2.append h'⟩
theorem RepL.nil : RepL G ro H [] [] := by simp only [RepL]
theorem RepL.cons {x : V} {xs : List V} {p : PV} {ps : List PV} (h : Rep G ro H x p) (h' : RepL G ro H xs ps) : RepL G ro H (x :: xs) (p :: ps) := by
  simp only [RepL]; exact ⟨x, xs, rfl, h, h'⟩
theorem RepL.take : ∀ {ps : List PV} {xs : List V} (n : Nat), RepL G ro H xs ps → RepL G ro H (xs.take n) (ps.take n)
  | _, _, 0, _ => by simp only [List.take_zero]; exact .nil
  | [], xs, n + 1, h => by simp only [RepL] at h; subst h; exact .nil
  | p :: ps, xs, n + 1, h => by
    simp only [RepL] at h
    obtain ⟨y, ys, e1, h1, h2⟩ := h
    subst e1
    exact .cons h1 (h2.take n)
theorem RepL.drop : ∀ {ps : List PV} {xs : List V} (n : Nat), RepL G ro H xs ps → RepL G ro H (xs.drop n) (ps.drop n)
  | _, _, 0, h => h
  | [], xs, n + 1, h => by simp only [RepL] at h; subst h; exact .nil
  | p :: ps, xs, n + 1, h => by
    simp only [RepL] at h
    obtain ⟨y, ys, e1, h1, h2⟩ := h
    subst e1
    exact h2.drop n
theorem RepL.set {x : V} {p : PV} (r : Rep G ro H x p) : ∀ {ps : List PV} {xs : List V} (n : Nat), RepL G ro H xs ps → RepL G ro H (xs.set n x) (ps.set n p)
  | [], xs, n, h => by simp only [RepL] at h; subst h; simpa using (RepL.nil (G := G) (ro := ro) (H := H))
  | q :: ps, xs, 0, h => by
    simp only [RepL] at h
    obtain ⟨y, ys, e1, h1, h2⟩ := h
    subst e1
    exact .cons r h2
  | q :: ps, xs, n + 1, h => by
    simp only [RepL] at h
    obtain ⟨y, ys, e1, h1, h2⟩ := h
    subst e1
    exact .cons h1 (h2.set r n)
theorem RepL.reverse : ∀ {ps : List PV} {xs : List V}, RepL G ro H xs ps → RepL G ro H xs.reverse ps.reverse
  | [], xs, h => by simp only [RepL] at h; subst h; exact .nil
  | p :: ps, xs, h => by
    simp only [RepL] at h
    obtain ⟨y, ys, e1, h1, h2⟩ := h
    subst e1
    rw [List.reverse_cons, List.reverse_cons]
    exact h2.reverse.append (.cons h1 .nil)
theorem RepL.dropLast : ∀ {ps : List PV} {xs : List V}, RepL G ro H xs ps → RepL G ro H xs.dropLast ps.dropLast := fun {ps xs} h => by
  rw [List.dropLast_eq_take, List.dropLast_eq_take, h.length]
  exact h.take _
end

mutual
def imm : PV → Bool
  | .tup ps => immL ps
  | .lst _ => false
  | .dic _ _ _ => false
  | .obj _ _ => false
  | _ => true
def immL : List PV → Bool
  | [] => true
  | p :: ps => imm p && immL ps
end
def Still : HO → Prop
  | .tup _ => True
  | .frz _ _ => True
  | .rng _ _ => True
  | _ => False
section
variable {G : Pg} {ro : Option Addr} {H H' : Hp}
theorem Still.sqT {K : PySem.W.Frag} {a : Addr} {xs : List V} (e : ∀ a o, H a = some o → Still o → H' a = some o) (h : SqT K H a xs) : SqT K H' a xs := by
  rcases h with (h | ⟨o, h⟩) | h
  · exact .inl (.inl (e _ _ h trivial))
  · exact .inl (.inr ⟨o, e _ _ h trivial⟩)
  · exact .inr h
mutual
theorem Rep.imm (e : ∀ a o, H a = some o → Still o → H' a = some o) : ∀ {x : V} (p : PV), imm p = true → Rep G ro H x p → Rep G ro H' x p
  | x, .non, _, h => by simpa only [Rep] using h
  | x, .bl b, _, h => by simpa only [Rep] using h
  | x, .int b, _, h => by simpa only [Rep] using h
  | x, .str b, _, h => by simpa only [Rep] using h
  | x, .raw b, _, h => by simpa only [Rep] using h
  | x, .fn b, _, h => by simpa only [Rep] using h
  | x, .row, _, h => by simpa only [Rep] using h
  | x, .rng lo hi, _, h => by
    simp only [Rep] at h ⊢
    obtain ⟨a, e1, h1⟩ := h
    exact ⟨a, e1, e _ _ h1 trivial⟩
  | x, .tup ps, i, h => by
    simp only [Rep] at h ⊢
    obtain ⟨a, xs, e1, h1, h2⟩ := h
    exact ⟨a, xs, e1, Still.sqT e h1, RepL.imm e ps (by simpa only [GP.imm] using i) h2⟩
theorem RepL.imm (e : ∀ a o, H a = some o → Still o → H' a = some o) : ∀ {xs : List V} (ps : List PV), immL ps = true → RepL G ro H xs ps → RepL G ro H' xs ps
  | xs, [], _, h => by simpa only [RepL] using h
  | xs, p :: ps, i, h => by
    simp only [RepL] at h ⊢
    simp only [GP.immL, Bool.and_eq_true] at i
    obtain ⟨y, ys, e1, h1, h2⟩ := h
    exact ⟨y, ys, e1, Rep.imm e p i.1 h1, RepL.imm e ps i.2 h2⟩
end
end

structure Rw where
  sc : List Int
  at_ : Int
  mix : Int
  rest : Int
def ScR (K : PySem.W.Frag) (H : Hp) (a : Addr) (xs : List V) : Prop := (∃ o, H a = some (.frz o (.lst xs))) ∨ SqL K (fun _ => none) a xs
theorem ScR.sql {K : PySem.W.Frag} {H : Hp} {a : Addr} {xs : List V} (h : ScR K H a xs) : SqL K H a xs := Or.elim h (fun h => .inl (.inr h)) fun h => Or.elim h (fun h => Or.elim h (fun z => nomatch z) fun ⟨_, z⟩ => nomatch z) .inr
theorem ScR.hold {K : PySem.W.Frag} {H H' : Hp} {a : Addr} {xs : List V} (h : ScR K H a xs) (k : ∀ o, H a = some (.frz o (.lst xs)) → H' a = some (.frz o (.lst xs))) : ScR K H' a xs := Or.elim h (fun ⟨o, h⟩ => .inl ⟨o, k o h⟩) .inr
def RowR (K : PySem.W.Frag) (ro : Option Addr) (H : Hp) (ω : Rw) : Prop :=
  match ro with
  | none => True
  | some r => 0 ≤ ω.at_ ∧ 0 ≤ ω.mix ∧ ω.mix < 2147483647 ∧ ∃ sa, H r = some (.lst [.ref sa, .int ω.at_, .int ω.mix, .int ω.rest]) ∧ ScR K H sa (ω.sc.map V.int)

inductive Sl where
  | no | sh (v : PV) | ow (v : PV)
abbrev Sto := List Sl
def Owned (ρ : Sto) (σ : L2.St) (S : List Nat) (a : Addr) : Prop := ∃ i v, i ∉ S ∧ ρ[i]? = some (.ow v) ∧ σ[i]? = some (some (.ref a))
open Classical in
noncomputable def vw (ro : Option Addr) (V0 H0 : Hp) (ρ : Sto) (σ : L2.St) (H : Hp) (S : List Nat) : Hp := fun a =>
  if ro = some a ∨ Owned ρ σ S a then none else if H0 a = none then H a else V0 a
def plus (Hv H H' : Hp) : Hp := fun a => match clr H a with
  | none => H' a
  | some _ => Hv a
structure Keep (ro : Option Addr) (H H' : Hp) : Prop where
  old : ∀ b o, H b = some o → NoTb o → ro ≠ some b → H' b = some o
  dom : ∀ b, clr H' b = none → clr H b = none
theorem Keep.refl (ro : Option Addr) (H : Hp) : Keep ro H H := ⟨fun _ _ h _ _ => h, fun _ h => h⟩
theorem Keep.trans {ro : Option Addr} {A B C : Hp} (a : Keep ro A B) (b : Keep ro B C) : Keep ro A C :=
  ⟨fun c o h n r => b.old c o (a.old c o h n r) n r, fun c h => a.dom c (b.dom c h)⟩
theorem Keep.same {ro : Option Addr} {H H' : Hp} (s : Same H H') : Keep ro H H' := ⟨fun b o h _ _ => s b o h, fun b h => by
  cases e : clr H b with
  | none => rfl
  | some o =>
    obtain ⟨e1, e2⟩ := of_clr e
    rw [clr_some (s b o e1) e2] at h; cases h⟩

def SlotR (G : Pg) (ro : Option Addr) (Hv H : Hp) : Sl → Option V → Prop
  | .no, _ => True
  | .sh p, x => ∃ v, x = some v ∧ Rep G ro Hv v p
  | .ow p, x => ∃ a o, x = some (.ref a) ∧ H a = some o ∧ RepO G ro Hv o p

structure SR (G : Pg) (ro : Option Addr) (V0 H0 : Hp) (ρ : Sto) (ω : Rw) (σ : L2.St) (H : Hp) : Prop where
  keep : Keep ro H0 H
  tf : ∀ b ps, H0 b ≠ some (.tbl ps)
  v0 : Le V0 H0
  len : ρ.length = σ.length
  slot : ∀ (i : Nat) s x, ρ[i]? = some s → σ[i]? = some x → SlotR G ro (vw ro V0 H0 ρ σ H []) H s x
  own : ∀ (i : Nat) v a, ρ[i]? = some (.ow v) → σ[i]? = some (some (.ref a)) → H0 a = none ∧ ro ≠ some a
  dist : ∀ (i j : Nat) v u a, ρ[i]? = some (.ow v) → ρ[j]? = some (.ow u) → σ[i]? = some (some (.ref a)) → σ[j]? = some (some (.ref a)) → i = j
  row : RowR G.K ro H ω
  tabs : LamX.Tabs G.T H

section
variable {G : Pg} {ro : Option Addr} {V0 H0 : Hp} {ρ ρ' : Sto} {ω ω' : Rw} {σ σ' : L2.St} {H H' : Hp} {S S' : List Nat}
theorem vw_no {a : Addr} (h : ¬ (ro = some a ∨ Owned ρ σ S a)) : vw ro V0 H0 ρ σ H S a = if H0 a = none then H a else V0 a := by
  unfold vw; rw [if_neg h]
theorem vw_yes {a : Addr} (h : ro = some a ∨ Owned ρ σ S a) : vw ro V0 H0 ρ σ H S a = none := by
  unfold vw; rw [if_pos h]
theorem vw_some {a : Addr} {o : HO} (h : vw ro V0 H0 ρ σ H S a = some o) : ro ≠ some a ∧ ¬ Owned ρ σ S a ∧ (if H0 a = none then H a else V0 a) = some o := by
  by_cases c : ro = some a ∨ Owned ρ σ S a
  · rw [vw_yes c] at h; cases h
  · rw [vw_no c] at h
    exact ⟨fun z => c (.inl z), fun z => c (.inr z), h⟩
theorem vw_mk {a : Addr} {o : HO} (h1 : ro ≠ some a) (h2 : ¬ Owned ρ σ S a) (h3 : (if H0 a = none then H a else V0 a) = some o) : vw ro V0 H0 ρ σ H S a = some o := by
  rw [vw_no (by rintro (z | z); exact h1 z; exact h2 z)]; exact h3
theorem Owned.mono (s : ∀ i ∈ S, i ∈ S') {a : Addr} (h : Owned ρ σ S' a) : Owned ρ σ S a := by
  obtain ⟨i, v, h1, h2, h3⟩ := h
  exact ⟨i, v, fun z => h1 (s i z), h2, h3⟩
theorem vw_sub (s : ∀ i ∈ S, i ∈ S') : Le (vw ro V0 H0 ρ σ H S) (vw ro V0 H0 ρ σ H S') := fun a o h _ => by
  obtain ⟨h1, h2, h3⟩ := vw_some h
  exact vw_mk h1 (fun z => h2 (z.mono s)) h3
theorem vw_grow (k : Keep ro H H') : Le (vw ro V0 H0 ρ σ H S) (vw ro V0 H0 ρ σ H' S) := fun a o h n => by
  obtain ⟨h1, h2, h3⟩ := vw_some h
  refine vw_mk h1 h2 ?_
  split at h3
  · rename_i c; rw [if_pos c]; exact k.old a o h3 n h1
  · rename_i c; rw [if_neg c]; exact h3
theorem SR.vw_le (I : SR G ro V0 H0 ρ ω σ H) : Le (vw ro V0 H0 ρ σ H S) H := fun a o h n => by
  obtain ⟨h1, h2, h3⟩ := vw_some h
  split at h3
  · exact h3
  · exact I.keep.old a o (I.v0 a o h3 n) n h1
theorem SR.dom0 (I : SR G ro V0 H0 ρ ω σ H) {a : Addr} (h : clr H a = none) : H0 a = none := by
  have := I.keep.dom a h
  cases e : H0 a with
  | none => rfl
  | some o =>
    unfold clr at this
    rw [e] at this
    cases o <;> first | (cases this; done) | exact absurd e (I.tf a _)
theorem plus_vw (I : SR G ro V0 H0 ρ ω σ H) (k : Keep ro H H') : Le (plus (vw ro V0 H0 ρ σ H S) H H') (vw ro V0 H0 ρ σ H' S) := fun a o h n => by
  unfold plus at h
  split at h
  · rename_i c
    refine vw_mk (fun z => ?_) (fun z => ?_) ?_
    · have r := I.row
      rw [z] at r
      obtain ⟨_, _, _, sa, r1, _⟩ := r
      rw [clr_some r1 (by intro ps z; cases z)] at c; cases c
    · obtain ⟨i, v, _, e1, e2⟩ := z
      obtain ⟨a', o', e3, e4, r5⟩ := I.slot i _ _ e1 e2
      cases e3
      rw [clr_some e4 r5.noTb] at c; cases c
    · have : H0 a = none := I.dom0 c
      rw [if_pos this]; exact h
  · exact vw_grow k a o h n
theorem RowR.keep {K : PySem.W.Frag} (r : RowR K ro H ω) (k : Same H H') : RowR K ro H' ω := by
  cases ro with
  | none => trivial
  | some r0 =>
    obtain ⟨a1, a2, a3, sa, e1, e2⟩ := r
    exact ⟨a1, a2, a3, sa, k _ _ e1, e2.hold fun o z => k _ _ z⟩
theorem SR.grow (I : SR G ro V0 H0 ρ ω σ H) (k : Keep ro H H') (r : RowR G.K ro H' ω') (t : LamX.Tabs G.T H') : SR G ro V0 H0 ρ ω' σ H' where
  keep := I.keep.trans k
  tf := I.tf
  v0 := I.v0
  len := I.len
  slot := fun i s x e1 e2 => by
    have h := I.slot i s x e1 e2
    cases s with
    | no => trivial
    | sh p => obtain ⟨v, e, r⟩ := h; exact ⟨v, e, r.mono (vw_grow k)⟩
    | ow p =>
      obtain ⟨a, o, e, h1, h2⟩ := h
      subst e
      exact ⟨a, o, rfl, k.old a o h1 h2.noTb (I.own i p a e1 e2).2, h2.mono (vw_grow k)⟩
  own := I.own
  dist := I.dist
  row := r
  tabs := t
theorem SR.same (I : SR G ro V0 H0 ρ ω σ H) (s : Same H H') : SR G ro V0 H0 ρ ω σ H' :=
  I.grow (.same s) (I.row.keep s) (I.tabs.ext s)
end
end GP
-- GB
set_option maxRecDepth 100000
set_option maxHeartbeats 4000000
namespace GP
open PySem PySem.Spec PyProof.Rows L2

inductive R (α : Type) where
  | ok (a : α) (ω : Rw) | exn (t : Nat) (v : PV) (ω : Rw) | bad
abbrev M (α : Type) := Rw → R α
def ret {α : Type} (a : α) : M α := fun ω => .ok a ω
def bnd {α β : Type} (m : M α) (f : α → M β) : M β := fun ω => match m ω with
  | .ok a ω' => f a ω'
  | .exn t v ω' => .exn t v ω'
  | .bad => .bad
def opt {α : Type} (o : Option α) : M α := fun ω => match o with
  | some a => .ok a ω
  | none => .bad
def gd (b : Bool) : M Unit := fun ω => if b = true then .ok () ω else .bad

theorem PE.imp {X : Cx} {e : Expr} {t t' : TE} (h : PE X e t) (i : ∀ σ H Q, t' σ H Q → t σ H Q) : PE X e t' := ⟨fun pins s σ H Q I q => h.run pins s σ H Q I (i σ H Q q)⟩
theorem PT.imp {X : Cx} {e : Expr} {t t' : TT} (h : PT X e t) (i : ∀ σ H Q, t' σ H Q → t σ H Q) : PT X e t' := ⟨fun pins s σ H Q I q => h.run pins s σ H Q I (i σ H Q q)⟩
theorem PA.imp {X : Cx} {e : List Expr} {t t' : TA} (h : PA X e t) (i : ∀ σ H Q, t' σ H Q → t σ H Q) : PA X e t' := ⟨fun p pins s σ H Q I q => h.run p pins s σ H Q I (i σ H Q q)⟩
theorem PS.imp {X : Cx} {e : Stmt} {t t' : TS} (h : PS X e t) (i : ∀ D σ H, t' D σ H → t D σ H) : PS X e t' := ⟨fun pins s σ H D I q => h.run pins s σ H D I (i D σ H q)⟩
theorem PSs.imp {X : Cx} {e : List Stmt} {t t' : TS} (h : PSs X e t) (i : ∀ D σ H, t' D σ H → t D σ H) : PSs X e t' := ⟨fun pins s σ H D I q => h.run pins s σ H D I (i D σ H q)⟩

def valueS : Str := "value"
def ExAt (G : Pg) (ro : Option Addr) (Hv H : Hp) (d : Addr) (p : PV) : Prop := ∃ x, H d = some (.xd [(valueS, x)]) ∧ Rep G ro Hv x p

section
variable (G : Pg) (Ex : XK) (ro : Option Addr) (V0 H0 : Hp) (ρ : Sto) (σ : L2.St)
def Post (S : List Nat) {α β : Type} (C : Hp → β → α → Prop) (H : Hp) (Q : β → Hp → Prop) : R α → Prop
  | .ok a ω => ∀ H' x, Keep ro H H' → SR G ro V0 H0 ρ ω σ H' → C (vw ro V0 H0 ρ σ H' S) x a → Q x H'
  | .exn t p ω => ∀ H' d, Keep ro H H' → SR G ro V0 H0 ρ ω σ H' → ExAt G ro (vw ro V0 H0 ρ σ H' S) H' d p → Ex (.ref (G.cl t)) (some d) H'
  | .bad => False
end
def CE (G : Pg) (ro : Option Addr) : Hp → V → PV → Prop := fun Hv x p => Rep G ro Hv x p
def CL (G : Pg) (ro : Option Addr) : Hp → List V → List PV → Prop := fun Hv x p => RepL G ro Hv x p
def CB : Hp → Bool → Bool → Prop := fun _ x b => x = b
def tD (G : Pg) (Ex : XK) (S : List Nat) (d : Sto → M PV) : TE := fun σ H Q => ∃ ro V0 H0 ρ ω, SR G ro V0 H0 ρ ω σ H ∧ Post G Ex ro V0 H0 ρ σ S (CE G ro) H Q (d ρ ω)
def tDL (G : Pg) (Ex : XK) (S : List Nat) (d : Sto → M (List PV)) : TA := fun σ H Q => ∃ ro V0 H0 ρ ω, SR G ro V0 H0 ρ ω σ H ∧ Post G Ex ro V0 H0 ρ σ S (CL G ro) H Q (d ρ ω)
def tDT (G : Pg) (Ex : XK) (S : List Nat) (d : Sto → M Bool) : TT := fun σ H Q => ∃ ro V0 H0 ρ ω, SR G ro V0 H0 ρ ω σ H ∧ Post G Ex ro V0 H0 ρ σ S CB H Q (d ρ ω)

section
variable {G : Pg} {Ex : XK} {ro : Option Addr} {V0 H0 : Hp} {ρ : Sto} {σ : L2.St} {H H1 : Hp} {S S' : List Nat} {ω ω1 : Rw}
theorem CE.mono {Hv Hv' : Hp} {x : V} {a : PV} (e : Le Hv Hv') (h : CE G ro Hv x a) : CE G ro Hv' x a := Rep.mono e a h
theorem CL.mono {Hv Hv' : Hp} {x : List V} {a : List PV} (e : Le Hv Hv') (h : CL G ro Hv x a) : CL G ro Hv' x a := RepL.mono e a h
theorem ExAt.mono {Hv Hv' : Hp} {d : Addr} {p : PV} (e : Le Hv Hv') (h : ExAt G ro Hv H d p) : ExAt G ro Hv' H d p := by
  obtain ⟨x, h1, h2⟩ := h
  exact ⟨x, h1, h2.mono e⟩
theorem Post.later {α β : Type} {C : Hp → β → α → Prop} {Q : β → Hp → Prop} (k : Keep ro H H1) : ∀ {r : R α}, Post G Ex ro V0 H0 ρ σ S C H Q r → Post G Ex ro V0 H0 ρ σ S C H1 Q r
  | .ok a ω, h => fun H' x k' I c => h H' x (k.trans k') I c
  | .exn t p ω, h => fun H' d k' I c => h H' d (k.trans k') I c
  | .bad, h => h
theorem post_bnd {α β α' β' : Type} {C : Hp → β → α → Prop} {C' : Hp → β' → α' → Prop} {Q : β → Hp → Prop} {K : β' → Hp → Prop} {m : M α'} {f : α' → M α} (hs : ∀ i ∈ S', i ∈ S)
    (h : Post G Ex ro V0 H0 ρ σ S C H Q (bnd m f ω))
    (k : ∀ a ω1 H1 x, m ω = .ok a ω1 → Keep ro H H1 → SR G ro V0 H0 ρ ω1 σ H1 → C' (vw ro V0 H0 ρ σ H1 S') x a → Post G Ex ro V0 H0 ρ σ S C H1 Q (f a ω1) → K x H1) :
    Post G Ex ro V0 H0 ρ σ S' C' H K (m ω) := by
  unfold bnd at h
  cases e : m ω with
  | ok a ω1 =>
    rw [e] at h
    exact fun H' x k1 I c => k a ω1 H' x e k1 I c (h.later k1)
  | exn t p ω1 =>
    rw [e] at h
    exact fun H' d k1 I c => h H' d k1 I (c.mono (vw_sub hs))
  | bad => rw [e] at h; exact h
theorem post_opt {α β : Type} {C : Hp → β → α → Prop} {Q : β → Hp → Prop} {o : Option α} (h : Post G Ex ro V0 H0 ρ σ S C H Q (opt o ω)) :
    ∃ a, o = some a ∧ Post G Ex ro V0 H0 ρ σ S C H Q (.ok a ω) := by
  cases o with
  | none => exact h.elim
  | some a => exact ⟨a, rfl, h⟩
theorem post_ret {α β : Type} {C : Hp → β → α → Prop} {Q : β → Hp → Prop} {a : α} {x : β} (I : SR G ro V0 H0 ρ ω σ H) (h : Post G Ex ro V0 H0 ρ σ S C H Q (.ok a ω)) (c : C (vw ro V0 H0 ρ σ H S) x a) : Q x H :=
  h H x (.refl _ _) I c

def Res (G : Pg) (ro : Option Addr) (Hv H : Hp) (Q : VK) (p : PV) : Prop := ∀ H' x, Same H H' → Rep G ro (plus Hv H H') x p → Q x H'
theorem post_res {Q : VK} {p : PV} (I : SR G ro V0 H0 ρ ω σ H) (h : Post G Ex ro V0 H0 ρ σ S (CE G ro) H Q (.ok p ω)) : Res G ro (vw ro V0 H0 ρ σ H S) H Q p :=
  fun H' x s r => h H' x (.same s) (I.same s) (r.mono (plus_vw I (.same s)))
theorem plus_self (Hv H : Hp) : Le Hv H → Le Hv (plus Hv H H) := fun l a o h n => by
  unfold plus; rw [clr_some (l a o h n) n]; exact h
theorem plus_new {Hv H : Hp} {p : Addr} {o : HO} (hp : H p = none) : plus Hv H (upd H p o) p = some o := by
  unfold plus; rw [clr_none hp]; exact upd_same
theorem plus_le {Hv H H' : Hp} (l : Le Hv H) : Le Hv (plus Hv H H') := fun a o h n => by
  unfold plus; rw [clr_some (l a o h n) n]; exact h
theorem same_upd {H : Hp} {p : Addr} {o : HO} (h : H p = none) : Same H (upd H p o) := fun b x e => by
  rw [upd_ne (ne_of_none e h)]
  exact e
end

def rP2 (G : Pg) (f : PV → PV → Option PV) : R2 := fun x y H Q => ∃ ro Hv p q r, Le Hv H ∧ Rep G ro Hv x p ∧ Rep G ro Hv y q ∧ f p q = some r ∧ Res G ro Hv H Q r
def rP1 (G : Pg) (f : PV → Option PV) : V → Hp → VK → Prop := fun x H Q => ∃ ro Hv p r, Le Hv H ∧ Rep G ro Hv x p ∧ f p = some r ∧ Res G ro Hv H Q r
def rPL (G : Pg) (f : List PV → Option PV) : List V → Hp → VK → Prop := fun xs H Q => ∃ ro Hv ps r, Le Hv H ∧ RepL G ro Hv xs ps ∧ f ps = some r ∧ Res G ro Hv H Q r
def rPT (G : Pg) (f : PV → Option Bool) : V → Hp → (Bool → Hp → Prop) → Prop := fun x H Q => ∃ ro Hv p r, Le Hv H ∧ Rep G ro Hv x p ∧ f p = some r ∧ Q r H
def flat : PV → Bool
  | .non => true | .bl _ => true | .int _ => true | .str _ => true | .raw _ => true
  | _ => false
def flatV : PV → V
  | .non => .non | .bl b => .bl b | .int i => .int i | .str s => .str s | .raw v => v
  | _ => .non
section
variable {G : Pg} {ro : Option Addr} {H Hv : Hp} {Q : VK}
theorem Res.at {p : PV} {x : V} (h : Res G ro Hv H Q p) (l : Le Hv H) (r : Rep G ro Hv x p) : Q x H := h H x (Same.refl H) (r.mono (plus_self Hv H l))
theorem Res.flat {p : PV} (h : Res G ro Hv H Q p) (f : flat p = true) : Q (flatV p) H := by
  refine h H _ (Same.refl H) ?_
  cases p <;> simp [GP.flat] at f <;> simp [Rep, flatV]
theorem Res.tup {ps : List PV} {xs : List V} (h : Res G ro Hv H Q (.tup ps)) (l : Le Hv H) (r : RepL G ro Hv xs ps) : ∀ p, H p = none → Q (.ref p) (upd H p (.tup xs)) := fun p hp => by
  refine h _ _ (same_upd hp) ?_
  simp only [Rep]
  exact ⟨p, xs, rfl, .inl (.inl (plus_new hp)), r.mono (plus_le l)⟩
theorem Res.lst {ps : List PV} {xs : List V} (h : Res G ro Hv H Q (.lst ps)) (l : Le Hv H) (r : RepL G ro Hv xs ps) : ∀ p, H p = none → Q (.ref p) (upd H p (.lst xs)) := fun p hp => by
  refine h _ _ (same_upd hp) ?_
  simp only [Rep]
  exact ⟨p, xs, rfl, plus_new hp, r.mono (plus_le l)⟩
end

abbrev DE (X : Cx) (G : Pg) (Ex : XK) (e : Expr) (S : List Nat) (d : Sto → M PV) : Prop := PE X e (tD G Ex S d)
abbrev DT (X : Cx) (G : Pg) (Ex : XK) (e : Expr) (S : List Nat) (d : Sto → M Bool) : Prop := PT X e (tDT G Ex S d)
abbrev DL (X : Cx) (G : Pg) (Ex : XK) (es : List Expr) (S : List Nat) (d : Sto → M (List PV)) : Prop := PA X es (tDL G Ex S d)

def slV : Option Sl → Option PV
  | some (.sh p) => some p
  | some (.ow p) => some p
  | _ => none
def dVar (i : Nat) : Sto → M PV := fun ρ => opt (slV ρ[i]?)
def dC (p : PV) : Sto → M PV := fun _ => ret p
def d2 (f : PV → PV → Option PV) (a b : Sto → M PV) : Sto → M PV := fun ρ => bnd (a ρ) fun p => bnd (b ρ) fun q => opt (f p q)
def d1 (f : PV → Option PV) (a : Sto → M PV) : Sto → M PV := fun ρ => bnd (a ρ) fun p => opt (f p)
def dL (f : List PV → Option PV) (a : Sto → M (List PV)) : Sto → M PV := fun ρ => bnd (a ρ) fun p => opt (f p)
def dNil : Sto → M (List PV) := fun _ => ret []
def dCons (a : Sto → M PV) (b : Sto → M (List PV)) : Sto → M (List PV) := fun ρ => bnd (a ρ) fun p => bnd (b ρ) fun ps => ret (p :: ps)

section
variable {X : Cx} {G : Pg} {Ex : XK} {a b c e : Expr} {es : List Expr} {S S' T : List Nat} {da db dc : Sto → M PV} {dl : Sto → M (List PV)} {pos : Pos}
theorem de_var {i : Nat} {x : Str} (hN : X.N[i]? = some x) (hv : Vis X.env.scope x) (hd : (x == ("__debug__" : Str)) = false) (hcd : (x == ("__classdict__" : Str)) = false) : DE X G Ex (.Name x pos) [i] (dVar i) := by
  refine PE.imp (pe_var hN hv hd hcd) fun σ H Q ⟨ro, V0, H0, ρ, ω, I, h⟩ => ?_
  obtain ⟨p, e, h⟩ := post_opt h
  cases hs : ρ[i]? with
  | none => rw [hs] at e; cases e
  | some s =>
    have hi : i < σ.length := by rw [← I.len]; exact (List.getElem?_eq_some_iff.mp hs).1
    have hx : σ[i]? = some σ[i] := List.getElem?_eq_getElem hi
    have sl := I.slot i s _ hs hx
    rw [hs] at e
    cases s with
    | no => cases e
    | sh p' =>
      cases e
      obtain ⟨v, ev, r⟩ := sl
      exact ⟨v, by rw [hx, ev], post_ret I h (r.mono (vw_sub (S' := [i]) (by simp)))⟩
    | ow p' =>
      cases e
      obtain ⟨a, o, ev, ea, r⟩ := sl
      have hx' : σ[i]? = some (some (.ref a)) := by rw [hx, ev]
      refine ⟨.ref a, hx', post_ret I h ?_⟩
      have hown := I.own i p a hs hx'
      have hva : vw ro V0 H0 ρ σ H [i] a = some o := by
        refine vw_mk hown.2 ?_ (by rw [if_pos hown.1]; exact ea)
        rintro ⟨j, v, hj, e1, e2⟩
        exact hj (by simp [I.dist j i v p a e1 hs e2 hx'])
      exact RepO.rep hva (r.mono (vw_sub (S' := [i]) (by simp)))
theorem de_int {i : Int} {j : Nat} : DE X G Ex (.Constant (.int i) j pos) [] (dC (.int i)) :=
  PE.imp pe_int fun σ H Q ⟨ro, V0, H0, ρ, ω, I, h⟩ => (post_res I h).flat rfl
theorem de_bl {b : Bool} {j : Nat} : DE X G Ex (.Constant (.bool b) j pos) [] (dC (.bl b)) :=
  PE.imp pe_bl fun σ H Q ⟨ro, V0, H0, ρ, ω, I, h⟩ => (post_res I h).flat rfl
theorem de_non {j : Nat} : DE X G Ex (.Constant .none j pos) [] (dC .non) :=
  PE.imp pe_non fun σ H Q ⟨ro, V0, H0, ρ, ω, I, h⟩ => (post_res I h).flat rfl
theorem de_str {x : Str} {j : Nat} : DE X G Ex (.Constant (.str x) j pos) [] (dC (.str x)) :=
  PE.imp pe_str fun σ H Q ⟨ro, V0, H0, ρ, ω, I, h⟩ => (post_res I h).flat rfl
theorem de_glob {x : Str} {v : V} {u : Value} {p : PV} (hg : Gl X x) (hm : X.mg x = some u) (r : RelV v u) (hr : ∀ ro Hv, Rep G ro Hv v p) (hd : (x == ("__debug__" : Str)) = false) : DE X G Ex (.Name x pos) [] (dC p) :=
  PE.imp (pe_glob hg hm r hd) fun σ H Q ⟨ro, V0, H0, ρ, ω, I, h⟩ => (post_res I h).at I.vw_le (hr _ _)
theorem de_2 {f : PV → PV → Option PV} {mk : TE → TE → TE} {whole : Expr} (hm : PE X whole (tOp (rP2 G f) (tD G Ex S da) (tD G Ex S' db))) : DE X G Ex whole (S ++ S') (d2 f da db) := by
  refine PE.imp hm fun σ H Q ⟨ro, V0, H0, ρ, ω, I, h⟩ => ?_
  refine ⟨ro, V0, H0, ρ, ω, I, post_bnd (by simp +contextual) h fun p ω1 H1 x e k I1 c h1 => ⟨ro, V0, H0, ρ, ω1, I1, post_bnd (by simp +contextual) h1 fun q ω2 H2 y e2 k2 I2 c2 h2 => ?_⟩⟩
  obtain ⟨z, ez, h3⟩ := post_opt h2
  exact ⟨ro, _, p, q, z, I2.vw_le (S := S ++ S'), (CE.mono (vw_grow k2) c).mono (vw_sub (by simp +contextual)), CE.mono (vw_sub (by simp +contextual)) c2, ez, post_res I2 h3⟩
theorem de_op {op : Operator} {f : PV → PV → Option PV} (ho : OpR X (binaryOp op) (rP2 G f)) (ha : DE X G Ex a S da) (hb : DE X G Ex b S' db) : DE X G Ex (.BinOp a op b pos) (S ++ S') (d2 f da db) :=
  de_2 (mk := fun _ t => t) (pe_op ho ha hb)
theorem de_cmp {op : CmpOp} {f : PV → PV → Option PV} (ho : OpR X (compareOp op) (rP2 G f)) (ha : DE X G Ex a S da) (hb : DE X G Ex b S' db) (hm : behindInMarks op b = false) : DE X G Ex (.Compare a [op] [b] pos) (S ++ S') (d2 f da db) :=
  de_2 (mk := fun _ t => t) (pe_cmpR ho ha hb hm)
theorem de_un {op : UnaryOp} {f : PV → Option PV} (ho : UnR X (unaryOp op) (rP1 G f)) (ha : DE X G Ex a S da) : DE X G Ex (.UnaryOp op a pos) S (d1 f da) := by
  refine PE.imp (pe_un ho ha) fun σ H Q ⟨ro, V0, H0, ρ, ω, I, h⟩ => ?_
  refine ⟨ro, V0, H0, ρ, ω, I, post_bnd (by simp) h fun p ω1 H1 x e k I1 c h1 => ?_⟩
  obtain ⟨z, ez, h3⟩ := post_opt h1
  exact ⟨ro, _, p, z, I1.vw_le, c, ez, post_res I1 h3⟩
theorem dl_nil : DL X G Ex [] [] dNil :=
  PA.imp pa_nil fun σ H Q ⟨ro, V0, H0, ρ, ω, I, h⟩ => post_ret (C := CL G ro) (x := []) I h .nil
theorem dl_cons (ha : DE X G Ex e S da) (hr : DL X G Ex es S' dl) (hs : starEach (e :: es) X.env = (false, eval e X.env) :: starEach es X.env) : DL X G Ex (e :: es) (S ++ S') (dCons da dl) := by
  refine PA.imp (pa_cons ha hr hs) fun σ H Q ⟨ro, V0, H0, ρ, ω, I, h⟩ => ?_
  refine ⟨ro, V0, H0, ρ, ω, I, post_bnd (by simp +contextual) h fun p ω1 H1 x e k I1 c h1 => ⟨ro, V0, H0, ρ, ω1, I1, post_bnd (by simp +contextual) h1 fun q ω2 H2 y e2 k2 I2 c2 h2 => ?_⟩⟩
  exact post_ret (C := CL G ro) (x := x :: y) I2 h2 (.cons ((CE.mono (vw_grow k2) c).mono (vw_sub (by simp +contextual))) (CL.mono (vw_sub (by simp +contextual)) c2))
theorem de_args {f : List PV → Option PV} {whole : Expr} (hm : PE X whole (tCB (rPL G f) (tDL G Ex S dl))) : DE X G Ex whole S (dL f dl) := by
  refine PE.imp hm fun σ H Q ⟨ro, V0, H0, ρ, ω, I, h⟩ => ?_
  refine ⟨ro, V0, H0, ρ, ω, I, post_bnd (by simp) h fun p ω1 H1 x e k I1 c h1 => ?_⟩
  obtain ⟨z, ez, h3⟩ := post_opt h1
  exact ⟨ro, _, p, z, I1.vw_le, c, ez, post_res I1 h3⟩
def fits (n : Nat) : Bool := decide (n ≤ sizeLine)
theorem fits_ok {n : Nat} (h : fits n = true) : n ≤ sizeLine := of_decide_eq_true h
def mkTup (ps : List PV) : Option PV := if fits ps.length = true then some (.tup ps) else none
def mkLst (ps : List PV) : Option PV := if fits ps.length = true then some (.lst ps) else none
theorem de_tup {k : Nat} (ha : DL X G Ex es S dl) : DE X G Ex (.Tuple es k pos) S (dL mkTup dl) := by
  refine de_args (PE.imp (pe_tup ha) fun σ H Q h => ?_)
  obtain ⟨ro, V0, H0, ρ, ω, I, h⟩ := h
  refine ⟨ro, V0, H0, ρ, ω, I, ?_⟩
  revert h
  cases dl ρ ω with
  | bad => exact id
  | exn t p ω1 => exact id
  | ok ps ω1 =>
    intro h H' xs k' I' c
    obtain ⟨ro', Hv, ps', r, le, c', e, res⟩ := h H' xs k' I' c
    unfold mkTup at e
    split at e
    · cases e
      rename_i hf
      exact ⟨by rw [c'.length]; exact fits_ok hf, Res.tup res le c'⟩
    · cases e
theorem de_lst (ha : DL X G Ex es S dl) : DE X G Ex (.List es pos) S (dL mkLst dl) := by
  refine de_args (PE.imp (pe_lst ha) fun σ H Q h => ?_)
  obtain ⟨ro, V0, H0, ρ, ω, I, h⟩ := h
  refine ⟨ro, V0, H0, ρ, ω, I, ?_⟩
  revert h
  cases dl ρ ω with
  | bad => exact id
  | exn t p ω1 => exact id
  | ok ps ω1 =>
    intro h H' xs k' I' c
    obtain ⟨ro', Hv, ps', r, le, c', e, res⟩ := h H' xs k' I' c
    unfold mkLst at e
    split at e
    · cases e
      rename_i hf
      exact ⟨by rw [c'.length]; exact fits_ok hf, Res.lst res le c'⟩
    · cases e
end
end GP
-- GC
set_option maxRecDepth 100000
set_option maxHeartbeats 4000000
namespace GP
open PySem PySem.Spec PyProof.Rows L2

structure XG (G : Pg) (k : Nat) (X : Cx) : Prop where
  prog : X.prog = G.P
  w : X.w = G.w
  K : X.K = G.K
  mg : X.mg = G.mg
  base : X.base = G.base
  calm : X.calm = true
  nd : X.N.Nodup
  room : Room k X.A

mutual
def pd : PV → PyData
  | .non => .none
  | .bl b => .bool b
  | .int i => .int i
  | .str s => .str s
  | .tup ps => .tuple (pdL ps)
  | .lst ps => .list (pdL ps)
  | _ => .none
def pdL : List PV → List PyData
  | [] => []
  | p :: ps => pd p :: pdL ps
end
mutual
def okn : Nat → PV → Bool
  | _, .non => true
  | _, .bl _ => true
  | _, .int _ => true
  | _, .str s => PyData.strOk s
  | n, .tup ps => decide (0 < n) && oknL (n - 1) ps
  | n, .lst ps => decide (0 < n) && oknL (n - 1) ps
  | _, _ => false
def oknL : Nat → List PV → Bool
  | _, [] => true
  | n, p :: ps => okn n p && oknL n ps
end
mutual
theorem okn_can : ∀ (n : Nat) (p : PV), okn n p = true → (pd p).canLay0 = true
  | _, .non, _ => rfl
  | _, .bl _, _ => rfl
  | _, .int _, _ => rfl
  | _, .str s, h => by simpa only [okn, pd, PyData.canLay0] using h
  | n, .tup ps, h => by
    simp only [okn, Bool.and_eq_true] at h
    simp only [pd, PyData.canLay0]
    exact oknL_can _ ps h.2
  | n, .lst ps, h => by
    simp only [okn, Bool.and_eq_true] at h
    simp only [pd, PyData.canLay0]
    exact oknL_can _ ps h.2
  | _, .dic _ _ _, h => by simp only [okn] at h; cases h
  | _, .obj _ _, h => by simp only [okn] at h; cases h
  | _, .raw _, h => by simp only [okn] at h; cases h
  | _, .fn _, h => by simp only [okn] at h; cases h
  | _, .row, h => by simp only [okn] at h; cases h
  | _, .rng _ _, h => by simp only [okn] at h; cases h
theorem oknL_can : ∀ (n : Nat) (ps : List PV), oknL n ps = true → PyData.canLayAll0 (pdL ps) = true
  | _, [], _ => rfl
  | n, p :: ps, h => by
    simp only [oknL, Bool.and_eq_true] at h
    simp only [pdL, PyData.canLayAll0, okn_can n p h.1, oknL_can n ps h.2, Bool.and_self]
end
mutual
theorem okn_dep : ∀ (n : Nat) (p : PV), okn n p = true → (pd p).depth ≤ n
  | _, .non, _ => by simp [pd, PyData.depth]
  | _, .bl _, _ => by simp [pd, PyData.depth]
  | _, .int _, _ => by simp [pd, PyData.depth]
  | _, .str s, h => by simp [pd, PyData.depth]
  | n, .tup ps, h => by
    simp only [okn, Bool.and_eq_true, decide_eq_true_eq] at h
    simp only [pd, PyData.depth]
    have := oknL_dep _ ps h.2
    omega
  | n, .lst ps, h => by
    simp only [okn, Bool.and_eq_true, decide_eq_true_eq] at h
    simp only [pd, PyData.depth]
    have := oknL_dep _ ps h.2
    omega
  | _, .dic _ _ _, h => by simp only [okn] at h; cases h
  | _, .obj _ _, h => by simp only [okn] at h; cases h
  | _, .raw _, h => by simp only [okn] at h; cases h
  | _, .fn _, h => by simp only [okn] at h; cases h
  | _, .row, h => by simp only [okn] at h; cases h
  | _, .rng _ _, h => by simp only [okn] at h; cases h
theorem oknL_dep : ∀ (n : Nat) (ps : List PV), oknL n ps = true → PyData.depthAll (pdL ps) ≤ n
  | _, [], _ => by simp [pdL, PyData.depthAll]
  | n, p :: ps, h => by
    simp only [oknL, Bool.and_eq_true] at h
    simp only [pdL, PyData.depthAll]
    have h1 := okn_dep n p h.1
    have h2 := oknL_dep n ps h.2
    omega
end
theorem okn_shaped {p : PV} (h : okn 60 p = true) : SeqAt.shaped (pd p) = true := by
  unfold SeqAt.shaped
  rw [okn_can _ _ h, Bool.true_and, decide_eq_true_eq]
  exact Nat.le_trans (okn_dep _ _ h) (by decide)
section
variable {G : Pg} {ro : Option Addr} {H : Hp}
mutual
theorem Rep.dp : ∀ {x : V} (n : Nat) (p : PV), okn n p = true → Rep G ro H x p → Dp G.K H x (pd p)
  | x, _, .non, _, h => by simp only [Rep] at h; subst h; exact .non
  | x, _, .bl b, _, h => by simp only [Rep] at h; subst h; exact .bl b
  | x, _, .int b, _, h => by simp only [Rep] at h; subst h; exact .int b
  | x, _, .str b, _, h => by simp only [Rep] at h; subst h; exact .str b
  | x, n, .tup ps, i, h => by
    simp only [okn, Bool.and_eq_true] at i
    simp only [Rep] at h
    obtain ⟨a, xs, e1, h1, h2⟩ := h
    subst e1
    exact .tup h1 (RepL.dp _ ps i.2 h2)
  | x, n, .lst ps, i, h => by
    simp only [okn, Bool.and_eq_true] at i
    simp only [Rep] at h
    obtain ⟨a, xs, e1, h1, h2⟩ := h
    subst e1
    exact .lst (SqL.of h1) (RepL.dp _ ps i.2 h2)
  | x, _, .dic _ _ _, h, _ => by simp only [okn] at h; cases h
  | x, _, .obj _ _, h, _ => by simp only [okn] at h; cases h
  | x, _, .raw _, h, _ => by simp only [okn] at h; cases h
  | x, _, .fn _, h, _ => by simp only [okn] at h; cases h
  | x, _, .row, h, _ => by simp only [okn] at h; cases h
  | x, _, .rng _ _, h, _ => by simp only [okn] at h; cases h
theorem RepL.dp : ∀ {xs : List V} (n : Nat) (ps : List PV), oknL n ps = true → RepL G ro H xs ps → DpAll G.K H xs (pdL ps)
  | xs, _, [], _, h => by simp only [RepL] at h; subst h; exact .nil
  | xs, n, p :: ps, i, h => by
    simp only [oknL, Bool.and_eq_true] at i
    simp only [RepL] at h
    obtain ⟨y, ys, e1, h1, h2⟩ := h
    subst e1
    exact .cons (Rep.dp n p i.1 h1) (RepL.dp n ps i.2 h2)
end
theorem RepL.ints : ∀ {ns : List Int} {xs : List V}, RepL G ro H xs (ns.map PV.int) → xs = ns.map V.int
  | [], xs, h => by simpa only [List.map_nil, RepL] using h
  | n :: ns, xs, h => by
    simp only [List.map_cons, RepL, Rep] at h
    obtain ⟨y, ys, e, e2, h2⟩ := h
    rw [e, e2, h2.ints, List.map_cons]
theorem RepL.of_ints : ∀ {ns : List Int}, RepL G ro H (ns.map V.int) (ns.map PV.int)
  | [] => .nil
  | n :: ns => .cons (by simp [Rep]) RepL.of_ints
theorem RepL.bools : ∀ {ns : List Bool} {xs : List V}, RepL G ro H xs (ns.map PV.bl) → xs = ns.map V.bl
  | [], xs, h => by simpa only [List.map_nil, RepL] using h
  | n :: ns, xs, h => by
    simp only [List.map_cons, RepL, Rep] at h
    obtain ⟨y, ys, e, e2, h2⟩ := h
    rw [e, e2, h2.bools, List.map_cons]
theorem RepL.strs : ∀ {ns : List Str} {xs : List V}, RepL G ro H xs (ns.map PV.str) → xs = ns.map V.str
  | [], xs, h => by simpa only [List.map_nil, RepL] using h
  | n :: ns, xs, h => by
    simp only [List.map_cons, RepL, Rep] at h
    obtain ⟨y, ys, e, e2, h2⟩ := h
    rw [e, e2, h2.strs, List.map_cons]
theorem RepL.of_strs : ∀ {ns : List Str}, RepL G ro H (ns.map V.str) (ns.map PV.str)
  | [] => .nil
  | n :: ns => .cons (by simp [Rep]) RepL.of_strs
end

def addP : PV → PV → Option PV
  | .int a, .int b => some (.int (a + b))
  | .str a, .str b => if fits (a.length + b.length) = true then some (.str (a ++ b)) else none
  | .lst a, .lst b => if fits (a.length + b.length) = true then some (.lst (a ++ b)) else none
  | .tup a, .tup b => if fits (a.length + b.length) = true then some (.tup (a ++ b)) else none
  | _, _ => none
def subP : PV → PV → Option PV
  | .int a, .int b => some (.int (a - b))
  | _, _ => none
def mulP : PV → PV → Option PV
  | .int a, .int b => if decide (-(2 ^ 64) < a ∧ a < 2 ^ 64) = true then some (.int (a * b)) else none
  | _, _ => none
def divP : PV → PV → Option PV
  | .int a, .int b => if decide (0 < b ∧ b < 1073741824) = true then some (.int (a / b)) else none
  | _, _ => none
def modP : PV → PV → Option PV
  | .int a, .int b => if decide (0 < b) = true then some (.int (a % b)) else none
  | _, _ => none
def powP : PV → PV → Option PV
  | .int a, .int b => if decide (0 ≤ b ∧ b ≤ 100 ∧ a.natAbs < 2 ^ 64) = true then some (.int (a ^ b.toNat)) else none
  | _, _ => none
def negP : PV → Option PV
  | .int a => some (.int (-a))
  | _ => none
def binP : Operator → PV → PV → Option PV
  | .Add => addP | .Sub => subP | .Mult => mulP | .FloorDiv => divP | .Mod => modP | .Pow => powP
  | _ => fun _ _ => none

section
variable {X : Cx} {G : Pg} {k : Nat}
theorem op_addP (hX : XG G k X) : OpR X (binaryOp .Add) (rP2 G addP) := by
  rintro pins s σ H x y v u Q I rx ry ⟨ro, Hv, p, q, z, le, hp, hq, e, res⟩
  unfold addP at e
  split at e
  · cases e
    simp only [Rep] at hp hq
    subst hp; subst hq
    exact op_add pins s σ H _ _ v u Q I rx ry ⟨_, _, rfl, rfl, res.flat rfl⟩
  · split at e
    · rename_i hf
      cases e
      simp only [Rep] at hp hq
      subst hp; subst hq
      exact op_add_str pins s σ H _ _ v u Q I rx ry ⟨_, _, rfl, rfl, fits_ok hf, res.flat rfl⟩
    · cases e
  · split at e
    · rename_i hf
      cases e
      simp only [Rep] at hp hq
      obtain ⟨a1, xs, rfl, h1, h2⟩ := hp
      obtain ⟨a2, ys, rfl, h3, h4⟩ := hq
      refine op_cat pins s σ H _ _ v u Q I rx ry ⟨a1, a2, xs, ys, rfl, rfl, le _ _ h1 (by intro ps z; cases z), le _ _ h3 (by intro ps z; cases z), ?_, ?_⟩
      · rw [h2.length, h4.length]; exact fits_ok hf
      · exact Res.lst res le (h2.append h4)
    · cases e
  · split at e
    · rename_i hf
      cases e
      simp only [Rep] at hp hq
      obtain ⟨a1, xs, rfl, h1, h2⟩ := hp
      obtain ⟨a2, ys, rfl, h3, h4⟩ := hq
      refine op_catA pins s σ H _ _ v u Q I rx ry ⟨a1, a2, xs, ys, rfl, rfl, hX.K ▸ le.sqT h1, hX.K ▸ le.sqT h3, ?_, ?_, ?_, ?_⟩
      · rw [h2.length, h4.length]; exact fits_ok hf
      · intro hx
        have hl := h2.length
        rw [hx] at hl
        obtain rfl := List.eq_nil_of_length_eq_zero hl.symm
        refine Res.at res le ?_
        simp only [Rep, List.nil_append]
        exact ⟨a2, ys, rfl, h3, h4⟩
      · intro _ hy
        have hl := h4.length
        rw [hy] at hl
        obtain rfl := List.eq_nil_of_length_eq_zero hl.symm
        refine Res.at res le ?_
        simp only [Rep, List.append_nil]
        exact ⟨a1, xs, rfl, h1, h2⟩
      · intro _ _
        exact Res.tup res le (h2.append h4)
    · cases e
  · cases e
theorem op_int {f : PV → PV → Option PV} {F : Value → Value → Sem Value} {C : Int → Int → Prop} {g : Int → Int → PV} (hf : ∀ a b, flat (g a b) = true) (op : OpR X F (rI C fun i j => flatV (g i j)))
    (h : ∀ p q r, f p q = some r → ∃ a b, p = .int a ∧ q = .int b ∧ C a b ∧ r = g a b) : OpR X F (rP2 G f) := by
  rintro pins s σ H x y v u Q I rx ry ⟨ro, Hv, p, q, z, le, hp, hq, e, res⟩
  obtain ⟨a, b, rfl, rfl, c, rfl⟩ := h _ _ _ e
  simp only [Rep] at hp hq
  subst hp; subst hq
  exact op pins s σ H _ _ v u Q I rx ry ⟨_, _, rfl, rfl, c, res.flat (hf _ _)⟩
theorem rI0_rI {X : Cx} {F : Value → Value → Sem Value} {g : Int → Int → V} (h : OpR X F (rI0 g)) : OpR X F (rI (fun _ _ => True) g) := by
  rintro pins s σ H x y v u Q I rx ry ⟨i, j, e1, e2, _, q⟩
  exact h pins s σ H x y v u Q I rx ry ⟨i, j, e1, e2, q⟩
theorem op_subP : OpR X (binaryOp .Sub) (rP2 G subP) := by
  refine op_int (g := fun a b => .int (a - b)) (C := fun _ _ => True) (fun _ _ => rfl) (rI0_rI op_sub) fun p q r e => ?_
  unfold subP at e
  split at e
  · cases e; exact ⟨_, _, rfl, rfl, trivial, rfl⟩
  · cases e
theorem op_mulP : OpR X (binaryOp .Mult) (rP2 G mulP) := by
  refine op_int (g := fun a b => .int (a * b)) (C := CMul) (fun _ _ => rfl) op_mul fun p q r e => ?_
  unfold mulP at e
  split at e
  · split at e
    · rename_i hc
      cases e; exact ⟨_, _, rfl, rfl, .inl (of_decide_eq_true hc), rfl⟩
    · cases e
  · cases e
theorem op_divP : OpR X (binaryOp .FloorDiv) (rP2 G divP) := by
  refine op_int (g := fun a b => .int (a / b)) (C := CDiv) (fun _ _ => rfl) op_fdiv fun p q r e => ?_
  unfold divP at e
  split at e
  · split at e
    · rename_i hc
      have hc' := of_decide_eq_true hc
      cases e; exact ⟨_, _, rfl, rfl, hc', rfl⟩
    · cases e
  · cases e
theorem op_modP : OpR X (binaryOp .Mod) (rP2 G modP) := by
  refine op_int (g := fun a b => .int (a % b)) (C := fun _ b => 0 < b) (fun _ _ => rfl) op_mod fun p q r e => ?_
  unfold modP at e
  split at e
  · split at e
    · rename_i hc
      have hc' := of_decide_eq_true hc
      cases e; exact ⟨_, _, rfl, rfl, hc', rfl⟩
    · cases e
  · cases e
theorem op_powP : OpR X (binaryOp .Pow) (rP2 G powP) := by
  refine op_int (g := fun a b => .int (a ^ b.toNat)) (C := CPow) (fun _ _ => rfl) op_pow fun p q r e => ?_
  unfold powP at e
  split at e
  · split at e
    · rename_i hc
      obtain ⟨c1, c2, c3⟩ := of_decide_eq_true hc
      cases e; exact ⟨_, _, rfl, rfl, ⟨c1, by omega, c3⟩, rfl⟩
    · cases e
  · cases e
theorem op_binP (hX : XG G k X) : ∀ op, OpR X (binaryOp op) (rP2 G (binP op))
  | .Add => op_addP hX
  | .Sub => op_subP
  | .Mult => op_mulP
  | .FloorDiv => op_divP
  | .Mod => op_modP
  | .Pow => op_powP
  | .Div => fun _ _ _ _ _ _ _ _ _ _ _ _ ⟨_, _, _, _, _, _, _, _, e, _⟩ => nomatch e
  | .LShift => fun _ _ _ _ _ _ _ _ _ _ _ _ ⟨_, _, _, _, _, _, _, _, e, _⟩ => nomatch e
  | .RShift => fun _ _ _ _ _ _ _ _ _ _ _ _ ⟨_, _, _, _, _, _, _, _, e, _⟩ => nomatch e
  | .BitOr => fun _ _ _ _ _ _ _ _ _ _ _ _ ⟨_, _, _, _, _, _, _, _, e, _⟩ => nomatch e
  | .BitXor => fun _ _ _ _ _ _ _ _ _ _ _ _ ⟨_, _, _, _, _, _, _, _, e, _⟩ => nomatch e
  | .BitAnd => fun _ _ _ _ _ _ _ _ _ _ _ _ ⟨_, _, _, _, _, _, _, _, e, _⟩ => nomatch e
  | .MatMult => fun _ _ _ _ _ _ _ _ _ _ _ _ ⟨_, _, _, _, _, _, _, _, e, _⟩ => nomatch e
theorem un_negP : UnR X (unaryOp .USub) (rP1 G negP) := by
  rintro pins s σ H x v Q I rx ⟨ro, Hv, p, z, le, hp, e, res⟩
  unfold negP at e
  split at e
  · cases e
    simp only [Rep] at hp
    subst hp
    exact un_neg pins s σ H _ v Q I rx ⟨_, rfl, res.flat rfl⟩
  · cases e
end

def eqB (p q : PV) : Option Bool := if (okn 60 p && okn 60 q) = true then some (PyData.eqv (pd p) (pd q)) else none
def eqP (p q : PV) : Option PV := (eqB p q).map .bl
def neP (p q : PV) : Option PV := (eqB p q).map fun b => .bl (!b)
def ltB : PV → PV → Option Bool
  | .int a, .int b => some (decide (a < b))
  | .str a, .str b => some (decide (a.cps.toList < b.cps.toList))
  | _, _ => none
def ltP : PV → PV → Option PV
  | .int a, .int b => some (.bl (decide (a < b)))
  | _, _ => none
def leP : PV → PV → Option PV
  | .int a, .int b => some (.bl (decide (a ≤ b)))
  | _, _ => none
def gtP : PV → PV → Option PV
  | .int a, .int b => some (.bl (decide (b < a)))
  | _, _ => none
def geP : PV → PV → Option PV
  | .int a, .int b => some (.bl (decide (b ≤ a)))
  | _, _ => none
def isNon : PV → Bool
  | .non => true
  | _ => false
def isP : PV → PV → Option PV
  | .raw _, _ => none
  | p, .non => some (.bl (isNon p))
  | .bl a, .bl b => some (.bl (decide (a = b)))
  | _, _ => none
def isntP : PV → PV → Option PV
  | .raw _, _ => none
  | p, .non => some (.bl (!isNon p))
  | .bl a, .bl b => some (.bl (!decide (a = b)))
  | _, _ => none
def anyEq (p : PV) : List PV → Bool
  | [] => false
  | q :: qs => PyData.eqv (pd q) (pd p) || anyEq p qs
def look {κ : Type} [DecidableEq κ] (k : κ) : List κ → List PV → Option PV
  | a :: as, v :: vs => if a = k then some v else look k as vs
  | _, _ => none
def dget (b : Bool) (ks vs : List PV) (p : PV) : Option (Option PV) :=
  match b with
  | false => match keyOf p, keysOf ks with
    | some k, some ks' => some (look k ks' vs)
    | _, _ => none
  | true => match tkeyOf p, tkeysOf ks with
    | some k, some ks' => some (look k ks' vs)
    | _, _ => none
def inB (p : PV) : PV → Option Bool
  | .lst qs => if (okn 50 p && oknL 50 qs) = true then some (anyEq p qs) else none
  | .tup qs => if (okn 50 p && oknL 50 qs) = true then some (anyEq p qs) else none
  | .dic b ks vs => (dget b ks vs p).map (·.isSome)
  | .str t => match p with
    | .str s => some (!(Builtin.Str.occurrences t s 0 t.length 1).isEmpty)
    | _ => none
  | _ => none
def inP (p q : PV) : Option PV := (inB p q).map .bl
def ninP (p q : PV) : Option PV := (inB p q).map fun b => .bl (!b)
def cmpP : CmpOp → PV → PV → Option PV
  | .Eq => eqP | .NotEq => neP | .Lt => ltP | .LtE => leP | .Gt => gtP | .GtE => geP
  | .Is => isP | .IsNot => isntP | .In => inP | .NotIn => ninP

section
variable {X : Cx} {G : Pg} {k : Nat}
theorem Room.u64 (r : Room k X.A) : X.A.units + 64 < cLine := r.units
theorem Room.u65 (r : Room k X.A) : X.A.units + 65 < cLine := by have := r.un; omega
theorem op_eqP (hX : XG G k X) : OpR X (compareOp .Eq) (rP2 G eqP) := by
  rintro pins s σ H x y v u Q I rx ry ⟨ro, Hv, p, q, z, le, hp, hq, e, res⟩
  unfold eqP eqB at e
  split at e
  · rename_i hc
    simp only [Bool.and_eq_true] at hc
    cases e
    exact op_eqD hX.room.units pins s σ H _ _ v u Q I rx ry ⟨_, _, hX.K ▸ Rep.dp _ _ hc.1 (hp.mono le), hX.K ▸ Rep.dp _ _ hc.2 (hq.mono le), okn_shaped hc.1, okn_shaped hc.2, res.flat rfl⟩
  · cases e
theorem op_neP (hX : XG G k X) : OpR X (compareOp .NotEq) (rP2 G neP) := by
  rintro pins s σ H x y v u Q I rx ry ⟨ro, Hv, p, q, z, le, hp, hq, e, res⟩
  unfold neP eqB at e
  split at e
  · rename_i hc
    simp only [Bool.and_eq_true] at hc
    cases e
    exact op_neD hX.room.units pins s σ H _ _ v u Q I rx ry ⟨_, _, hX.K ▸ Rep.dp _ _ hc.1 (hp.mono le), hX.K ▸ Rep.dp _ _ hc.2 (hq.mono le), okn_shaped hc.1, okn_shaped hc.2, res.flat rfl⟩
  · cases e
theorem op_ltP' : OpR X (compareOp .Lt) (rP2 G ltP) := by
  refine op_int (g := fun a b => .bl (decide (a < b))) (C := fun _ _ => True) (fun _ _ => rfl) (rI0_rI op_lt) fun p q r e => ?_
  unfold ltP at e
  split at e
  · cases e; exact ⟨_, _, rfl, rfl, trivial, rfl⟩
  · cases e
theorem op_leP : OpR X (compareOp .LtE) (rP2 G leP) := by
  refine op_int (g := fun a b => .bl (decide (a ≤ b))) (C := fun _ _ => True) (fun _ _ => rfl) (rI0_rI op_le) fun p q r e => ?_
  unfold leP at e
  split at e
  · cases e; exact ⟨_, _, rfl, rfl, trivial, rfl⟩
  · cases e
theorem op_gtP : OpR X (compareOp .Gt) (rP2 G gtP) := by
  refine op_int (g := fun a b => .bl (decide (b < a))) (C := fun _ _ => True) (fun _ _ => rfl) (rI0_rI op_gt) fun p q r e => ?_
  unfold gtP at e
  split at e
  · cases e; exact ⟨_, _, rfl, rfl, trivial, rfl⟩
  · cases e
theorem op_geP : OpR X (compareOp .GtE) (rP2 G geP) := by
  refine op_int (g := fun a b => .bl (decide (b ≤ a))) (C := fun _ _ => True) (fun _ _ => rfl) (rI0_rI op_ge) fun p q r e => ?_
  unfold geP at e
  split at e
  · cases e; exact ⟨_, _, rfl, rfl, trivial, rfl⟩
  · cases e
theorem Rep.isNon {G : Pg} {ro : Option Addr} {Hv : Hp} {x : V} : ∀ {p : PV}, Rep G ro Hv x p → (∀ v, p ≠ .raw v) → decide (x = .non) = GP.isNon p
  | .non, h, _ => by simp only [Rep] at h; subst h; rfl
  | .bl b, h, _ => by simp only [Rep] at h; subst h; rfl
  | .int b, h, _ => by simp only [Rep] at h; subst h; rfl
  | .str b, h, _ => by simp only [Rep] at h; subst h; rfl
  | .tup ps, h, _ => by simp only [Rep] at h; obtain ⟨a, xs, rfl, _⟩ := h; rfl
  | .lst ps, h, _ => by simp only [Rep] at h; obtain ⟨a, xs, rfl, _⟩ := h; rfl
  | .dic false ks vs, h, _ => by simp only [Rep] at h; obtain ⟨a, xs, rfl, _⟩ := h; rfl
  | .dic true ks vs, h, _ => by simp only [Rep] at h; obtain ⟨a, xs, rfl, _⟩ := h; rfl
  | .obj t fs, h, _ => by simp only [Rep] at h; obtain ⟨a, dx, xs, rfl, _⟩ := h; rfl
  | .raw v, h, n => absurd rfl (n v)
  | .fn v, h, _ => by simp only [Rep] at h; obtain ⟨a, rfl, _⟩ := h; rfl
  | .row, h, _ => by simp only [Rep] at h; obtain ⟨a, _, rfl⟩ := h; rfl
  | .rng lo hi, h, _ => by simp only [Rep] at h; obtain ⟨a, rfl, _⟩ := h; rfl
end
end GP
-- GD
set_option maxRecDepth 100000
set_option maxHeartbeats 4000000
namespace GP
open PySem PySem.Spec PyProof.Rows L2
theorem nt_lst (xs : List V) : NoTb (.lst xs) := by intro ps z; cases z
theorem nt_tup (xs : List V) : NoTb (.tup xs) := by intro ps z; cases z
theorem nt_dK (xs : List (Key × V)) : NoTb (.dK xs) := by intro ps z; cases z
theorem nt_dT (xs : List (List Key × V)) : NoTb (.dT xs) := by intro ps z; cases z
theorem nt_ins (C dx : Addr) (fs : List (Str × V)) : NoTb (.ins C dx fs) := by intro ps z; cases z
mutual
theorem okn_mono {n m : Nat} (h : n ≤ m) : ∀ p : PV, okn n p = true → okn m p = true
  | .non, _ => by simp only [okn]
  | .bl _, _ => by simp only [okn]
  | .int _, _ => by simp only [okn]
  | .str s, e => by simpa only [okn] using e
  | .tup ps, e => by
    simp only [okn, Bool.and_eq_true, decide_eq_true_eq] at e ⊢
    exact ⟨by omega, oknL_mono (by omega) ps e.2⟩
  | .lst ps, e => by
    simp only [okn, Bool.and_eq_true, decide_eq_true_eq] at e ⊢
    exact ⟨by omega, oknL_mono (by omega) ps e.2⟩
  | .dic _ _ _, e => by simp only [okn] at e; cases e
  | .obj _ _, e => by simp only [okn] at e; cases e
  | .raw _, e => by simp only [okn] at e; cases e
  | .fn _, e => by simp only [okn] at e; cases e
  | .row, e => by simp only [okn] at e; cases e
  | .rng _ _, e => by simp only [okn] at e; cases e
theorem oknL_mono {n m : Nat} (h : n ≤ m) : ∀ ps : List PV, oknL n ps = true → oknL m ps = true
  | [], _ => by simp only [oknL]
  | p :: ps, e => by
    simp only [oknL, Bool.and_eq_true] at e ⊢
    exact ⟨okn_mono h p e.1, oknL_mono h ps e.2⟩
end
theorem anyEq_any (p : PV) : ∀ qs : List PV, anyEq p qs = (pdL qs).any fun z => PyData.eqv z (pd p)
  | [] => rfl
  | q :: qs => by
    unfold anyEq pdL
    rw [List.any_cons, anyEq_any p qs]
section
variable {G : Pg} {ro : Option Addr} {Hv : Hp} {κ : Type} [DecidableEq κ]
theorem look_val (k : κ) : ∀ (kvs : List (κ × V)) (vs : List PV), RepL G ro Hv (kvs.map (·.2)) vs →
    match look k (kvs.map (·.1)) vs with
    | some p => ∃ x, valV kvs k = some x ∧ Rep G ro Hv x p
    | none => valV kvs k = none
  | [], vs, h => by
    cases vs <;> (simp only [List.map_nil, look]; rfl)
  | kv :: kvs, [], h => by simp only [List.map_cons, RepL] at h; cases h
  | kv :: kvs, v :: vs, h => by
    simp only [List.map_cons, RepL] at h
    obtain ⟨y, ys, e, h1, h2⟩ := h
    injection e with e1 e2
    subst e1; subst e2
    simp only [List.map_cons, look]
    by_cases c : kv.1 = k
    · rw [if_pos c]
      exact ⟨kv.2, valV_pos c, h1⟩
    · rw [if_neg c]
      have ih := look_val k kvs vs h2
      revert ih
      cases look k (kvs.map (·.1)) vs with
      | none => intro ih; rw [valV_neg c]; exact ih
      | some p => rintro ⟨x, e, r⟩; exact ⟨x, by rw [valV_neg c]; exact e, r⟩
theorem keyOf_rep {p : PV} {k : Key} {x : V} (h : keyOf p = some k) (r : Rep G ro Hv x p) : x = kV k := by
  cases p <;> simp only [keyOf] at h <;> (try cases h) <;> simpa only [Rep, kV] using r
theorem keysOf_rep : ∀ {ps : List PV} {ks : List Key} {xs : List V}, keysOf ps = some ks → RepL G ro Hv xs ps → xs = ks.map kV
  | [], ks, xs, h, r => by
    simp only [keysOf] at h; cases h
    simpa only [RepL, List.map_nil] using r
  | p :: ps, ks, xs, h, r => by
    simp only [keysOf] at h
    split at h
    · rename_i k' ks' h1 h2
      cases h
      simp only [RepL] at r
      obtain ⟨y, ys, rfl, r1, r2⟩ := r
      rw [List.map_cons, ← keyOf_rep h1 r1, ← keysOf_rep h2 r2]
    · cases h
theorem keysOf_len : ∀ {ps : List PV} {ks : List Key}, keysOf ps = some ks → ks.length = ps.length
  | [], ks, h => by simp only [keysOf] at h; cases h; rfl
  | p :: ps, ks, h => by
    simp only [keysOf] at h
    split at h
    · rename_i k' ks' h1 h2
      cases h
      rw [List.length_cons, List.length_cons, keysOf_len h2]
    · cases h
theorem tkeysOf_len : ∀ {ps : List PV} {ks : List (List Key)}, tkeysOf ps = some ks → ks.length = ps.length
  | [], ks, h => by simp only [tkeysOf] at h; cases h; rfl
  | p :: ps, ks, h => by
    simp only [tkeysOf] at h
    split at h
    · rename_i k' ks' h1 h2
      cases h
      rw [List.length_cons, List.length_cons, tkeysOf_len h2]
    · cases h
end
section
variable {X : Cx} {G : Pg} {k : Nat} {pins : List (Addr × Obj)} {σ : L2.St} {H : Hp} {s : Shared} {a b : Addr}
theorem key_ofT {ks : List Key} (I : Inv X pins σ H s) (e : SqT X.K H b (ks.map kV)) : (tupleKind (mixKind X.prog X.w)).is s.heap ks b := by
  obtain ⟨its, r, ⟨o, h1, h2, n, h3⟩, _⟩ := I.tuple e
  exact ⟨o, its.toArray, n, h1, h2, h3, by simpa using items_are r⟩
def DGetA (K : PySem.W.Frag) (H : Hp) (a : Addr) (y : V) (r : Option V) : Prop :=
  DGet H a y r ∨ ∃ kvs k b, Rd H a (.dT kvs) ∧ y = .ref b ∧ SqT K H b (k.map kV) ∧ r = valV kvs k
theorem d_getItemA {Q : Value → Shared → Prop} {A : Around} {E : Value → Shared → Prop} {y v : V} {u : Value} (hu : A.units + 1 < cLine) (I : Inv X pins σ H s) (g : DGetA X.K H a y (some v)) (ry : RelV y u) (h : ∀ w' s', Inv X pins σ H s' → RelV v w' → Q w' s') :
    wpAny (model X.prog X.w) A (getItem (.ref a) u) Q E s := by
  rcases g with g | ⟨kvs, k, b, e, ey, eb, l⟩
  · exact d_getItem hu I g ry h
  · subst ey
    cases (show u = Value.ref b from ry)
    obtain ⟨z, hd, xs, rel, dd⟩ := dt_rd I.hok e
    obtain ⟨w', hw, rw'⟩ := RelO.some_of (v := v) (o := (atKey xs k).map (·.2)) (by rw [l]; exact rel.val k)
    obtain ⟨p, hp, hp2⟩ := Option.map_eq_some_iff.mp hw
    refine wpAny_getItem_heap (tupleKind_room_in1 hu) (key_ofT I eb) dd hp ?_
    rw [hp2]
    exact h w' _ (I.tok _) rw'
theorem d_inA {Q : Value → Shared → Prop} {A : Around} {E : Value → Shared → Prop} {y : V} {o : Option V} {u : Value} (hu : A.units + 1 < cLine) (I : Inv X pins σ H s) (g : DGetA X.K H a y o) (ry : RelV y u) (h : ∀ s', Inv X pins σ H s' → Q (.bool o.isSome) s') :
    wpAny (model X.prog X.w) A (compareOp .In u (.ref a)) Q E s := by
  rcases g with g | ⟨kvs, k, b, e, ey, eb, l⟩
  · exact d_in hu I g ry h
  · subst ey
    cases (show u = Value.ref b from ry)
    obtain ⟨z, hd, xs, rel, dd⟩ := dt_rd I.hok e
    refine wpAny_in_heap (tupleKind_room_in1 hu) (key_ofT I eb) hd dd ?_
    have q := (rel.val k).isSome_eq
    rw [Option.isSome_map] at q
    rw [← q, ← l]
    exact h _ (I.tok _)
theorem d_notInA {Q : Value → Shared → Prop} {A : Around} {E : Value → Shared → Prop} {y : V} {o : Option V} {u : Value} (hu : A.units + 1 < cLine) (I : Inv X pins σ H s) (g : DGetA X.K H a y o) (ry : RelV y u) (h : ∀ s', Inv X pins σ H s' → Q (.bool (!o.isSome)) s') :
    wpAny (model X.prog X.w) A (compareOp .NotIn u (.ref a)) Q E s := by
  rcases g with g | ⟨kvs, k, b, e, ey, eb, l⟩
  · exact d_notIn hu I g ry h
  · subst ey
    cases (show u = Value.ref b from ry)
    obtain ⟨z, hd, xs, rel, dd⟩ := dt_rd I.hok e
    refine wpAny_notIn_heap (tupleKind_room_in1 hu) (key_ofT I eb) hd dd ?_
    have q := (rel.val k).isSome_eq
    rw [Option.isSome_map] at q
    rw [← q, ← l]
    exact h _ (I.tok _)
theorem dget_get {ro : Option Addr} {Hv : Hp} {x y : V} {kb : Bool} {ks vs : List PV} {p : PV} {o : Option PV} (hK : X.K = G.K) (le : Le Hv H) (hx : Rep G ro Hv x (.dic kb ks vs)) (hy : Rep G ro Hv y p) (e : dget kb ks vs p = some o) :
    ∃ a, x = .ref a ∧ ((∃ q z, o = some q ∧ DGetA X.K H a y (some z) ∧ Rep G ro Hv z q) ∨ (o = none ∧ DGetA X.K H a y none)) := by
  cases kb with
  | false =>
    simp only [Rep] at hx
    obtain ⟨a, kvs, rfl, h1, h2, h3⟩ := hx
    refine ⟨a, rfl, ?_⟩
    simp only [dget] at e
    split at e
    · rename_i k ks' h4 h5
      rw [h2] at h5; cases h5
      have r := look_val k kvs vs h3
      obtain rfl := keyOf_rep h4 hy
      have e' := (Option.some.inj e).symm
      clear e
      subst e'
      revert r
      cases look k (kvs.map (·.1)) vs with
      | none => intro r; exact .inr ⟨rfl, .inl (.inl ⟨kvs, k, .inl (le _ _ h1 (nt_dK _)), rfl, r.symm⟩)⟩
      | some q => rintro ⟨z, r1, r2⟩; exact .inl ⟨q, z, rfl, .inl (.inl ⟨kvs, k, .inl (le _ _ h1 (nt_dK _)), rfl, r1.symm⟩), r2⟩
    · cases e
  | true =>
    simp only [Rep] at hx
    obtain ⟨a, kvs, rfl, h1, h2, h3⟩ := hx
    refine ⟨a, rfl, ?_⟩
    simp only [dget] at e
    split at e
    · rename_i k ks' h4 h5
      rw [h2] at h5; cases h5
      have r := look_val k kvs vs h3
      have e' := (Option.some.inj e).symm
      clear e
      subst e'
      cases p <;> simp only [tkeyOf] at h4 <;> (try cases h4)
      rename_i ps
      simp only [Rep] at hy
      obtain ⟨b, xs, rfl, hb, hr⟩ := hy
      obtain rfl := keysOf_rep h4 hr
      have hb' : SqT X.K H b (k.map kV) := hK ▸ le.sqT hb
      revert r
      cases look k (kvs.map (·.1)) vs with
      | none => intro r; exact .inr ⟨rfl, .inr ⟨kvs, k, b, .inl (le _ _ h1 (nt_dT _)), rfl, hb', r.symm⟩⟩
      | some q => rintro ⟨z, r1, r2⟩; exact .inl ⟨q, z, rfl, .inr ⟨kvs, k, b, .inl (le _ _ h1 (nt_dT _)), rfl, hb', r1.symm⟩, r2⟩
    · cases e
theorem dget_o {ro : Option Addr} {Hv : Hp} {x y : V} {kb : Bool} {ks vs : List PV} {p : PV} {o : Option PV} (hK : X.K = G.K) (le : Le Hv H) (hx : Rep G ro Hv x (.dic kb ks vs)) (hy : Rep G ro Hv y p) (e : dget kb ks vs p = some o) :
    ∃ a oV, x = .ref a ∧ DGetA X.K H a y oV ∧ oV.isSome = o.isSome := by
  obtain ⟨a, ex, ⟨q, z, rfl, h, _⟩ | ⟨rfl, h⟩⟩ := dget_get hK le hx hy e
  · exact ⟨a, some z, ex, h, rfl⟩
  · exact ⟨a, none, ex, h, rfl⟩
theorem dgetA_ty {y : V} {o : Option V} (I : Inv X pins σ H s) (g : DGetA X.K H a y o) : s.TypeIs (.ref a) "dict" := by
  rcases g with g | ⟨kvs, k, b, e, _⟩
  · exact dict_typeIs I g
  · obtain ⟨_, _, xs, _, dd⟩ := dt_rd I.hok e
    exact dd.typeIs
theorem u1 (r : Room k X.A) : X.A.units + 1 < cLine := by have := r.un; omega
theorem in_room {d : PyData} {ds : List PyData} (r : Room k X.A) (h : SeqAt.shaped d = true) : X.A.units + 1 + min (PyData.depthAll ds) d.depth < cLine := room_in_shaped h (Room.u65 r)
theorem op_inP (hX : XG G k X) : OpR X (compareOp .In) (rP2 G inP) := by
  rintro pins s σ H x y v u Q I rx ry ⟨ro, Hv, p, q, z, le, hp, hq, e, res⟩
  obtain ⟨b, eb, rfl⟩ := Option.map_eq_some_iff.mp e
  unfold inB at eb
  split at eb
  · split at eb
    · rename_i qs hc
      simp only [Bool.and_eq_true] at hc
      cases eb
      have h1 : okn 60 p = true := okn_mono (by decide) p hc.1
      simp only [Rep] at hq
      obtain ⟨a, xs, rfl, h2, h3⟩ := hq
      obtain ⟨as, r1⟩ := Dp.reads I (pd p) x v (hX.K ▸ Rep.dp _ _ h1 (hp.mono le)) rx
      obtain ⟨bs, r2⟩ := Dp.reads I (.list (pdL qs)) _ u (.lst (SqL.of (le _ _ h2 (nt_lst _))) (hX.K ▸ RepL.dp _ _ hc.2 (h3.mono le))) ry
      exact SeqAt.in_list_reads r2 r1 (oknL_can _ _ hc.2) (okn_can _ _ h1) (in_room hX.room (okn_shaped h1)) ⟨.bl _, H, I, rfl, by rw [← anyEq_any]; exact res.flat rfl⟩
    · cases eb
  · split at eb
    · rename_i qs hc
      simp only [Bool.and_eq_true] at hc
      cases eb
      have h1 : okn 60 p = true := okn_mono (by decide) p hc.1
      simp only [Rep] at hq
      obtain ⟨a, xs, rfl, h2, h3⟩ := hq
      obtain ⟨as, r1⟩ := Dp.reads I (pd p) x v (hX.K ▸ Rep.dp _ _ h1 (hp.mono le)) rx
      obtain ⟨bs, r2⟩ := Dp.reads I (.tuple (pdL qs)) _ u (.tup (hX.K ▸ le.sqT h2) (hX.K ▸ RepL.dp _ _ hc.2 (h3.mono le))) ry
      exact SeqAt.in_tuple_reads r2 r1 (oknL_can _ _ hc.2) (okn_can _ _ h1) (in_room hX.room (okn_shaped h1)) ⟨.bl _, H, I, rfl, by rw [← anyEq_any]; exact res.flat rfl⟩
    · cases eb
  · rename_i kb ks vs
    obtain ⟨o, eo, rfl⟩ := Option.map_eq_some_iff.mp eb
    obtain ⟨a, oV, rfl, g, eq⟩ := dget_o hX.K le hq hp eo
    cases (show u = Value.ref a from ry)
    exact d_inA (u1 hX.room) I g rx fun s' I' => ⟨.bl _, H, I', rfl, by rw [eq]; exact res.flat rfl⟩
  · split at eb
    · cases eb
      simp only [Rep] at hp hq
      subst hp; subst hq
      exact op_in_str pins s σ H _ _ v u Q I rx ry ⟨_, _, rfl, rfl, res.flat rfl⟩
    · cases eb
  · cases eb
theorem op_ninP (hX : XG G k X) : OpR X (compareOp .NotIn) (rP2 G ninP) := by
  rintro pins s σ H x y v u Q I rx ry ⟨ro, Hv, p, q, z, le, hp, hq, e, res⟩
  obtain ⟨b, eb, rfl⟩ := Option.map_eq_some_iff.mp e
  unfold inB at eb
  split at eb
  · split at eb
    · rename_i qs hc
      simp only [Bool.and_eq_true] at hc
      cases eb
      have h1 : okn 60 p = true := okn_mono (by decide) p hc.1
      simp only [Rep] at hq
      obtain ⟨a, xs, rfl, h2, h3⟩ := hq
      obtain ⟨as, r1⟩ := Dp.reads I (pd p) x v (hX.K ▸ Rep.dp _ _ h1 (hp.mono le)) rx
      obtain ⟨bs, r2⟩ := Dp.reads I (.list (pdL qs)) _ u (.lst (SqL.of (le _ _ h2 (nt_lst _))) (hX.K ▸ RepL.dp _ _ hc.2 (h3.mono le))) ry
      exact SeqAt.notIn_list_reads r2 r1 (oknL_can _ _ hc.2) (okn_can _ _ h1) (in_room hX.room (okn_shaped h1)) ⟨.bl _, H, I, rfl, by rw [← anyEq_any]; exact res.flat rfl⟩
    · cases eb
  · split at eb
    · rename_i qs hc
      simp only [Bool.and_eq_true] at hc
      cases eb
      have h1 : okn 60 p = true := okn_mono (by decide) p hc.1
      simp only [Rep] at hq
      obtain ⟨a, xs, rfl, h2, h3⟩ := hq
      obtain ⟨as, r1⟩ := Dp.reads I (pd p) x v (hX.K ▸ Rep.dp _ _ h1 (hp.mono le)) rx
      obtain ⟨bs, r2⟩ := Dp.reads I (.tuple (pdL qs)) _ u (.tup (hX.K ▸ le.sqT h2) (hX.K ▸ RepL.dp _ _ hc.2 (h3.mono le))) ry
      exact SeqAt.notIn_tuple_reads r2 r1 (oknL_can _ _ hc.2) (okn_can _ _ h1) (in_room hX.room (okn_shaped h1)) ⟨.bl _, H, I, rfl, by rw [← anyEq_any]; exact res.flat rfl⟩
    · cases eb
  · rename_i kb ks vs
    obtain ⟨o, eo, rfl⟩ := Option.map_eq_some_iff.mp eb
    obtain ⟨a, oV, rfl, g, eq⟩ := dget_o hX.K le hq hp eo
    cases (show u = Value.ref a from ry)
    exact d_notInA (u1 hX.room) I g rx fun s' I' => ⟨.bl _, H, I', rfl, by rw [eq]; exact res.flat rfl⟩
  · split at eb
    · cases eb
      simp only [Rep] at hp hq
      subst hp; subst hq
      exact op_notin_str pins s σ H _ _ v u Q I rx ry ⟨_, _, rfl, rfl, res.flat rfl⟩
    · cases eb
  · cases eb
theorem op_isP : OpR X (compareOp .Is) (rP2 G isP) := by
  rintro pins s σ H x y v u Q I rx ry ⟨ro, Hv, p, q, z, le, hp, hq, e, res⟩
  unfold isP at e
  split at e
  · cases e
  · rename_i hnr
    cases e
    simp only [Rep] at hq
    refine op_isN pins s σ H x y v u Q I rx ry ⟨hq, ?_⟩
    rw [Rep.isNon hp hnr]
    exact res.flat rfl
  · cases e
    simp only [Rep] at hp hq
    subst hp; subst hq
    exact op_is_bl pins s σ H _ _ v u Q I rx ry ⟨_, _, rfl, rfl, res.flat rfl⟩
  · cases e
theorem op_isntP : OpR X (compareOp .IsNot) (rP2 G isntP) := by
  rintro pins s σ H x y v u Q I rx ry ⟨ro, Hv, p, q, z, le, hp, hq, e, res⟩
  unfold isntP at e
  split at e
  · cases e
  · rename_i hnr
    cases e
    simp only [Rep] at hq
    refine op_notN pins s σ H x y v u Q I rx ry ⟨hq, ?_⟩
    rw [Rep.isNon hp hnr]
    exact res.flat rfl
  · cases e
    simp only [Rep] at hp hq
    subst hp; subst hq
    exact op_isnot_bl pins s σ H _ _ v u Q I rx ry ⟨_, _, rfl, rfl, res.flat rfl⟩
  · cases e
theorem op_cmpP (hX : XG G k X) : ∀ op, OpR X (compareOp op) (rP2 G (cmpP op))
  | .Eq => op_eqP hX
  | .NotEq => op_neP hX
  | .Lt => op_ltP'
  | .LtE => op_leP
  | .Gt => op_gtP
  | .GtE => op_geP
  | .Is => op_isP
  | .IsNot => op_isntP
  | .In => op_inP hX
  | .NotIn => op_ninP hX
end

def idxP : PV → PV → Option PV
  | .lst ps, .int i => atI ps i
  | .tup ps, .int i => atI ps i
  | .str z, .int i => if fits z.length = true then (atI z.cps.toList i).map fun c => .str ⟨#[c]⟩ else none
  | .dic b ks vs, p => (dget b ks vs p).bind id
  | _, _ => none
def cutP {α : Type} (xs : List α) (lo hi : Option Int) : List α := (xs.drop (HT.sIx xs.length 0 lo)).take (HT.sIx xs.length xs.length hi - HT.sIx xs.length 0 lo)
def slcP (p : PV) (lo hi : Option Int) : Option PV :=
  match p with
  | .lst ps => some (.lst (cutP ps lo hi))
  | .tup ps => some (.tup (cutP ps lo hi))
  | .str z => if fits z.length = true then some (.str (cutS z lo hi)) else none
  | _ => none
section
variable {X : Cx} {G : Pg} {k : Nat}
theorem RepL.atI {G : Pg} {ro : Option Addr} {H : Hp} {xs : List V} {ps : List PV} {i : Int} {p : PV} (h : RepL G ro H xs ps) (e : L2.atI ps i = some p) : ∃ x, L2.atI xs i = some x ∧ Rep G ro H x p := by
  unfold L2.atI at e ⊢
  rw [h.length]
  cases hi : ixN ps.length i with
  | none => rw [hi] at e; cases e
  | some j =>
    rw [hi] at e
    exact h.get (i := j) e
theorem RepL.cut {G : Pg} {ro : Option Addr} {H : Hp} {xs : List V} {ps : List PV} {lo hi : Option Int} (h : RepL G ro H xs ps) : RepL G ro H (cutV xs lo hi) (cutP ps lo hi) := by
  unfold cutV cutP
  rw [h.length]
  exact (h.drop _).take _
theorem ix_P (hX : XG G k X) : IxR X (rP2 G idxP) := by
  rintro value slice pins s σ H x y v u Q I rx ry ⟨ro, Hv, p, q, z, le, hp, hq, e, res⟩ hs
  unfold idxP at e
  split at e
  · simp only [Rep] at hp hq
    subst hq
    obtain ⟨a, xs, rfl, h1, h2⟩ := hp
    obtain ⟨w, e1, e2⟩ := h2.atI e
    exact ix_list value slice pins s σ H _ _ v u Q I rx ry ⟨a, xs, _, w, rfl, rfl, SqL.of (le _ _ h1 (nt_lst _)), e1, res.at le e2⟩ hs
  · simp only [Rep] at hp hq
    subst hq
    obtain ⟨a, xs, rfl, h1, h2⟩ := hp
    obtain ⟨w, e1, e2⟩ := h2.atI e
    exact ix_tup value slice pins s σ H _ _ v u Q I rx ry ⟨a, xs, _, w, rfl, rfl, hX.K ▸ le.sqT h1, e1, res.at le e2⟩ hs
  · split at e
    · rename_i hf
      obtain ⟨c, e1, rfl⟩ := Option.map_eq_some_iff.mp e
      simp only [Rep] at hp hq
      subst hp; subst hq
      exact ix_str value slice pins s σ H _ _ v u Q I rx ry ⟨_, _, c, rfl, rfl, fits_ok hf, e1, res.flat rfl⟩ hs
    · cases e
  · rename_i kb ks vs
    obtain ⟨o, e1, e2⟩ := Option.bind_eq_some_iff.mp e
    simp only [id] at e2
    subst e2
    obtain ⟨a, rfl, ⟨q', zz, e3, g, r⟩ | ⟨e3, _⟩⟩ := dget_get hX.K le hp hq e1
    · cases e3
      cases (show v = Value.ref a from rx)
      exact tail_any (dgetA_ty I g) PySem.F.slot_dict_getitem.lookup (d_getItemA (u1 hX.room) I g ry fun w' s' I' rw' => ⟨zz, H, I', rw', res.at le r⟩) hs
    · cases e3
  · cases e
end
end GP
-- GE
set_option maxRecDepth 100000
set_option maxHeartbeats 4000000
namespace GP
open PySem PySem.Spec PyProof.Rows L2

theorem perm_uniq {α : Type} {r : α → α → Prop} (anti : ∀ a b, r a b → r b a → a = b) : ∀ {l m : List α}, l.Perm m → l.Pairwise r → m.Pairwise r → l = m
  | [], m, h, _, _ => (List.Perm.eq_nil h.symm).symm
  | a :: l, [], h, _, _ => absurd h.length_eq (by simp)
  | a :: l, b :: m, h, hl, hm => by
    have e : a = b := by
      rcases List.mem_cons.mp (h.mem_iff.mp (List.mem_cons_self (a := a) (l := l))) with e | ha
      · exact e
      · rcases List.mem_cons.mp (h.mem_iff.mpr (List.mem_cons_self (a := b) (l := m))) with e | hb
        · exact e.symm
        · exact anti a b ((List.pairwise_cons.mp hl).1 b hb) ((List.pairwise_cons.mp hm).1 a ha)
    subst e
    rw [perm_uniq anti h.cons_inv (List.pairwise_cons.mp hl).2 (List.pairwise_cons.mp hm).2]
def isort (ns : List Int) : List Int := ns.mergeSort fun a b => decide (a ≤ b)
theorem isort_perm (ns : List Int) : (isort ns).Perm ns := List.mergeSort_perm _ _
theorem isort_pair (ns : List Int) : (isort ns).Pairwise (· ≤ ·) := by
  have h := List.pairwise_mergeSort (le := fun a b : Int => decide (a ≤ b)) (by intro a b c h1 h2; simp at *; omega) (by intro a b; simp; omega) ns
  exact h.imp fun h => of_decide_eq_true h
theorem isort_uniq {ns l : List Int} (h : l.Perm ns) (hs : l.Pairwise (· ≤ ·)) : l = isort ns :=
  perm_uniq (fun a b h1 h2 => Int.le_antisymm h1 h2) (h.trans (isort_perm ns).symm) hs (isort_pair ns)
def tle (a b : List Int) : Bool := !HT.lexLt b a
theorem lexLt_trans : ∀ {a b c : List Int}, HT.lexLt a b = true → HT.lexLt b c = true → HT.lexLt a c = true
  | [], [], _, h, _ => by simp [HT.lexLt] at h
  | [], _ :: _, [], _, h => by simp [HT.lexLt] at h
  | [], _ :: _, _ :: _, _, _ => rfl
  | _ :: _, [], _, h, _ => by simp [HT.lexLt] at h
  | _ :: _, _ :: _, [], _, h => by simp [HT.lexLt] at h
  | x :: xs, y :: ys, z :: zs, h1, h2 => by
    simp only [HT.lexLt] at h1 h2 ⊢
    split at h1
    · rename_i e
      subst e
      split at h2
      · rename_i e2
        rw [if_pos e2]; exact lexLt_trans h1 h2
      · rename_i e2
        rw [if_neg e2]; exact h2
    · rename_i e
      have h1 := of_decide_eq_true h1
      split at h2
      · rename_i e2
        subst e2
        rw [if_neg e]; exact decide_eq_true h1
      · have h2 := of_decide_eq_true h2
        rw [if_neg (by omega)]; exact decide_eq_true (by omega)
theorem lexLt_irrefl : ∀ (a : List Int), HT.lexLt a a = false
  | [] => rfl
  | x :: xs => by simp only [HT.lexLt, if_true]; exact lexLt_irrefl xs
theorem lexLt_total : ∀ {a b : List Int}, HT.lexLt a b = false → HT.lexLt b a = false → a = b
  | [], [], _, _ => rfl
  | [], _ :: _, h, _ => by simp [HT.lexLt] at h
  | _ :: _, [], _, h => by simp [HT.lexLt] at h
  | x :: xs, y :: ys, h1, h2 => by
    simp only [HT.lexLt] at h1 h2
    by_cases e : x = y
    · subst e
      rw [if_pos rfl] at h1 h2
      rw [lexLt_total h1 h2]
    · rw [if_neg e] at h1
      rw [if_neg (Ne.symm e)] at h2
      have h1 := of_decide_eq_false h1
      have h2 := of_decide_eq_false h2
      omega
theorem tle_total (a b : List Int) : (tle a b || tle b a) = true := by
  unfold tle
  cases h1 : HT.lexLt b a with
  | false => rfl
  | true =>
    cases h2 : HT.lexLt a b with
    | false => rfl
    | true =>
      have := lexLt_trans h1 h2
      rw [lexLt_irrefl] at this; cases this
theorem tle_trans (a b c : List Int) (h1 : tle a b = true) (h2 : tle b c = true) : tle a c = true := by
  unfold tle at *
  simp only [Bool.not_eq_true'] at *
  cases h : HT.lexLt c a with
  | false => rfl
  | true =>
    cases h3 : HT.lexLt b c with
    | true => rw [lexLt_trans h3 h] at h1; cases h1
    | false =>
      have := lexLt_total h3 h2
      subst this
      rw [h] at h1; cases h1
theorem tle_anti (a b : List Int) (h1 : tle a b = true) (h2 : tle b a = true) : a = b := by
  unfold tle at *
  simp only [Bool.not_eq_true'] at *
  exact lexLt_total h2 h1
def tsort (ns : List (List Int)) : List (List Int) := ns.mergeSort tle
theorem tsort_perm (ns : List (List Int)) : (tsort ns).Perm ns := List.mergeSort_perm _ _
theorem tsort_pair (ns : List (List Int)) : (tsort ns).Pairwise (fun a b => tle a b = true) :=
  List.pairwise_mergeSort tle_trans tle_total ns
theorem tsort_uniq {ns l : List (List Int)} (h : l.Perm ns) (hs : l.Pairwise (fun a b => tle a b = true)) : l = tsort ns :=
  perm_uniq tle_anti (h.trans (tsort_perm ns).symm) hs (tsort_pair ns)

section
variable {prog : Program} {w : World} {A : Around} {E : Value → Shared → Prop} {s : Shared}
open PySem.W in
theorem collect_tup {l : Addr} {vs : List Value} {Q : List Value → Shared → Prop} (hl : IsTup s.heap l vs.toArray)
    (h : Q vs { s with heap := (s.heap.push (seqObj "list" #[] 0)).update s.heap.objs.size (Obj.mapSeq (· ++ vs.toArray)) }) (hsz : vs.length ≤ sizeLine) :
    wpAny (model prog w) A (collect (.ref l)) Q E s := by
  obtain ⟨o, ho, hc, n, hd⟩ := id hl
  unfold collect
  refine wpAny_bind (wpAny_runValue (codeAny_builtin entry_proto_collect' ?_))
  show wpAny _ _ (do again (.builtin "list.__iadd__" ⟨[← newList [], .ref l], []⟩)) _ _ s
  refine wpAny_bind (wpAny_newList (wpAny_pure ⟨Code.quiet_builtin _ (by decide +kernel), codeAny_builtin entry_list_iadd' ?_⟩))
  show wpAny _ _ (Builtin.List.listExtendWith (.ref s.heap.objs.size) (.ref l) (.ref s.heap.objs.size)) _ _ { s with heap := s.heap.push (seqObj "list" #[] 0) }
  unfold Builtin.List.listExtendWith
  have ho' : (s.heap.push (seqObj "list" #[] 0)).get? l = some o := Heap.get?_push_of_some _ ho
  refine wpAny_bind (wpAny_typeOf (T := "tuple") ⟨o, ho', hc⟩ ?_)
  have ht : (Value.type "tuple" == Value.type "tuple") = true := by rfl
  rw [if_pos (by rw [ht]; simp)]
  refine wpAny_bind (listItems_at ho' hd ?_)
  refine wpAny_bind (listItems_at (xs := #[]) (n := 0) (Heap.get?_push_size _ rfl) rfl ?_)
  rw [if_neg (by simp)]
  refine wpAny_bind (listUpdate_at (xs := #[]) (n := 0) (Heap.get?_push_size _ rfl) rfl ?_ (Nat.zero_le _) (by show (#[] ++ vs.toArray).size ≤ sizeLine + 1; simp only [Array.size_append, List.size_toArray, List.length_nil]; omega))
  refine wpAny_pure ?_
  show wpAny (model prog w) A (do
      let o ← load s.heap.objs.size
      match o.data with
      | .seq xs _ => pure xs.toList
      | _ => unsupported "internal:collect") Q E { s with heap := (s.heap.push (seqObj "list" #[] 0)).update s.heap.objs.size (Obj.mapSeq (· ++ vs.toArray)) }
  refine wpAny_bind (wpAny_load (get?_update_seq (Heap.get?_push_size _ rfl) _) ?_)
  show wpAny _ _ (pure ((#[] : Array Value) ++ vs.toArray).toList) Q E _
  rw [show ((#[] : Array Value) ++ vs.toArray).toList = vs by simp]
  exact wpAny_pure h
open SrtO in
theorem sorted_tupO {l : Addr} {vs : List Value} {ltv : Value → Value → Bool} {Q : Value → Shared → Prop} (O : Swo ltv) (hl : IsTup s.heap l vs.toArray) (hz : vs.length ≤ sizeLine)
    (can : 2 ≤ vs.length → ∀ (h₁ : Heap) (a : Addr), h₁.get? a = some (seqObj "list" vs.toArray 0) → (∀ b o, s.heap.get? b = some o → b ≠ a ∧ h₁.get? b = some o) → SortableO prog w A.in1.in1 { s with heap := h₁ } a vs ltv)
    (fin : ∀ out : List Value, Srtd ltv out → Stb ltv out vs → Q (.ref (s.heap.objs.size + 1)) { s with heap := sortedAll s.heap vs out.toArray }) :
    wpAny (model prog w) A (call (.builtin "sorted") [.ref l]) Q E s := by
  refine Calls.call_function_entry kind_sorted plain_sorted entry_sorted (args_sorted1 _) ?_
  unfold Builtin.«sorted»
  refine wpAny_bind (m := checkCount "sorted" 1 1 _) (wpAny_pure ?_)
  refine wpAny_bind (collect_tup hl ?_ hz)
  refine wpAny_bind (wpAny_newList ?_ hz)
  generalize hg : (s.heap.push (seqObj "list" #[] 0)).update s.heap.objs.size (Obj.mapSeq (· ++ vs.toArray)) = g
  have gsz : g.objs.size = s.heap.objs.size + 1 := by rw [← hg, Heap.size_update, size_push']
  have gold : ∀ b o, s.heap.get? b = some o → g.get? b = some o := fun b o q => by
    rw [← hg, Heap.get?_update_ne _ _ _ _ (Nat.ne_of_lt (Heap.lt_size q))]
    exact Heap.get?_push_of_some _ q
  have at_ : (g.push (seqObj "list" vs.toArray 0)).get? (s.heap.objs.size + 1) = some (seqObj "list" vs.toArray 0) := by
    rw [← gsz]; exact Heap.get?_push_size _ rfl
  have old : ∀ b o, s.heap.get? b = some o → b ≠ s.heap.objs.size + 1 ∧ (g.push (seqObj "list" vs.toArray 0)).get? b = some o := fun b o q =>
    ⟨Nat.ne_of_lt (Nat.lt_succ_of_lt (Heap.lt_size q)), Heap.get?_push_of_some _ (gold b o q)⟩
  show wpAny _ _ _ _ _ { s with heap := g.push (seqObj "list" vs.toArray 0) }
  rw [gsz]
  refine wpAny_bind (wpAny_holding (wpAny_call_entry slot_list_sort ⟨_, at_, rfl⟩ entry_list_sort (list_sort_ord O at_ hz (fun h2 => can h2 _ _ at_ old) fun out hs hb => ⟨_, rfl, ?_⟩) (args_list_sort _)))
  have e := fin out hs hb
  unfold sortedAll at e
  rw [hg] at e
  exact wpAny_pure ⟨_, rfl, e⟩

def tkey (h : Heap) (v : Value) : List Int := match v with
  | .ref a => match h.get? a with
    | some o => match o.data with
      | .seq xs _ => xs.toList.map SrtO.iv
      | _ => []
    | none => []
  | _ => []
def TupAt (h : Heap) (v : Value) (ns : List Int) : Prop := ∃ a its, v = .ref a ∧ IsTup h a its.toArray ∧ IntsAre its ns
theorem TupAt.key {h : Heap} {v : Value} {ns : List Int} (t : TupAt h v ns) : tkey h v = ns := by
  obtain ⟨a, its, rfl, ⟨o, ho, _, n, hd⟩, hi⟩ := t
  unfold tkey
  simp only [ho, hd]
  exact SrtO.iv_ints hi
theorem TupAt.keeps {h h' : Heap} {v : Value} {ns : List Int} (t : TupAt h v ns) (k : ∀ b o, h.get? b = some o → o.cls = .type "tuple" → h'.get? b = some o) : TupAt h' v ns := by
  obtain ⟨a, its, e, ⟨o, ho, hc, r⟩, hi⟩ := t
  exact ⟨a, its, e, ⟨o, k a o ho hc, hc, r⟩, hi⟩
theorem tupItems_ints : ∀ {its : List Value} {ns : List Int} (i : Nat), IntsAre its ns → tupItems (fun _ => false) i its = some (ns.map Sum.inl)
  | _, _, i, .nil => rfl
  | _, _, i, .cons n t r => by
    simp only [tupItems, Bool.false_eq_true, if_false, tupItems_ints (i + 1) r, Option.map_some, List.map_cons]
theorem TupAt.tupKey {h : Heap} {v : Value} {ns : List Int} (t : TupAt h v ns) : tupKey h (fun _ => false) v = some (ns.map Sum.inl) := by
  obtain ⟨a, its, rfl, ⟨o, ho, _, n, hd⟩, hi⟩ := t
  simp only [PyProof.Rows.tupKey, ho, hd]
  exact tupItems_ints 0 hi
theorem lex_inl : ∀ as bs : List Int, lexLt itemOrd (as.map Sum.inl) (bs.map Sum.inl) = HT.lexLt as bs
  | [], [] => rfl
  | [], _ :: _ => rfl
  | _ :: _, [] => rfl
  | x :: xs, y :: ys => by
    simp only [List.map_cons, HT.lexLt_cons]
    by_cases e : x = y
    · subst e
      rw [lex_self, if_pos rfl]; exact lex_inl xs ys
    · rw [lex_diff (O := itemOrd) (x := Sum.inl x) (y := Sum.inl y) (fun z => e (Sum.inl.inj z)), if_neg e]
      rfl
def tlt (h : Heap) (v u : Value) : Bool := HT.lexLt (tkey h v) (tkey h u)
theorem swo_tlt (h : Heap) : SrtO.Swo (tlt h) := by
  refine ⟨fun x y e => ?_, fun x y z h1 h2 => ?_⟩
  · unfold tlt at *
    cases q : HT.lexLt (tkey h y) (tkey h x) with
    | false => rfl
    | true => have := lexLt_trans e q; rw [lexLt_irrefl] at this; cases this
  · unfold tlt at *
    have a := tle_trans (tkey h x) (tkey h y) (tkey h z)
    unfold tle at a
    simp only [Bool.not_eq_true'] at a
    exact a h1 h2
end
section
variable {prog : Program} {w : World} {A : Around} {E : Value → Shared → Prop} {s : Shared}
theorem tups_sortable {a : Addr} {vs : List Value} (h2 : 2 ≤ vs.length) (hp : ∀ v ∈ vs, ∃ n ns, TupAt s.heap v (n :: ns)) (ha : ∀ o, s.heap.get? a = some o → o.cls ≠ .type "tuple") : SrtO.SortableO prog w A s a vs (tlt s.heap) := by
  intro h' keep
  have hp' : ∀ v ∈ vs, ∃ n ns, TupAt h' v (n :: ns) ∧ tkey s.heap v = n :: ns := fun v hm => by
    obtain ⟨n, ns, t⟩ := hp v hm
    exact ⟨n, ns, t.keeps fun b o e c => keep b o (fun z => by subst z; exact ha o e c) e, t.key⟩
  obtain ⟨fs, hf⟩ : ∃ fs, TupsOf h' (fun _ => false) vs fs ∧ fs.length = vs.length := by
    clear h2
    induction vs with
    | nil => exact ⟨[], .nil, rfl⟩
    | cons v vs ih =>
      obtain ⟨fs, h1, h2⟩ := ih (fun v hm => hp v (List.mem_cons_of_mem _ hm)) (fun v hm => hp' v (List.mem_cons_of_mem _ hm))
      obtain ⟨n, ns, ⟨b, its, rfl, ⟨o, ho, hc, m, hd⟩, hi⟩, _⟩ := hp' v List.mem_cons_self
      cases hi with
      | cons n t r => exact ⟨_ :: fs, .cons ⟨b, o, _, m, rfl, ho, hc, hd, by simp, fun _ => ⟨n, t, rfl⟩, fun z => by cases z⟩ h1, by simp [h2]⟩
  refine ⟨tuples' true, fun Q E hq => tup_kind (s := { s with heap := h' }) (by omega) hf.1 hq, fun p q hm hm' => ?_⟩
  obtain ⟨n, ns, t1, k1⟩ := hp' _ hm
  obtain ⟨m, ms, t2, k2⟩ := hp' _ hm'
  refine tup_ltAt (s := { s with heap := h' }) true _ _ _ _ _ _ t1.tupKey t2.tupKey ?_
  refine ⟨rfl, ?_⟩
  show lexLt itemOrd ((n :: ns).map Sum.inl) ((m :: ms).map Sum.inl) = SrtO.lt2 (tlt s.heap) p q
  rw [lex_inl, ← k1, ← k2]
  rfl
end
end GP
-- GF
set_option maxRecDepth 100000
set_option maxHeartbeats 4000000
namespace GP
open PySem PySem.Spec PyProof.Rows L2

def intsOf : List PV → Option (List Int)
  | [] => some []
  | .int i :: ps => (intsOf ps).map (i :: ·)
  | _ => none
def boolsOf : List PV → Option (List Bool)
  | [] => some []
  | .bl i :: ps => (boolsOf ps).map (i :: ·)
  | _ => none
def strsOf : List PV → Option (List Str)
  | [] => some []
  | .str i :: ps => (strsOf ps).map (i :: ·)
  | _ => none
def tupsOf : List PV → Option (List (List Int))
  | [] => some []
  | .tup xs :: ps => match intsOf xs, tupsOf ps with
    | some ns, some nss => some (ns :: nss)
    | _, _ => none
  | _ => none
def tupI (ns : List Int) : PV := .tup (ns.map .int)
theorem intsOf_map : ∀ ns : List Int, intsOf (ns.map .int) = some ns
  | [] => rfl
  | n :: ns => by simp only [List.map_cons, intsOf, intsOf_map ns, Option.map_some]
theorem boolsOf_map : ∀ ns : List Bool, boolsOf (ns.map .bl) = some ns
  | [] => rfl
  | n :: ns => by simp only [List.map_cons, boolsOf, boolsOf_map ns, Option.map_some]
theorem strsOf_map : ∀ ns : List Str, strsOf (ns.map .str) = some ns
  | [] => rfl
  | n :: ns => by simp only [List.map_cons, strsOf, strsOf_map ns, Option.map_some]
theorem tupsOf_map : ∀ ns : List (List Int), tupsOf (ns.map tupI) = some ns
  | [] => rfl
  | n :: ns => by simp only [List.map_cons, tupI, tupsOf, intsOf_map, tupsOf_map ns]
theorem intsOf_eq : ∀ {ps : List PV} {ns : List Int}, intsOf ps = some ns → ps = ns.map .int
  | [], ns, h => by simp only [intsOf] at h; cases h; rfl
  | p :: ps, ns, h => by
    cases p <;> simp only [intsOf] at h <;> (try cases h)
    obtain ⟨l, h1, rfl⟩ := Option.map_eq_some_iff.mp h
    rw [intsOf_eq h1]; rfl
theorem boolsOf_eq : ∀ {ps : List PV} {ns : List Bool}, boolsOf ps = some ns → ps = ns.map .bl
  | [], ns, h => by simp only [boolsOf] at h; cases h; rfl
  | p :: ps, ns, h => by
    cases p <;> simp only [boolsOf] at h <;> (try cases h)
    obtain ⟨l, h1, rfl⟩ := Option.map_eq_some_iff.mp h
    rw [boolsOf_eq h1]; rfl
theorem strsOf_eq : ∀ {ps : List PV} {ns : List Str}, strsOf ps = some ns → ps = ns.map .str
  | [], ns, h => by simp only [strsOf] at h; cases h; rfl
  | p :: ps, ns, h => by
    cases p <;> simp only [strsOf] at h <;> (try cases h)
    obtain ⟨l, h1, rfl⟩ := Option.map_eq_some_iff.mp h
    rw [strsOf_eq h1]; rfl
theorem tupsOf_eq : ∀ {ps : List PV} {ns : List (List Int)}, tupsOf ps = some ns → ps = ns.map tupI
  | [], ns, h => by simp only [tupsOf] at h; cases h; rfl
  | p :: ps, ns, h => by
    cases p <;> simp only [tupsOf] at h <;> (try cases h)
    split at h
    · rename_i l ls h1 h2
      cases h
      rw [tupsOf_eq h2, intsOf_eq h1]; rfl
    · cases h

def sortL (ps : List PV) : Option (List PV) :=
  match intsOf ps with
  | some ns => some ((isort ns).map .int)
  | none => match tupsOf ps with
    | some nss => if (decide (nss.length < 2) || nss.all fun n => !n.isEmpty) = true then some ((tsort nss).map tupI) else none
    | none => none
def sortedP : List PV → Option PV
  | [.lst ps] => (sortL ps).map .lst
  | [.tup ps] => (sortL ps).map .lst
  | [.dic false ks _] => match intsOf ks with
    | some ns => if decide (ns.length < 64) = true then some (.lst ((isort ns).map .int)) else none
    | none => none
  | _ => none
section
variable {X : Cx} {G : Pg} {k : Nat} {pins : List (Addr × Obj)} {σ : L2.St} {H Hv : Hp} {s : Shared} {ro : Option Addr}
theorem tupAt_of {ns : List Int} {x : V} {v : Value} (I : Inv X pins σ H s) (hK : X.K = G.K) (le : Le Hv H) (r : Rep G ro Hv x (tupI ns)) (rv : RelV x v) : TupAt s.heap v ns ∧ backV v = x := by
  unfold tupI at r
  simp only [Rep] at r
  obtain ⟨a, xs, rfl, h1, h2⟩ := r
  cases (show v = Value.ref a from rv)
  rw [h2.ints] at h1
  obtain ⟨its, r1, r2, _⟩ := I.tuple (hK ▸ le.sqT h1)
  exact ⟨⟨a, its, rfl, r2, r1.ints⟩, rfl⟩
theorem tups_at (I : Inv X pins σ H s) (hK : X.K = G.K) (le : Le Hv H) : ∀ {nss : List (List Int)} {xs : List V} {its : List Value}, RepL G ro Hv xs (nss.map tupI) → Vals xs its →
    its.map (tkey s.heap) = nss ∧ ∀ v ∈ its, TupAt s.heap v (tkey s.heap v) ∧ Rep G ro Hv (backV v) (tupI (tkey s.heap v)) ∧ ∃ a, v = .ref a
  | [], xs, its, h, r => by
    simp only [List.map_nil, RepL] at h
    subst h
    cases r
    exact ⟨rfl, fun v hv => absurd hv (by simp)⟩
  | ns :: nss, xs, its, h, r => by
    simp only [List.map_cons, RepL] at h
    obtain ⟨y, ys, rfl, h1, h2⟩ := h
    cases r with
    | @cons _ u _ us r1 r2 =>
      obtain ⟨e, f⟩ := tups_at I hK le h2 r2
      obtain ⟨t, b⟩ := tupAt_of I hK le h1 r1
      have tk := t.key
      refine ⟨by rw [List.map_cons, tk, e], fun v hv => ?_⟩
      rcases List.mem_cons.mp hv with rfl | hv
      · rw [tk, b]
        refine ⟨t, h1, ?_⟩
        obtain ⟨a, _, e, _⟩ := t
        exact ⟨a, e⟩
      · exact f v hv
theorem RepL.of_mem {ys : List V} {f : V → PV} (h : ∀ y ∈ ys, Rep G ro Hv y (f y)) : RepL G ro Hv ys (ys.map f) := by
  induction ys with
  | nil => exact .nil
  | cons y ys ih => exact .cons (h y List.mem_cons_self) (ih fun z hz => h z (List.mem_cons_of_mem _ hz))
theorem sort_fin {P : Program} {w : World} {Q : VK} {ps : List PV} {its : List Value} {xs : List V} {a : Addr} (hP : X.prog = P) (hw : X.w = w) (hK : X.K = G.K) (I : Inv X pins σ H s) (le : Le Hv H) (hr : RepL G ro Hv xs ps) (rv : Vals xs its)
    (ha : s.heap.IsList a its.toArray ∨ IsTup s.heap a its.toArray) (hz : xs.length ≤ sizeLine) {qs : List PV} (e : sortL ps = some qs) (res : Res G ro Hv H Q (.lst qs)) :
    wpAny (model P w) X.A (call (.builtin "sorted") [.ref a]) (EP X pins σ Q) X.xe s := by
  subst hP hw
  have hzi : its.length ≤ sizeLine := by rw [← rv.length]; exact hz
  have go : ∀ {ltv : Value → Value → Bool}, SrtO.Swo ltv →
      (2 ≤ its.length → ∀ (h₁ : Heap) (a : Addr), h₁.get? a = some (seqObj "list" its.toArray 0) → (∀ b o, s.heap.get? b = some o → b ≠ a ∧ h₁.get? b = some o) → SrtO.SortableO X.prog X.w X.A.in1.in1 { s with heap := h₁ } a its ltv) →
      (∀ out : List Value, SrtO.Srtd ltv out → SrtO.Stb ltv out its → ∃ ys, Vals ys out ∧ RepL G ro Hv ys qs) →
      wpAny (model X.prog X.w) X.A (call (.builtin "sorted") [.ref a]) (EP X pins σ Q) X.xe s := by
    intro ltv O can out
    have fin : ∀ o : List Value, SrtO.Srtd ltv o → SrtO.Stb ltv o its → EP X pins σ Q (.ref (s.heap.objs.size + 1)) { s with heap := sortedAll s.heap its o.toArray } := by
      intro o h1 h2
      obtain ⟨ys, v1, v2⟩ := out o h1 h2
      obtain ⟨ep, he'⟩ := PyProof.Rows.sortedAll_at s.heap its o.toArray
      have hlen : ys.length ≤ sizeLine := by rw [v1.length, h2.perm.length_eq]; exact hzi
      exact ⟨.ref _, upd H (s.heap.objs.size + 1) (.lst ys), I.laid (t' := s.toks) (fun _ _ => PyProof.Rows.sortedAll_old) (Nat.le_succ _) ⟨hlen, o, ep, v1, he'⟩, rfl, Res.lst res le v2 _ (I.hok.fresh (Nat.le_succ _))⟩
    rcases ha with ha | ha
    · exact SrtO.sorted_ord O ha hzi can fin
    · exact sorted_tupO O ha hzi can fin
  unfold sortL at e
  split at e
  · rename_i ns en
    cases e
    rw [intsOf_eq en] at hr
    rw [hr.ints] at rv
    have hi := rv.ints
    refine go SrtO.swo_int (fun h2 h₁ a' _ _ => SrtO.ints_sortable hi h2) fun out h1 h2 => ?_
    obtain ⟨k1, k2, k3⟩ := SrtO.ints_out hi h1 h2
    rw [← isort_uniq k2 k3]
    exact ⟨_, vals_of_ints k1, .of_ints⟩
  · split at e
    · rename_i nss en
      split at e
      · rename_i hc
        cases e
        rw [tupsOf_eq en] at hr
        obtain ⟨t1, t2⟩ := tups_at I hK le hr rv
        have hlen : its.length = nss.length := by rw [← t1, List.length_map]
        refine go (swo_tlt s.heap) (fun h2 h₁ a' ha' kk => ?_) fun out h1 h2 => ?_
        · have e1 : tlt s.heap = tlt s.heap := rfl
          have ns0 : ∀ v ∈ its, ∃ n ns, TupAt s.heap v (n :: ns) := fun v hv => by
            have hm : tkey s.heap v ∈ nss := by rw [← t1]; exact List.mem_map.mpr ⟨v, hv, rfl⟩
            have hne : nss.all (fun n => !n.isEmpty) = true := by
              rcases Bool.or_eq_true_iff.mp hc with z | z
              · have z := of_decide_eq_true z; omega
              · exact z
            have := List.all_eq_true.mp hne _ hm
            have t := (t2 v hv).1
            cases e : tkey s.heap v with
            | nil => rw [e] at this; cases this
            | cons n ns => rw [e] at t; exact ⟨n, ns, t⟩
          have tk : ∀ v ∈ its, tkey h₁ v = tkey s.heap v := fun v hv => ((t2 v hv).1.keeps fun b o e _ => (kk b o e).2).key
          have S := tups_sortable (prog := X.prog) (w := X.w) (A := X.A.in1.in1) (s := { s with heap := h₁ }) (a := a') h2 (fun v hv => by
            obtain ⟨n, ns, t⟩ := ns0 v hv
            exact ⟨n, ns, t.keeps fun b o e _ => (kk b o e).2⟩) fun o e => by
              have e' : some o = some (seqObj "list" its.toArray 0) := e.symm.trans ha'
              cases e'
              intro c
              exact absurd (Value.type.inj c) (by decide)
          intro h' keep
          obtain ⟨κ, c1, c2⟩ := S h' keep
          refine ⟨κ, c1, fun p q hp hq => ?_⟩
          have c3 := c2 p q hp hq
          have e3 : SrtO.lt2 (tlt h₁) p q = SrtO.lt2 (tlt s.heap) p q := by
            show HT.lexLt (tkey h₁ p.1) (tkey h₁ q.1) = HT.lexLt (tkey s.heap p.1) (tkey s.heap q.1)
            rw [tk _ hp, tk _ hq]
          rw [← e3]
          exact c3
        · refine ⟨out.map backV, vals_back fun u hu => (t2 u (h2.perm.mem_iff.mp hu)).2.2, ?_⟩
          have e4 : out.map (tkey s.heap) = tsort nss := by
            refine tsort_uniq ?_ ?_
            · rw [← t1]; exact h2.perm.map _
            · refine List.pairwise_map.mpr (h1.imp fun {x y} h => ?_)
              show (!HT.lexLt (tkey s.heap y) (tkey s.heap x)) = true
              have h' : tlt s.heap y x = false := h
              unfold tlt at h'
              rw [h']; rfl
          rw [← e4, List.map_map]
          have all : ∀ v ∈ out, Rep G ro Hv (backV v) (tupI (tkey s.heap v)) := fun v hv => (t2 v (h2.perm.mem_iff.mp hv)).2.1
          clear e4 h1 h2
          induction out with
          | nil => exact .nil
          | cons v out ih => exact .cons (all v List.mem_cons_self) (ih fun z hz => all z (List.mem_cons_of_mem _ hz))
      · cases e
    · cases e
theorem cr_sortedP' (hX : XG G k X) : CallR X (.builtin "sorted") (rPL G sortedP) := by
  rintro pins s σ H xs us Q I r ⟨ro, Hv, ps, z, le, hp, e, res⟩
  unfold sortedP at e
  split at e
  · rename_i qs
    obtain ⟨l, e1, rfl⟩ := Option.map_eq_some_iff.mp e
    simp only [RepL, Rep] at hp
    obtain ⟨y, ys, rfl, ⟨a, zs, rfl, h1, h2⟩, rfl⟩ := hp
    obtain ⟨u, rfl, ru⟩ := vals1 r
    cases (show u = Value.ref a from ru)
    obtain ⟨its, rv, hl, hz⟩ := I.list (SqL.of (le _ _ h1 (nt_lst _)))
    exact sort_fin rfl rfl hX.K I le h2 rv (.inl hl.isList) hz e1 res
  · rename_i qs
    obtain ⟨l, e1, rfl⟩ := Option.map_eq_some_iff.mp e
    simp only [RepL, Rep] at hp
    obtain ⟨y, ys, rfl, ⟨a, zs, rfl, h1, h2⟩, rfl⟩ := hp
    obtain ⟨u, rfl, ru⟩ := vals1 r
    cases (show u = Value.ref a from ru)
    obtain ⟨its, rv, hl, hz⟩ := I.tuple (hX.K ▸ le.sqT h1)
    exact sort_fin rfl rfl hX.K I le h2 rv (.inr hl) hz e1 res
  · rename_i ks vs
    split at e
    · rename_i ns en
      split at e
      · rename_i hc
        cases e
        simp only [RepL, Rep] at hp
        obtain ⟨y, ys, rfl, ⟨a, kvs, rfl, h1, h2, h3⟩, rfl⟩ := hp
        have hk : kvs.map (·.1) = ns.map Sum.inl := by
          rw [intsOf_eq en] at h2
          clear h1 h3 hc en res
          have : ∀ (l : List Int), keysOf (l.map .int) = some (l.map Sum.inl) := fun l => by
            induction l with
            | nil => rfl
            | cons n l ih => simp only [List.map_cons, keysOf, keyOf, ih]
          rw [this] at h2
          exact (Option.some.inj h2).symm
        refine call_sortedDI hX.calm pins s σ H _ us Q I r ⟨a, kvs, ns, rfl, .inl (le _ _ h1 (nt_dK _)), hk, of_decide_eq_true hc, fun ys p hp1 hp2 hn => ?_⟩
        rw [isort_uniq hp1 hp2]
        exact Res.lst res le .of_ints p hn
      · cases e
    · cases e
  · cases e
end
end GP
-- GG
set_option maxRecDepth 100000
set_option maxHeartbeats 4000000
namespace GP
open PySem PySem.Spec PyProof.Rows L2
def rgI (lo hi : Int) : List Int := (List.range (hi - lo).toNat).map fun i : Nat => lo + (i : Int)
theorem rgI_rgV (lo hi : Int) : rgV lo hi = (rgI lo hi).map V.int := by
  unfold rgV rgI
  rw [List.map_map]
  rfl
def rgOk (a b : Int) : Bool := decide (-(2 ^ 62) ≤ a ∧ a < 2 ^ 62 ∧ -(2 ^ 62) ≤ b ∧ b < 2 ^ 62 ∧ (b - a).toNat ≤ 2 ^ 24)
def lenP : List PV → Option PV
  | [.lst ps] => some (.int ps.length)
  | [.tup ps] => some (.int ps.length)
  | [.str z] => if fits z.length = true then some (.int z.length) else none
  | [.dic _ ks _] => some (.int ks.length)
  | _ => none
def listP : List PV → Option PV
  | [.lst ps] => some (.lst ps)
  | [.tup ps] => some (.lst ps)
  | [.rng a b] => if rgOk a b = true then some (.lst ((rgI a b).map .int)) else none
  | [.dic false ks _] => some (.lst ks)
  | _ => none
def tupleP : List PV → Option PV
  | [.lst ps] => some (.tup ps)
  | [.tup ps] => some (.tup ps)
  | [.rng a b] => if rgOk a b = true then some (.tup ((rgI a b).map .int)) else none
  | _ => none
def maxL : List Int → Option Int
  | [] => none
  | n :: ns => some (ns.foldl max n)
def minL : List Int → Option Int
  | [] => none
  | n :: ns => some (ns.foldl min n)
def sumP : List PV → Option PV
  | [.lst ps] => (intsOf ps).map fun ns => .int ns.sum
  | _ => none
def maxP : List PV → Option PV
  | [.lst ps] => (intsOf ps).bind fun ns => (maxL ns).map .int
  | [.int a, .int b] => some (.int (if b > a then b else a))
  | _ => none
def minP : List PV → Option PV
  | [.lst ps] => (intsOf ps).bind fun ns => (minL ns).map .int
  | [.int a, .int b] => some (.int (if b < a then b else a))
  | _ => none
def allP : List PV → Option PV
  | [.lst ps] => (boolsOf ps).map fun bs => .bl (bs.all id)
  | _ => none
def anyP : List PV → Option PV
  | [.lst ps] => (boolsOf ps).map fun bs => .bl (bs.any id)
  | _ => none
def intP : List PV → Option PV
  | [.int i] => some (.int i)
  | [.bl b] => some (.int (if b then 1 else 0))
  | [.str a] => match PySem.intText? a with
    | some n => if decide (a.length ≤ 640) = true then some (.int n) else none
    | none => none
  | _ => none
def strP : List PV → Option PV
  | [.int i] => if decide (i.natAbs.log2 < 1920) = true then some (.str (toString i)) else none
  | [.str z] => some (.str z)
  | _ => none
def rangeP : List PV → Option PV
  | [.int j] => some (.rng 0 j)
  | [.int i, .int j] => some (.rng i j)
  | _ => none
def dictP : List PV → Option PV
  | [.dic false ks vs] => some (.dic false ks vs)
  | _ => none
theorem maxL_mem : ∀ {ns : List Int} {m : Int}, maxL ns = some m → m ∈ ns ∧ ∀ y ∈ ns, y ≤ m := by
  have go : ∀ (ns : List Int) (a : Int), (ns.foldl max a = a ∨ ns.foldl max a ∈ ns) ∧ a ≤ ns.foldl max a ∧ ∀ y ∈ ns, y ≤ ns.foldl max a := by
    intro ns
    induction ns with
    | nil => intro a; exact ⟨.inl rfl, Int.le_refl _, fun y h => absurd h (by simp)⟩
    | cons n ns ih =>
      intro a
      obtain ⟨h1, h2, h3⟩ := ih (max a n)
      rw [List.foldl_cons]
      refine ⟨?_, by omega, fun y hy => ?_⟩
      · rcases h1 with h1 | h1
        · rw [h1]
          by_cases c : n ≤ a
          · exact .inl (by omega)
          · exact .inr (by rw [show max a n = n by omega]; exact List.mem_cons_self)
        · exact .inr (List.mem_cons_of_mem _ h1)
      · rcases List.mem_cons.mp hy with rfl | hy
        · omega
        · exact h3 y hy
  intro ns m h
  cases ns with
  | nil => cases h
  | cons n ns =>
    simp only [maxL] at h
    cases h
    obtain ⟨h1, h2, h3⟩ := go ns n
    refine ⟨?_, fun y hy => ?_⟩
    · rcases h1 with h1 | h1
      · rw [h1]; exact List.mem_cons_self
      · exact List.mem_cons_of_mem _ h1
    · rcases List.mem_cons.mp hy with rfl | hy
      · exact h2
      · exact h3 y hy
theorem minL_mem : ∀ {ns : List Int} {m : Int}, minL ns = some m → m ∈ ns ∧ ∀ y ∈ ns, m ≤ y := by
  have go : ∀ (ns : List Int) (a : Int), (ns.foldl min a = a ∨ ns.foldl min a ∈ ns) ∧ ns.foldl min a ≤ a ∧ ∀ y ∈ ns, ns.foldl min a ≤ y := by
    intro ns
    induction ns with
    | nil => intro a; exact ⟨.inl rfl, Int.le_refl _, fun y h => absurd h (by simp)⟩
    | cons n ns ih =>
      intro a
      obtain ⟨h1, h2, h3⟩ := ih (min a n)
      rw [List.foldl_cons]
      refine ⟨?_, by omega, fun y hy => ?_⟩
      · rcases h1 with h1 | h1
        · rw [h1]
          by_cases c : a ≤ n
          · exact .inl (by omega)
          · exact .inr (by rw [show min a n = n by omega]; exact List.mem_cons_self)
        · exact .inr (List.mem_cons_of_mem _ h1)
      · rcases List.mem_cons.mp hy with rfl | hy
        · omega
        · exact h3 y hy
  intro ns m h
  cases ns with
  | nil => cases h
  | cons n ns =>
    simp only [minL] at h
    cases h
    obtain ⟨h1, h2, h3⟩ := go ns n
    refine ⟨?_, fun y hy => ?_⟩
    · rcases h1 with h1 | h1
      · rw [h1]; exact List.mem_cons_self
      · exact List.mem_cons_of_mem _ h1
    · rcases List.mem_cons.mp hy with rfl | hy
      · exact h2
      · exact h3 y hy
section
variable {X : Cx} {G : Pg} {k : Nat} {ro : Option Addr} {H Hv : Hp}
theorem rep1 {xs : List V} {p : PV} (h : RepL G ro Hv xs [p]) : ∃ x, xs = [x] ∧ Rep G ro Hv x p := by
  simp only [RepL] at h
  obtain ⟨y, ys, rfl, h1, rfl⟩ := h
  exact ⟨y, rfl, h1⟩
theorem rep2 {xs : List V} {p q : PV} (h : RepL G ro Hv xs [p, q]) : ∃ x y, xs = [x, y] ∧ Rep G ro Hv x p ∧ Rep G ro Hv y q := by
  simp only [RepL] at h
  obtain ⟨y, ys, rfl, h1, z, zs, rfl, h2, rfl⟩ := h
  exact ⟨y, z, rfl, h1, h2⟩
theorem cr_lenP (hX : XG G k X) : CallR X (.builtin "len") (rPL G lenP) := by
  rintro pins s σ H xs us Q I r ⟨ro, Hv, ps, z, le, hp, e, res⟩
  unfold lenP at e
  split at e
  · cases e
    obtain ⟨x, rfl, h⟩ := rep1 hp
    simp only [Rep] at h
    obtain ⟨a, ys, rfl, h1, h2⟩ := h
    exact call_len_seq pins s σ H _ us Q I r ⟨a, ys, rfl, .inl (SqL.of (le _ _ h1 (nt_lst _))), by rw [h2.length]; exact res.flat rfl⟩
  · cases e
    obtain ⟨x, rfl, h⟩ := rep1 hp
    simp only [Rep] at h
    obtain ⟨a, ys, rfl, h1, h2⟩ := h
    exact call_len_seq pins s σ H _ us Q I r ⟨a, ys, rfl, .inr (hX.K ▸ le.sqT h1), by rw [h2.length]; exact res.flat rfl⟩
  · split at e
    · rename_i hf
      cases e
      obtain ⟨x, rfl, h⟩ := rep1 hp
      simp only [Rep] at h
      subst h
      exact call_len_str pins s σ H _ us Q I r ⟨_, rfl, fits_ok hf, res.flat rfl⟩
    · cases e
  · rename_i kb ks vs
    cases e
    obtain ⟨x, rfl, h⟩ := rep1 hp
    cases kb with
    | false =>
      simp only [Rep] at h
      obtain ⟨a, kvs, rfl, h1, h2, h3⟩ := h
      have hl : kvs.length = ks.length := by have := keysOf_len h2; rw [List.length_map] at this; exact this
      exact call_lenD pins s σ H _ us Q I r ⟨a, kvs, rfl, le _ _ h1 (nt_dK _), by rw [hl]; exact res.flat rfl⟩
    | true =>
      simp only [Rep] at h
      obtain ⟨a, kvs, rfl, h1, h2, h3⟩ := h
      have hl : kvs.length = ks.length := by have := tkeysOf_len h2; rw [List.length_map] at this; exact this
      exact call_len_dT pins s σ H _ us Q I r ⟨a, kvs, rfl, le _ _ h1 (nt_dT _), by rw [hl]; exact res.flat rfl⟩
  · cases e
theorem keys_repL : ∀ {ks : List PV} {l : List Key}, keysOf ks = some l → RepL G ro Hv (l.map kV) ks
  | [], l, h => by simp only [keysOf] at h; cases h; exact .nil
  | p :: ps, l, h => by
    simp only [keysOf] at h
    split at h
    · rename_i k' ks' h1 h2
      cases h
      refine .cons ?_ (keys_repL h2)
      cases p <;> simp only [keyOf] at h1 <;> (try cases h1) <;> simp [Rep, kV]
    · cases h
theorem cr_listP (hX : XG G k X) : CallR X (.type "list") (rPL G listP) := by
  rintro pins s σ H xs us Q I r ⟨ro, Hv, ps, z, le, hp, e, res⟩
  unfold listP at e
  split at e
  · cases e
    obtain ⟨x, rfl, h⟩ := rep1 hp
    simp only [Rep] at h
    obtain ⟨a, ys, rfl, h1, h2⟩ := h
    exact call_list_of pins s σ H _ us Q I r ⟨a, ys, rfl, .inl (SqL.of (le _ _ h1 (nt_lst _))), Res.lst res le h2⟩
  · cases e
    obtain ⟨x, rfl, h⟩ := rep1 hp
    simp only [Rep] at h
    obtain ⟨a, ys, rfl, h1, h2⟩ := h
    exact call_list_of pins s σ H _ us Q I r ⟨a, ys, rfl, .inr (hX.K ▸ le.sqT h1), Res.lst res le h2⟩
  · rename_i a b
    split at e
    · rename_i hc
      cases e
      obtain ⟨b1, b2, b3, b4, b5⟩ := of_decide_eq_true hc
      obtain ⟨x, rfl, h⟩ := rep1 hp
      simp only [Rep] at h
      obtain ⟨r0, rfl, h1⟩ := h
      obtain ⟨u, rfl, ru⟩ := vals1 r
      cases (show u = Value.ref r0 from ru)
      obtain ⟨t, u, v, hr⟩ := I.hok r0 _ (le _ _ h1 (by intro ps z; cases z))
      refine call_list_range (n := (b - a).toNat) (I.ok.hd hX.calm) hr (small_one b1 b2 b3 b4) (rangeSize_nat a b) b5 fun h' tk acc c' hk e' hi => ?_
      refine ⟨.ref s.heap.objs.size, upd H s.heap.objs.size (.lst (rgV a b)), I.laid hk (Nat.le_refl _) (show ObjOk X.prog X.w _ _ _ (.lst (rgV a b)) from ⟨?_, acc.toList, c', vals_rg hi, ?_⟩), rfl, Res.lst res le (by rw [rgI_rgV]; exact .of_ints) _ (I.hok.fresh (Nat.le_refl _))⟩
      · rw [rgV_length, sizeLine_eq]; omega
      · rw [Array.toArray_toList]; exact e'
    · cases e
  · cases e
    obtain ⟨x, rfl, h⟩ := rep1 hp
    simp only [Rep] at h
    obtain ⟨a, kvs, rfl, h1, h2, h3⟩ := h
    refine call_listD hX.calm pins s σ H _ us Q I r ⟨a, kvs, rfl, .inl (le _ _ h1 (nt_dK _)), ?_⟩
    have e : (kvs.map fun kv => kV kv.1) = (kvs.map (·.1)).map kV := by rw [List.map_map]; rfl
    rw [e]
    exact Res.lst res le (keys_repL h2)
  · cases e
theorem cr_tupleP (hX : XG G k X) : CallR X (.type "tuple") (rPL G tupleP) := by
  rintro pins s σ H xs us Q I r ⟨ro, Hv, ps, z, le, hp, e, res⟩
  unfold tupleP at e
  split at e
  · cases e
    obtain ⟨x, rfl, h⟩ := rep1 hp
    simp only [Rep] at h
    obtain ⟨a, ys, rfl, h1, h2⟩ := h
    exact call_tuple_of pins s σ H _ us Q I r ⟨a, ys, rfl, .inl ⟨SqL.of (le _ _ h1 (nt_lst _)), Res.tup res le h2⟩⟩
  · cases e
    obtain ⟨x, rfl, h⟩ := rep1 hp
    have h0 := h
    simp only [Rep] at h
    obtain ⟨a, ys, rfl, h1, h2⟩ := h
    exact call_tuple_of pins s σ H _ us Q I r ⟨a, ys, rfl, .inr ⟨hX.K ▸ le.sqT h1, res.at le h0⟩⟩
  · rename_i a b
    split at e
    · rename_i hc
      cases e
      obtain ⟨b1, b2, b3, b4, b5⟩ := of_decide_eq_true hc
      obtain ⟨x, rfl, h⟩ := rep1 hp
      simp only [Rep] at h
      obtain ⟨r0, rfl, h1⟩ := h
      obtain ⟨u, rfl, ru⟩ := vals1 r
      cases (show u = Value.ref r0 from ru)
      obtain ⟨t, u, v, hr⟩ := I.hok r0 _ (le _ _ h1 (by intro ps z; cases z))
      refine call_tuple_range (n := (b - a).toNat) (I.ok.hd hX.calm) hr (small_one b1 b2 b3 b4) (rangeSize_nat a b) b5 fun h' tk acc hk hi => ?_
      have I2 : Inv X pins σ H { s with heap := h', toks := tk } := I.kept hk
      refine ⟨.ref h'.objs.size, upd H h'.objs.size (.tup (rgV a b)), I2.laid (t' := tk) (fun c o e => Heap.get?_push_of_some _ e) (Nat.le_refl _) (show ObjOk X.prog X.w _ _ _ (.tup (rgV a b)) from ⟨?_, acc.toList, vals_rg hi, ?_⟩), rfl, Res.tup res le (by rw [rgI_rgV]; exact .of_ints) _ (I2.hok.fresh (Nat.le_refl _))⟩
      · rw [rgV_length, sizeLine_eq]; omega
      · rw [Array.toArray_toList]; exact IsTup.new _ _
    · cases e
  · cases e
theorem cr_sumP (hX : XG G k X) : CallR X (.builtin "sum") (rPL G sumP) := by
  rintro pins s σ H xs us Q I r ⟨ro, Hv, ps, z, le, hp, e, res⟩
  unfold sumP at e
  split at e
  · obtain ⟨ns, e1, rfl⟩ := Option.map_eq_some_iff.mp e
    rw [intsOf_eq e1] at hp
    obtain ⟨x, rfl, h⟩ := rep1 hp
    simp only [Rep] at h
    obtain ⟨a, ys, rfl, h1, h2⟩ := h
    rw [h2.ints] at h1
    exact cr_sum hX.calm pins s σ H _ us Q I r ⟨a, ns, rfl, SqL.of (le _ _ h1 (nt_lst _)), res.flat rfl⟩
  · cases e
theorem cr_maxP (hX : XG G k X) : CallR X (.builtin "max") (rPL G maxP) := by
  rintro pins s σ H xs us Q I r ⟨ro, Hv, ps, z, le, hp, e, res⟩
  unfold maxP at e
  split at e
  · obtain ⟨ns, e1, e2⟩ := Option.bind_eq_some_iff.mp e
    obtain ⟨m, e3, rfl⟩ := Option.map_eq_some_iff.mp e2
    rw [intsOf_eq e1] at hp
    obtain ⟨x, rfl, h⟩ := rep1 hp
    simp only [Rep] at h
    obtain ⟨a, ys, rfl, h1, h2⟩ := h
    rw [h2.ints] at h1
    obtain ⟨m1, m2⟩ := maxL_mem e3
    refine cr_max hX.calm pins s σ H _ us Q I r ⟨a, ns, rfl, SqL.of (le _ _ h1 (nt_lst _)), ?_, fun m' m3 m4 => ?_⟩
    · cases ns with
      | nil => cases e3
      | cons => simp
    · have : m' = m := Int.le_antisymm (m2 _ m3) (m4 _ m1)
      subst this
      exact res.flat rfl
  · cases e
    obtain ⟨x, y, rfl, h1, h2⟩ := rep2 hp
    simp only [Rep] at h1 h2
    subst h1; subst h2
    exact call_max2 hX.calm pins s σ H _ us Q I r ⟨_, _, rfl, res.flat rfl⟩
  · cases e
theorem cr_minP (hX : XG G k X) : CallR X (.builtin "min") (rPL G minP) := by
  rintro pins s σ H xs us Q I r ⟨ro, Hv, ps, z, le, hp, e, res⟩
  unfold minP at e
  split at e
  · obtain ⟨ns, e1, e2⟩ := Option.bind_eq_some_iff.mp e
    obtain ⟨m, e3, rfl⟩ := Option.map_eq_some_iff.mp e2
    rw [intsOf_eq e1] at hp
    obtain ⟨x, rfl, h⟩ := rep1 hp
    simp only [Rep] at h
    obtain ⟨a, ys, rfl, h1, h2⟩ := h
    rw [h2.ints] at h1
    obtain ⟨m1, m2⟩ := minL_mem e3
    refine cr_min hX.calm pins s σ H _ us Q I r ⟨a, ns, rfl, SqL.of (le _ _ h1 (nt_lst _)), ?_, fun m' m3 m4 => ?_⟩
    · cases ns with
      | nil => cases e3
      | cons => simp
    · have : m' = m := Int.le_antisymm (m4 _ m1) (m2 _ m3)
      subst this
      exact res.flat rfl
  · cases e
    obtain ⟨x, y, rfl, h1, h2⟩ := rep2 hp
    simp only [Rep] at h1 h2
    subst h1; subst h2
    exact call_min2 hX.calm pins s σ H _ us Q I r ⟨_, _, rfl, res.flat rfl⟩
  · cases e
theorem cr_allP (hX : XG G k X) : CallR X (.builtin "all") (rPL G allP) := by
  rintro pins s σ H xs us Q I r ⟨ro, Hv, ps, z, le, hp, e, res⟩
  unfold allP at e
  split at e
  · obtain ⟨ns, e1, rfl⟩ := Option.map_eq_some_iff.mp e
    rw [boolsOf_eq e1] at hp
    obtain ⟨x, rfl, h⟩ := rep1 hp
    simp only [Rep] at h
    obtain ⟨a, ys, rfl, h1, h2⟩ := h
    rw [h2.bools] at h1
    exact cr_all hX.calm pins s σ H _ us Q I r ⟨a, ns, rfl, SqL.of (le _ _ h1 (nt_lst _)), res.flat rfl⟩
  · cases e
theorem cr_anyP (hX : XG G k X) : CallR X (.builtin "any") (rPL G anyP) := by
  rintro pins s σ H xs us Q I r ⟨ro, Hv, ps, z, le, hp, e, res⟩
  unfold anyP at e
  split at e
  · obtain ⟨ns, e1, rfl⟩ := Option.map_eq_some_iff.mp e
    rw [boolsOf_eq e1] at hp
    obtain ⟨x, rfl, h⟩ := rep1 hp
    simp only [Rep] at h
    obtain ⟨a, ys, rfl, h1, h2⟩ := h
    rw [h2.bools] at h1
    exact cr_any hX.calm pins s σ H _ us Q I r ⟨a, ns, rfl, SqL.of (le _ _ h1 (nt_lst _)), res.flat rfl⟩
  · cases e
theorem cr_intP : CallR X (.type "int") (rPL G intP) := by
  rintro pins s σ H xs us Q I r ⟨ro, Hv, ps, z, le, hp, e, res⟩
  unfold intP at e
  split at e
  · cases e
    obtain ⟨x, rfl, h⟩ := rep1 hp
    simp only [Rep] at h
    subst h
    exact call_int1 pins s σ H _ us Q I r (.inl ⟨_, rfl, res.flat rfl⟩)
  · cases e
    obtain ⟨x, rfl, h⟩ := rep1 hp
    simp only [Rep] at h
    subst h
    exact call_int1 pins s σ H _ us Q I r (.inr ⟨_, rfl, res.flat rfl⟩)
  · split at e
    · split at e
      · rename_i n e1 hc
        cases e
        obtain ⟨x, rfl, h⟩ := rep1 hp
        simp only [Rep] at h
        subst h
        exact call_int_str pins s σ H _ us Q I r ⟨_, _, rfl, e1, of_decide_eq_true hc, res.flat rfl⟩
      · cases e
    · cases e
  · cases e
theorem cr_rangeP : CallR X (.type "range") (rPL G rangeP) := by
  rintro pins s σ H xs us Q I r ⟨ro, Hv, ps, z, le, hp, e, res⟩
  have rg : ∀ {i j : Int}, Res G ro Hv H Q (.rng i j) → ∀ p, H p = none → Q (.ref p) (upd H p (.rng i j)) := fun res p hn => by
    refine res _ _ (same_upd hn) ?_
    simp only [Rep]
    exact ⟨p, rfl, plus_new hn⟩
  unfold rangeP at e
  split at e
  · cases e
    obtain ⟨x, rfl, h⟩ := rep1 hp
    simp only [Rep] at h
    subst h
    obtain ⟨u, rfl, t, rfl⟩ := vals1 r
    refine call_range_1 ⟨.ref s.heap.objs.size, upd H s.heap.objs.size (.rng 0 _), I.laid (t' := s.toks + 2) (fun b o e => Heap.get?_push_of_some _ e) (Nat.le_refl _) ?_, rfl, rg res _ (I.hok.fresh (Nat.le_refl _))⟩
    exact ⟨_, _, _, Heap.get?_push_size _ rfl⟩
  · cases e
    obtain ⟨x, y, rfl, h1, h2⟩ := rep2 hp
    simp only [Rep] at h1 h2
    subst h1; subst h2
    exact cr_range2 pins s σ H _ us Q I r ⟨_, _, rfl, rg res⟩
  · cases e
theorem cr_dictP (hX : XG G k X) : CallR X (.type "dict") (rPL G dictP) := by
  rintro pins s σ H xs us Q I r ⟨ro, Hv, ps, z, le, hp, e, res⟩
  unfold dictP at e
  split at e
  · cases e
    obtain ⟨x, rfl, h⟩ := rep1 hp
    simp only [Rep] at h
    obtain ⟨a, kvs, rfl, h1, h2, h3⟩ := h
    refine call_dictD pins s σ H _ us Q I r ⟨a, kvs, rfl, .inl (le _ _ h1 (nt_dK _)), fun p hn => ?_⟩
    refine res _ _ (same_upd hn) ?_
    simp only [Rep]
    exact ⟨p, kvs, rfl, plus_new hn, h2, h3.mono (plus_le le)⟩
  · cases e
end
end GP
-- GH
set_option maxRecDepth 100000
set_option maxHeartbeats 4000000
namespace GP
open PySem PySem.Spec PyProof.Rows L2

def truB : PV → Option Bool
  | .non => some false
  | .bl b => some b
  | .int i => some (i != 0)
  | .str z => if fits z.length = true then some ((z.length : Int) != 0) else none
  | .tup ps => some (!ps.isEmpty)
  | .lst ps => some (!ps.isEmpty)
  | .dic false ks _ => some (!ks.isEmpty)
  | _ => none
def asB : PV → Option Bool
  | .bl b => some b
  | _ => none
def dTru (a : Sto → M PV) : Sto → M Bool := fun ρ => bnd (a ρ) fun p => opt (truB p)
def dAsB (a : Sto → M PV) : Sto → M Bool := fun ρ => bnd (a ρ) fun p => opt (asB p)
def tAnd' (a b : Sto → M Bool) : Sto → M Bool := fun ρ => bnd (a ρ) fun c => if c = true then b ρ else ret false
def tOr' (a b : Sto → M Bool) : Sto → M Bool := fun ρ => bnd (a ρ) fun c => if c = true then ret true else b ρ
def tNot' (a : Sto → M Bool) : Sto → M Bool := fun ρ => bnd (a ρ) fun c => ret (!c)
def dAnd (a b : Sto → M PV) : Sto → M PV := fun ρ => bnd (a ρ) fun p => bnd (opt (asB p)) fun c => if c = true then b ρ else ret (.bl false)
def dOr (a b : Sto → M PV) : Sto → M PV := fun ρ => bnd (a ρ) fun p => bnd (opt (asB p)) fun c => if c = true then ret (.bl true) else b ρ
def dNot (a : Sto → M PV) : Sto → M PV := fun ρ => bnd (a ρ) fun p => bnd (opt (asB p)) fun c => ret (.bl (!c))
def dIte (c : Sto → M Bool) (a b : Sto → M PV) : Sto → M PV := fun ρ => bnd (c ρ) fun x => if x = true then a ρ else b ρ
def dCh (f g : PV → PV → Option PV) (a b c : Sto → M PV) : Sto → M PV := fun ρ => bnd (a ρ) fun p => bnd (b ρ) fun q => bnd (opt (f p q)) fun z => bnd (opt (asB z)) fun k =>
  if k = true then bnd (c ρ) fun s => opt (g q s) else ret (.bl false)
theorem asB_eq {p : PV} {c : Bool} (h : asB p = some c) : p = .bl c := by
  cases p <;> simp only [asB] at h <;> (try cases h)
  rfl

section
variable {X : Cx} {G : Pg} {k : Nat} {Ex : XK} {a b c e : Expr} {rest : List Expr} {S S' S'' : List Nat} {da db dc : Sto → M PV} {ta tb : Sto → M Bool} {dl : Sto → M (List PV)} {pos : Pos}
theorem tru_P (hX : XG G k X) : TruR X (rPT G truB) := by
  rintro pins s σ H x v Q I rx ⟨ro, Hv, p, r, le, hp, e, q⟩
  have fin : ∀ {y}, TruV X.K y H r → x = y → wpAny (model X.prog X.w) X.A (truthy v) (TP X pins σ Q) X.xe s := fun t ey => tru_ok pins s σ H x v Q I rx ⟨r, ey ▸ t, q⟩
  cases p with
  | non => simp only [truB] at e; cases e; simp only [Rep] at hp; exact fin (y := .non) rfl hp
  | bl b => simp only [truB] at e; cases e; simp only [Rep] at hp; exact fin (y := .bl _) rfl hp
  | int i => simp only [truB] at e; cases e; simp only [Rep] at hp; exact fin (y := .int _) rfl hp
  | str z =>
    simp only [truB] at e
    split at e
    · rename_i hf
      cases e; simp only [Rep] at hp; exact fin (y := .str _) ⟨fits_ok hf, rfl⟩ hp
    · cases e
  | tup ps =>
    simp only [truB] at e; cases e; simp only [Rep] at hp
    obtain ⟨a, xs, rfl, h1, h2⟩ := hp
    refine fin (y := .ref a) (.inr (.inl ⟨xs, hX.K ▸ le.sqT h1, ?_⟩)) rfl
    have := h2.length
    cases xs <;> cases ps <;> simp at this ⊢
  | lst ps =>
    simp only [truB] at e; cases e; simp only [Rep] at hp
    obtain ⟨a, xs, rfl, h1, h2⟩ := hp
    refine fin (y := .ref a) (.inl ⟨xs, SqL.of (le _ _ h1 (nt_lst _)), ?_⟩) rfl
    have := h2.length
    cases xs <;> cases ps <;> simp at this ⊢
  | dic kb ks vs =>
    cases kb with
    | true => simp only [truB] at e; cases e
    | false =>
      simp only [truB] at e; cases e; simp only [Rep] at hp
      obtain ⟨a, kvs, rfl, h1, h2, h3⟩ := hp
      refine fin (y := .ref a) (.inr (.inr ⟨kvs, le _ _ h1 (nt_dK _), ?_⟩)) rfl
      have := keysOf_len h2
      cases kvs <;> cases ks <;> simp at this ⊢
  | obj t fs => simp only [truB] at e; cases e
  | raw v => simp only [truB] at e; cases e
  | fn v => simp only [truB] at e; cases e
  | row => simp only [truB] at e; cases e
  | rng lo hi => simp only [truB] at e; cases e
theorem dt_tru (hX : XG G k X) (ha : DE X G Ex a S da) (he : ∀ whole, isTrue a X.env whole = (do let v ← whole; standAt a.pos; holding [v] (truthy v))) : DT X G Ex a S (dTru da) := by
  refine ⟨fun pins s σ H Q I h => ?_⟩
  obtain ⟨ro, V0, H0, ρ, ω, J, h⟩ := h
  refine isTrue_plain (thn (ha.run pins s σ H (fun x H' => rPT G truB x H' Q) I ⟨ro, V0, H0, ρ, ω, J, post_bnd (by simp) h fun p ω1 H1 x e k1 J1 c h1 => ?_⟩) fun v s1 ⟨x, H1, I1, r1, q1⟩ => tru_P hX pins s1 σ H1 x v Q I1 r1 q1) (he _)
  obtain ⟨z, ez, h2⟩ := post_opt h1
  exact ⟨ro, _, p, z, J1.vw_le, c, ez, post_ret J1 h2 rfl⟩
theorem tTest_D {t : TE} (h : ∀ {σ H Q}, tD G Ex S da σ H Q → t σ H Q) (σ : L2.St) (H : Hp) (Q : Bool → Hp → Prop) (q : tDT G Ex S (dAsB da) σ H Q) : tTest t σ H Q := by
  obtain ⟨ro, V0, H0, ρ, ω, I, q⟩ := q
  refine h ⟨ro, V0, H0, ρ, ω, I, post_bnd (by simp) q fun p ω1 H1 x e k1 I1 c h1 => ?_⟩
  obtain ⟨z, ez, h2⟩ := post_opt h1
  obtain rfl := asB_eq ez
  have c' : x = .bl z := by simpa only [CE, Rep] using c
  exact ⟨z, c', post_ret I1 h2 rfl⟩
theorem cmp_t {op : CmpOp} (hX : XG G k X) {σ : L2.St} {H : Hp} {Q : VK} (h : tD G Ex (S ++ S') (d2 (cmpP op) da db) σ H Q) : tOp (rP2 G (cmpP op)) (tD G Ex S da) (tD G Ex S' db) σ H Q := by
  obtain ⟨ro, V0, H0, ρ, ω, I, h⟩ := h
  refine ⟨ro, V0, H0, ρ, ω, I, post_bnd (by simp +contextual) h fun p ω1 H1 x e k I1 c h1 => ⟨ro, V0, H0, ρ, ω1, I1, post_bnd (by simp +contextual) h1 fun q ω2 H2 y e2 k2 I2 c2 h2 => ?_⟩⟩
  obtain ⟨z, ez, h3⟩ := post_opt h2
  exact ⟨ro, _, p, q, z, I2.vw_le (S := S ++ S'), (CE.mono (vw_grow k2) c).mono (vw_sub (by simp +contextual)), CE.mono (vw_sub (by simp +contextual)) c2, ez, post_res I2 h3⟩
theorem dt_cmp {op : CmpOp} (hX : XG G k X) (ha : DE X G Ex a S da) (hb : DE X G Ex b S' db) (hm : behindInMarks op b = false) : DT X G Ex (.Compare a [op] [b] pos) (S ++ S') (dAsB (d2 (cmpP op) da db)) :=
  PT.imp (pt_cmpR (op_cmpP hX op) ha hb hm) fun σ H Q q => tTest_D (fun h => cmp_t hX h) σ H Q q
theorem ch_t {op op' : CmpOp} (hX : XG G k X) {σ : L2.St} {H : Hp} {Q : VK} (h : tD G Ex (S ++ (S' ++ S'')) (dCh (cmpP op) (cmpP op') da db dc) σ H Q) :
    tChain (rP2 G (cmpP op)) (rP2 G (cmpP op')) (tD G Ex S da) (tD G Ex S' db) (tD G Ex S'' dc) σ H Q := by
  obtain ⟨ro, V0, H0, ρ, ω, I, h⟩ := h
  refine ⟨ro, V0, H0, ρ, ω, I, post_bnd (by simp +contextual) h fun p ω1 H1 x e k I1 c1 h1 => ⟨ro, V0, H0, ρ, ω1, I1, post_bnd (by simp +contextual) h1 fun q ω2 H2 y e2 k2 I2 c2 h2 => ?_⟩⟩
  have hx := (CE.mono (vw_grow k2) c1).mono (vw_sub (S' := S ++ (S' ++ S'')) (by simp +contextual))
  have hy := CE.mono (vw_sub (S' := S ++ (S' ++ S'')) (by simp +contextual)) c2
  unfold bnd at h2
  cases ez : cmpP op p q with
  | none => rw [ez] at h2; exact h2.elim
  | some z =>
    rw [ez] at h2
    simp only [opt] at h2
    refine ⟨ro, _, p, q, z, I2.vw_le (S := S ++ (S' ++ S'')), hx, hy, ez, fun H3 v sm r => ?_⟩
    have I3 := I2.same sm
    cases eb : asB z with
    | none => rw [eb] at h2; exact h2.elim
    | some kk =>
      rw [eb] at h2
      obtain rfl := asB_eq eb
      have r' : v = .bl kk := by simpa only [Rep] using r
      refine ⟨kk, r', ?_⟩
      cases kk with
      | false =>
        simp only [Bool.false_eq_true, if_false] at h2 ⊢
        exact post_ret I3 (h2.later (.same sm)) (by simp only [CE, Rep])
      | true =>
        simp only [if_true] at h2 ⊢
        refine ⟨ro, V0, H0, ρ, ω2, I3, post_bnd (by simp +contextual) (h2.later (.same sm)) fun s ω4 H4 u e4 k4 I4 c4 h4 => ?_⟩
        obtain ⟨z', ez', h5⟩ := post_opt h4
        exact ⟨ro, _, q, s, z', I4.vw_le (S := S ++ (S' ++ S'')), hy.mono ((vw_grow (Keep.same sm)).trans (vw_grow k4)), CE.mono (vw_sub (by simp +contextual)) c4, ez', post_res I4 h5⟩
theorem de_ch {op op' : CmpOp} (hX : XG G k X) (ha : DE X G Ex a S da) (hb : DE X G Ex b S' db) (hc : DE X G Ex c S'' dc) (hm : lastMarks [op, op'] [b, c] = false) :
    DE X G Ex (.Compare a [op, op'] [b, c] pos) (S ++ (S' ++ S'')) (dCh (cmpP op) (cmpP op') da db dc) :=
  PE.imp (pe_chain (op_cmpP hX op) (op_cmpP hX op') ha hb hc hm) fun σ H Q h => ch_t hX h
theorem dt_ch {op op' : CmpOp} (hX : XG G k X) (ha : DE X G Ex a S da) (hb : DE X G Ex b S' db) (hc : DE X G Ex c S'' dc) (hm : lastMarks [op, op'] [b, c] = false) :
    DT X G Ex (.Compare a [op, op'] [b, c] pos) (S ++ (S' ++ S'')) (dAsB (dCh (cmpP op) (cmpP op') da db dc)) :=
  PT.imp (pt_chain (op_cmpP hX op) (op_cmpP hX op') ha hb hc hm) fun σ H Q q => tTest_D (fun h => ch_t hX h) σ H Q q

abbrev DW (X : Cx) (G : Pg) (Ex : XK) (e : Expr) (S : List Nat) (d : Sto → M Bool) : Prop := PW X e (tDT G Ex S d)
theorem PW.imp {e : Expr} {t t' : TT} (h : PW X e t) (i : ∀ σ H Q, t' σ H Q → t σ H Q) : PW X e t' := ⟨fun wh pins s σ H Q I q => h.run wh pins s σ H Q I (i σ H Q q)⟩
theorem dw_and (ha : DT X G Ex a S ta) (hb : DW X G Ex (.BoolOp .And (b :: rest) pos) S' tb) : DW X G Ex (.BoolOp .And (a :: b :: rest) pos) (S ++ S') (tAnd' ta tb) := by
  refine PW.imp (pw_and ha hb) fun σ H Q ⟨ro, V0, H0, ρ, ω, I, h⟩ => ?_
  refine ⟨ro, V0, H0, ρ, ω, I, post_bnd (by simp +contextual) h fun c1 ω1 H1 x e k I1 c h1 => ?_⟩
  obtain rfl : x = c1 := c
  cases x with
  | true =>
    simp only [if_true] at h1 ⊢
    refine ⟨ro, V0, H0, ρ, ω1, I1, ?_⟩
    revert h1
    cases tb ρ ω1 with
    | bad => exact id
    | exn t p ω2 => exact fun h H' d k I c => h H' d k I (c.mono (vw_sub (by simp +contextual)))
    | ok y ω2 => exact fun h H' x k I c => h H' x k I c
  | false =>
    simp only [Bool.false_eq_true, if_false] at h1 ⊢
    exact post_ret I1 h1 rfl
theorem dw_or (ha : DT X G Ex a S ta) (hb : DW X G Ex (.BoolOp .Or (b :: rest) pos) S' tb) : DW X G Ex (.BoolOp .Or (a :: b :: rest) pos) (S ++ S') (tOr' ta tb) := by
  refine PW.imp (pw_or ha hb) fun σ H Q ⟨ro, V0, H0, ρ, ω, I, h⟩ => ?_
  refine ⟨ro, V0, H0, ρ, ω, I, post_bnd (by simp +contextual) h fun c1 ω1 H1 x e k I1 c h1 => ?_⟩
  obtain rfl : x = c1 := c
  cases x with
  | false =>
    simp only [Bool.false_eq_true, if_false] at h1 ⊢
    refine ⟨ro, V0, H0, ρ, ω1, I1, ?_⟩
    revert h1
    cases tb ρ ω1 with
    | bad => exact id
    | exn t p ω2 => exact fun h H' d k I c => h H' d k I (c.mono (vw_sub (by simp +contextual)))
    | ok y ω2 => exact fun h H' x k I c => h H' x k I c
  | true =>
    simp only [if_true] at h1 ⊢
    exact post_ret I1 h1 rfl
theorem dt_not (ha : DT X G Ex a S ta) : DT X G Ex (.UnaryOp .Not a pos) S (tNot' ta) := by
  refine PT.imp (pt_not ha) fun σ H Q ⟨ro, V0, H0, ρ, ω, I, h⟩ => ?_
  refine ⟨ro, V0, H0, ρ, ω, I, post_bnd (by simp) h fun c1 ω1 H1 x e k I1 c h1 => ?_⟩
  obtain rfl : x = c1 := c
  exact post_ret I1 h1 rfl
theorem mono_S {S T : List Nat} (hs : ∀ i ∈ S, i ∈ T) {d : Sto → M PV} {σ : L2.St} {H : Hp} {Q : VK} {ro : Option Addr} {V0 H0 : Hp} {ρ : Sto} {r : R PV} (h : Post G Ex ro V0 H0 ρ σ T (CE G ro) H Q r) : Post G Ex ro V0 H0 ρ σ S (CE G ro) H Q r := by
  cases r with
  | bad => exact h
  | exn t p ω2 => exact fun H' d k I c => h H' d k I (c.mono (vw_sub hs))
  | ok y ω2 => exact fun H' x k I c => h H' x k I (CE.mono (vw_sub hs) c)
theorem de_and (ha : DE X G Ex a S da) (hb : DE X G Ex (.BoolOp .And (b :: rest) pos) S' db) : DE X G Ex (.BoolOp .And (a :: b :: rest) pos) (S ++ S') (dAnd da db) := by
  refine PE.imp (pe_and ha hb) fun σ H Q ⟨ro, V0, H0, ρ, ω, I, h⟩ => ?_
  refine ⟨ro, V0, H0, ρ, ω, I, post_bnd (by simp +contextual) h fun p ω1 H1 x e k I1 c h1 => ?_⟩
  unfold bnd at h1
  cases eb : asB p with
  | none => rw [eb] at h1; exact h1.elim
  | some c1 =>
    rw [eb] at h1
    obtain rfl := asB_eq eb
    have c' : x = .bl c1 := by simpa only [CE, Rep] using c
    refine ⟨c1, c', ?_⟩
    cases c1 with
    | true =>
      simp only [opt, if_true] at h1 ⊢
      exact ⟨ro, V0, H0, ρ, ω1, I1, mono_S (d := db) (by simp +contextual) h1⟩
    | false =>
      simp only [opt, Bool.false_eq_true, if_false] at h1 ⊢
      exact post_ret I1 h1 (by simp only [CE, Rep])
theorem de_or (ha : DE X G Ex a S da) (hb : DE X G Ex (.BoolOp .Or (b :: rest) pos) S' db) : DE X G Ex (.BoolOp .Or (a :: b :: rest) pos) (S ++ S') (dOr da db) := by
  refine PE.imp (pe_or ha hb) fun σ H Q ⟨ro, V0, H0, ρ, ω, I, h⟩ => ?_
  refine ⟨ro, V0, H0, ρ, ω, I, post_bnd (by simp +contextual) h fun p ω1 H1 x e k I1 c h1 => ?_⟩
  unfold bnd at h1
  cases eb : asB p with
  | none => rw [eb] at h1; exact h1.elim
  | some c1 =>
    rw [eb] at h1
    obtain rfl := asB_eq eb
    have c' : x = .bl c1 := by simpa only [CE, Rep] using c
    refine ⟨c1, c', ?_⟩
    cases c1 with
    | false =>
      simp only [opt, Bool.false_eq_true, if_false] at h1 ⊢
      exact ⟨ro, V0, H0, ρ, ω1, I1, mono_S (d := db) (by simp +contextual) h1⟩
    | true =>
      simp only [opt, if_true] at h1 ⊢
      exact post_ret I1 h1 (by simp only [CE, Rep])
theorem de_not (ha : DE X G Ex a S da) : DE X G Ex (.UnaryOp .Not a pos) S (dNot da) := by
  refine PE.imp (pe_not ha) fun σ H Q ⟨ro, V0, H0, ρ, ω, I, h⟩ => ?_
  refine ⟨ro, V0, H0, ρ, ω, I, post_bnd (by simp) h fun p ω1 H1 x e k I1 c h1 => ?_⟩
  unfold bnd at h1
  cases eb : asB p with
  | none => rw [eb] at h1; exact h1.elim
  | some c1 =>
    rw [eb] at h1
    obtain rfl := asB_eq eb
    have c' : x = .bl c1 := by simpa only [CE, Rep] using c
    exact ⟨c1, c', post_ret I1 h1 (by simp only [CE, Rep])⟩
theorem de_ite (hc : DT X G Ex c S'' ta) (ha : DE X G Ex a S da) (hb : DE X G Ex b S' db) : DE X G Ex (.IfExp c a b pos) (S'' ++ (S ++ S')) (dIte ta da db) := by
  refine PE.imp (pe_ifExp hc ha hb) fun σ H Q ⟨ro, V0, H0, ρ, ω, I, h⟩ => ?_
  refine ⟨ro, V0, H0, ρ, ω, I, post_bnd (by simp +contextual) h fun c1 ω1 H1 x e k I1 c h1 => ?_⟩
  obtain rfl : x = c1 := c
  cases x with
  | true =>
    simp only [if_true] at h1 ⊢
    exact ⟨ro, V0, H0, ρ, ω1, I1, mono_S (d := da) (by simp +contextual) h1⟩
  | false =>
    simp only [Bool.false_eq_true, if_false] at h1 ⊢
    exact ⟨ro, V0, H0, ρ, ω1, I1, mono_S (d := db) (by simp +contextual) h1⟩
end

section
variable {X : Cx} {G : Pg} {k : Nat} {Ex : XK} {a b lo hi : Expr} {S S' S'' : List Nat} {da db dc : Sto → M PV} {pos p2 : Pos}
theorem de_idx (hX : XG G k X) (ha : DE X G Ex a S da) (hb : DE X G Ex b S' db) (hs : PlainIx b) : DE X G Ex (.Subscript a b pos) (S ++ S') (d2 idxP da db) :=
  de_2 (mk := fun _ t => t) (pe_ix (ix_P hX) ha hb hs)
def rSP (G : Pg) : V → Option Int → Option Int → Hp → VK → Prop := fun x lo hi H Q => ∃ ro Hv p r, Le Hv H ∧ Rep G ro Hv x p ∧ slcP p lo hi = some r ∧ Res G ro Hv H Q r
theorem sl_P (hX : XG G k X) : SlR X (rSP G) := by
  rintro pins s σ H x v vl vu lo hi sl Q I rx hs pl pu ⟨ro, Hv, p, r, le, hp, e, res⟩
  unfold slcP at e
  split at e
  · cases e
    simp only [Rep] at hp
    obtain ⟨a, xs, rfl, h1, h2⟩ := hp
    exact sl_list pins s σ H _ v vl vu lo hi sl Q I rx hs pl pu ⟨a, xs, rfl, SqL.of (le _ _ h1 (nt_lst _)), Res.lst res le h2.cut⟩
  · cases e
    have hp0 := hp
    simp only [Rep] at hp
    obtain ⟨a, xs, rfl, h1, h2⟩ := hp
    refine sl_tupA pins s σ H _ v vl vu lo hi sl Q I rx hs pl pu ⟨a, xs, rfl, hX.K ▸ le.sqT h1, fun hw => ?_, fun _ => Res.tup res le h2.cut⟩
    refine res.at le ?_
    rename_i ps
    have e2 : cutP ps lo hi = ps := by
      unfold cutP
      rw [← h2.length, hw.1, hw.2, List.drop_zero, Nat.sub_zero, h2.length, List.take_length]
    rw [e2]
    exact hp0
  · split at e
    · rename_i hf
      cases e
      simp only [Rep] at hp
      subst hp
      exact sl_str pins s σ H _ v vl vu lo hi sl Q I rx hs pl pu ⟨_, rfl, fits_ok hf, res.flat rfl⟩
    · cases e
  · cases e
def dPart (d : Option (Sto → M PV)) : Sto → M (Option Int) := fun ρ => match d with
  | none => ret none
  | some d => bnd (d ρ) fun p => match p with
    | .int i => ret (some i)
    | _ => fun _ => .bad
def dSlc (a : Sto → M PV) (lo hi : Option (Sto → M PV)) : Sto → M PV := fun ρ => bnd (a ρ) fun p => bnd (dPart lo ρ) fun l => bnd (dPart hi ρ) fun h => opt (slcP p l h)
def CO : Hp → Option Int → Option Int → Prop := fun _ x o => x = o
def tDO (G : Pg) (Ex : XK) (S : List Nat) (d : Sto → M (Option Int)) : L2.St → Hp → (Option Int → Hp → Prop) → Prop := fun σ H Q => ∃ ro V0 H0 ρ ω, SR G ro V0 H0 ρ ω σ H ∧ Post G Ex ro V0 H0 ρ σ S CO H Q (d ρ ω)
theorem PO.imp {e : Option Expr} {t t' : L2.St → Hp → (Option Int → Hp → Prop) → Prop} (h : PO X e t) (i : ∀ σ H Q, t' σ H Q → t σ H Q) : PO X e t' := ⟨fun pins s σ H Q I q => h.run pins s σ H Q I (i σ H Q q)⟩
theorem do_none : PO X none (tDO G Ex [] (dPart none)) := PO.imp po_none fun σ H Q ⟨ro, V0, H0, ρ, ω, I, h⟩ => post_ret (C := CO) (x := none) I h rfl
theorem do_some (ha : DE X G Ex a S da) : PO X (some a) (tDO G Ex S (dPart (some da))) := by
  refine PO.imp (po_some ha) fun σ H Q ⟨ro, V0, H0, ρ, ω, I, h⟩ => ?_
  refine ⟨ro, V0, H0, ρ, ω, I, post_bnd (by simp) h fun p ω1 H1 x e k I1 c h1 => ?_⟩
  cases p with
  | int i =>
    have c' : x = .int i := by simpa only [CE, Rep] using c
    exact ⟨i, c', post_ret (C := CO) (x := some i) I1 h1 rfl⟩
  | _ => exact h1.elim
theorem de_slc {lo hi : Option Expr} {dlo dhi : Option (Sto → M PV)} (hX : XG G k X) (ha : DE X G Ex a S da) (hl : PO X lo (tDO G Ex S' (dPart dlo))) (hh : PO X hi (tDO G Ex S'' (dPart dhi))) :
    DE X G Ex (.Subscript a (.Slice lo hi none p2) pos) (S ++ (S' ++ S'')) (dSlc da dlo dhi) := by
  refine PE.imp (pe_slice (sl_P hX) ha hl hh) fun σ H Q ⟨ro, V0, H0, ρ, ω, I, h⟩ => ?_
  refine ⟨ro, V0, H0, ρ, ω, I, post_bnd (by simp +contextual) h fun p ω1 H1 x e k I1 c h1 => ⟨ro, V0, H0, ρ, ω1, I1, post_bnd (by simp +contextual) h1 fun l ω2 H2 y e2 k2 I2 c2 h2 =>
    ⟨ro, V0, H0, ρ, ω2, I2, post_bnd (by simp +contextual) h2 fun l' ω3 H3 y' e3 k3 I3 c3 h3 => ?_⟩⟩⟩
  obtain rfl : y = l := c2
  obtain rfl : y' = l' := c3
  obtain ⟨z, ez, h4⟩ := post_opt h3
  exact ⟨ro, _, p, z, I3.vw_le (S := S ++ (S' ++ S'')), CE.mono ((vw_grow k2).trans ((vw_grow k3).trans (vw_sub (by simp +contextual)))) c, ez, post_res I3 h4⟩
end

def PostF (G : Pg) (E : XK) (ro : Option Addr) (Hv H : Hp) (Q : VK) : R PV → Prop
  | .ok p ω => ∀ H' x, Keep ro H H' → RowR G.K ro H' ω → LamX.Tabs G.T H' → Rep G ro (plus Hv H H') x p → Q x H'
  | .exn t p ω => ∀ H' d, Keep ro H H' → RowR G.K ro H' ω → LamX.Tabs G.T H' → ExAt G ro (plus Hv H H') H' d p → E (.ref (G.cl t)) (some d) H'
  | .bad => False
abbrev Fn := List PV → M PV
def spF (G : Pg) (n : Nat) (F : Fn) : Sp := fun vs H Q E => ∃ ro Hv ps ω, Le Hv H ∧ (∀ r, ro = some r → Hv r = none) ∧ RepL G ro Hv vs ps ∧ ps.length = n ∧ RowR G.K ro H ω ∧ LamX.Tabs G.T H ∧ PostF G E ro Hv H Q (F ps ω)
def spI (G : Pg) (t n : Nat) (F : Fn) : Sp := fun vs H Q E => ∃ ro Hv ps ω x dx as, vs = V.ref x :: as ∧ H x = some (.ins (G.cl t) dx []) ∧ Hv x = none ∧ ro ≠ some x ∧ Le Hv H ∧ (∀ r, ro = some r → Hv r = none) ∧ RepL G ro Hv as ps ∧ ps.length + 1 = n ∧ RowR G.K ro H ω ∧ LamX.Tabs G.T H ∧
  PostF G E ro Hv (fun a => if a = x then none else H a) (fun v H' => v = .ref x → Q .non H') (match F ps ω with
    | .ok p ω => .ok p ω
    | r => r)
end GP
-- GI
set_option maxRecDepth 100000
set_option maxHeartbeats 4000000
namespace GP
open PySem PySem.Spec PyProof.Rows L2
structure FEnt where
  nm : Str
  n : Nat
  F : Fn
def callF (e : FEnt) (ps : List PV) : M PV := fun ω => if ps.length = e.n then e.F ps ω else .bad
structure FnG (gd : Bool) (P : Program) (w : World) (K : PySem.W.Frag) (mg : Str → Option Value) (base : Heap) (k : Nat) (f : Addr) (fd : FuncData) (ps : List Str) (sp : Sp) : Prop where
  len : ∀ vs H Q E, sp vs H Q E → vs.length = ps.length
  run : ∀ (A : Around) (outer : List Env) (s : Shared) (H : Hp) (args : Args) (us : List Value) (vs : List V) (Q : VK) (E : XK), Room k A → (gd = true → A.guards = some []) → Env0 P w K mg base A outer s H → BindsTo s fd args (ps.zip us) → Vals vs us →
    sp vs H Q E → codeAny (model P w) A (.call (.ref f) args) (CR (L2.CX P w) outer P w H s Q E) s
theorem FnG.of {gd : Bool} {P : Program} {w : World} {K : PySem.W.Frag} {mg : Str → Option Value} {base : Heap} {k : Nat} {f : Addr} {fd : FuncData} {ps : List Str} {sp : Sp} (F : FnOk P w K mg base (L2.CX P w) k f fd ps sp) : FnG gd P w K mg base k f fd ps sp :=
  ⟨F.len, fun A outer s H args us vs Q E hr _ e0 hb hv hs => F.run A outer s H args us vs Q E hr e0 hb hv hs⟩
theorem FnG.up {gd : Bool} {P : Program} {w : World} {K : PySem.W.Frag} {mg : Str → Option Value} {base : Heap} {j k : Nat} {f : Addr} {fd : FuncData} {ps : List Str} {sp : Sp} (F : FnG gd P w K mg base j f fd ps sp) (h : j ≤ k) : FnG gd P w K mg base k f fd ps sp :=
  ⟨F.len, fun A outer s H args us vs Q E hr => F.run A outer s H args us vs Q E (hr.mono h)⟩
theorem FnG.any {gd : Bool} {P : Program} {w : World} {K : PySem.W.Frag} {mg : Str → Option Value} {base : Heap} {k : Nat} {f : Addr} {fd : FuncData} {ps : List Str} {sp : Sp} (F : FnG false P w K mg base k f fd ps sp) : FnG gd P w K mg base k f fd ps sp :=
  ⟨F.len, fun A outer s H args us vs Q E hr _ => F.run A outer s H args us vs Q E hr (fun z => by cases z)⟩
def FnE (G : Pg) (gd : Bool) (k : Nat) (e : FEnt) : Prop := ∃ f fd ps, G.mg e.nm = some (.ref f) ∧ PySem.W.keepIn G.K (.ref f) = true ∧ Binds G.K fd ps [] ∧ ps.length = e.n ∧ FnG gd G.P G.w G.K G.mg G.base k f fd ps (spF G e.n e.F)
section
variable {X : Cx} {gd : Bool} {k i : Nat} {f : Addr} {fd : FuncData} {ps : List Str} {sp : Sp} {E : XK} {x : Str} {p pos : Pos} {e : Expr} {es : List Expr} {t : TA}
theorem run_g {pins : List (Addr × Obj)} {σ : L2.St} {H : Hp} {s : Shared} {Q : VK} {us : List Value} {vs : List V} (F : FnG gd X.prog X.w X.K X.mg X.base k f fd ps sp) (hg : gd = true → X.A.guards = some []) (hr : Room k X.A) (hb : Binds X.K fd ps []) (hx : Passes (L2.CX X.prog X.w) X E) (I : Inv X pins σ H s) (r : Vals vs us)
    (h : sp vs H Q E) : wpAny (model X.prog X.w) X.A (call (.ref f) us) (EP X pins σ Q) X.xe s := by
  have n1 : us.length = ps.length := r.length.symm.trans (F.len _ _ _ _ h)
  have b1 := hb s us I.kIn (by rw [List.append_nil]; exact n1)
  rw [List.append_nil] at b1
  have c := F.run X.A X.stack s H ⟨us, []⟩ us vs Q E hr hg I.env0 b1 r h
  refine wpAny_call (codeAny_mono c fun z s' q => ?_)
  rcases z with er | fl
  · exact hx pins σ H s er s' I q
  · cases fl <;> first | exact I.after q | exact q.elim
theorem pe_callG (F : FnG gd X.prog X.w X.K X.mg X.base k f fd ps sp) (hgd : gd = true → X.A.guards = some []) (hr : Room k X.A) (hg : Gl X x) (hm : X.mg x = some (.ref f)) (hk : PySem.W.keepIn X.K (.ref f) = true) (hb : Binds X.K fd ps []) (hx : Passes (L2.CX X.prog X.w) X E) (ha : PA X (e :: es) t)
    (hdb : (x == ("__debug__" : Str)) = false) (he : starEach (e :: es) X.env = (false, eval e X.env) :: starEach es X.env) (hpl : (backTo pos (starEach es X.env)).any (·.1) = false) : PE X (.Call (.Name x p) (e :: es) [] pos) (tCall sp [] E t) := by
  constructor
  intro pins s σ H Q I h
  refine wpAny_Call_Name_kw (ld_glob I hg hm ?_ hdb)
  have a := ha.run pos pins s σ H _ I h
  refine PySem.W.callWith_K (h₀ := X.base) I.ok.mod.kin hk (thn a ?_) he hpl
  rintro us s1 ⟨vs, H1, J, r, q⟩
  rw [List.append_nil] at q
  exact ⟨J.kIn, run_g F hgd hr hb hx J r q⟩
theorem pe_callG0 (F : FnG gd X.prog X.w X.K X.mg X.base k f fd ps sp) (hgd : gd = true → X.A.guards = some []) (hr : Room k X.A) (hg : Gl X x) (hm : X.mg x = some (.ref f)) (hk : PySem.W.keepIn X.K (.ref f) = true) (hb : Binds X.K fd ps []) (hx : Passes (L2.CX X.prog X.w) X E)
    (hdb : (x == ("__debug__" : Str)) = false) : PE X (.Call (.Name x p) [] [] pos) (tCall sp [] E tNil) := by
  constructor
  intro pins s σ H Q I h
  exact wpAny_Call_Name_kw (ld_glob I hg hm (PySem.W.callWith_K0 I.kIn hk (run_g (us := []) F hgd hr hb hx I .nil h)) hdb)
theorem pe_callGL (F : FnG gd X.prog X.w X.K X.mg X.base k f fd ps sp) (hgd : gd = true → X.A.guards = some []) (hr : Room k X.A) (hN : X.N[i]? = some x) (hv : Vis X.env.scope x) (hk : PySem.W.keepIn X.K (.ref f) = true) (hb : Binds X.K fd ps []) (hx : Passes (L2.CX X.prog X.w) X E) (ha : PA X (e :: es) t)
    (hdb : (x == ("__debug__" : Str)) = false) (hcd : (x == ("__classdict__" : Str)) = false) (he : starEach (e :: es) X.env = (false, eval e X.env) :: starEach es X.env) (hpl : (backTo pos (starEach es X.env)).any (·.1) = false) : PE X (.Call (.Name x p) (e :: es) [] pos) (tCallL i f sp [] E t) := by
  constructor
  rintro pins s σ H Q I ⟨h1, h2⟩
  refine wpAny_Call_Name_kw (thn ((pe_var (pos := p) hN hv hdb hcd).run pins s σ H (fun v H1 => v = .ref f ∧ H1 = H) I ⟨.ref f, h1, rfl, rfl⟩) ?_)
  rintro u s1 ⟨v, H1, J, r1, rfl, rfl⟩
  cases r1
  refine PySem.W.callWith_K (h₀ := X.base) J.ok.mod.kin hk (thn (ha.run pos pins s1 σ _ _ J h2) ?_) he hpl
  rintro us s2 ⟨vs, H2, J2, r, q⟩
  rw [List.append_nil] at q
  exact ⟨J2.kIn, run_g F hgd hr hb hx J2 r q⟩
end
def MkE (G : Pg) (k t : Nat) (e : FEnt) : Prop := ∃ f fd ps, G.mg e.nm = some (.ref (G.cl t)) ∧ Mk G.K (G.cl t) f ∧ Binds G.K fd ps [] ∧ ps.length = e.n + 1 ∧ FnOk G.P G.w G.K G.mg G.base (L2.CX G.P G.w) k f fd ps (spI G t (e.n + 1) e.F)
def MeE (G : Pg) (k t : Nat) (e : FEnt) : Prop := ∃ f fd ps, Cls G.K (G.cl t) ∧ Meth G.K (G.cl t) e.nm f ∧ (G.fl t).contains e.nm = false ∧ Binds G.K fd ps [] ∧ ps.length = e.n ∧ FnOk G.P G.w G.K G.mg G.base (L2.CX G.P G.w) k f fd ps (spF G e.n e.F)
def dCall (e : FEnt) (dl : Sto → M (List PV)) : Sto → M PV := fun ρ => bnd (dl ρ) (callF e)
def dMeth (e : FEnt) (t : Nat) (da : Sto → M PV) (dl : Sto → M (List PV)) : Sto → M PV := fun ρ => bnd (da ρ) fun o => match o with
  | .obj t' fs => if t' = t then bnd (dl ρ) fun ps => callF e (.obj t' fs :: ps) else fun _ => .bad
  | _ => fun _ => .bad
section
variable {X : Cx} {G : Pg} {k : Nat} {Ex : XK} {a o : Expr} {es : List Expr} {S S' : List Nat} {da : Sto → M PV} {dl : Sto → M (List PV)} {p pos apos : Pos} {en : FEnt} {t : Nat}
theorem postF_of {ro : Option Addr} {V0 H0 : Hp} {ρ : Sto} {σ : L2.St} {ω : Rw} {H : Hp} {Q : VK} (I : SR G ro V0 H0 ρ ω σ H) : ∀ {r : R PV}, Post G Ex ro V0 H0 ρ σ S (CE G ro) H Q r → PostF G Ex ro (vw ro V0 H0 ρ σ H S) H Q r
  | .ok q ω, h => fun H' x kk r t rep => h H' x kk (I.grow kk r t) (Rep.mono (plus_vw I kk) q rep)
  | .exn t q ω, h => fun H' d kk r t' ex => h H' d kk (I.grow kk r t') (ex.mono (plus_vw I kk))
  | .bad, h => h
theorem vw_row {ro : Option Addr} {V0 H0 : Hp} {ρ : Sto} {σ : L2.St} {H : Hp} : ∀ r, ro = some r → vw ro V0 H0 ρ σ H S r = none := fun r e => vw_yes (.inl e)
theorem call_t {σ : L2.St} {H : Hp} {Q : VK} (h : tD G Ex S (dCall en dl) σ H Q) : tCall (spF G en.n en.F) [] Ex (tDL G Ex S dl) σ H Q := by
  obtain ⟨ro, V0, H0, ρ, ω, I, h⟩ := h
  refine ⟨ro, V0, H0, ρ, ω, I, post_bnd (by simp) h fun ps ω1 H1 vs e k I1 c h1 => ?_⟩
  unfold callF at h1
  split at h1
  · rename_i hl
    rw [List.append_nil]
    exact ⟨ro, _, ps, ω1, I1.vw_le, vw_row, c, hl, I1.row, I1.tabs, postF_of I1 h1⟩
  · exact h1.elim
theorem fn_atG {gd : Bool} {k : Nat} {ps : List Str} {f : Addr} {fd : FuncData} {sp : Sp} (hX : XG G k X) (h : FnG gd G.P G.w G.K G.mg G.base k f fd ps sp) : FnG gd X.prog X.w X.K X.mg X.base k f fd ps sp := by
  rw [hX.prog, hX.w, hX.K, hX.mg, hX.base]; exact h
theorem fn_at {k : Nat} {e : FEnt} {ps : List Str} {f : Addr} {fd : FuncData} {sp : Sp} (hX : XG G k X) (h : FnOk G.P G.w G.K G.mg G.base (L2.CX G.P G.w) k f fd ps sp) : FnOk X.prog X.w X.K X.mg X.base (L2.CX X.prog X.w) k f fd ps sp := by
  rw [hX.prog, hX.w, hX.K, hX.mg, hX.base]; exact h
theorem de_call {gd : Bool} (hX : XG G k X) (hE : FnE G gd k en) (hgd : gd = true → X.A.guards = some []) (pass : Passes (L2.CX X.prog X.w) X Ex) (hg : Gl X en.nm) (hdb : (en.nm == ("__debug__" : Str)) = false) (ha : DL X G Ex (a :: es) S dl)
    (he : starEach (a :: es) X.env = (false, eval a X.env) :: starEach es X.env) (hpl : (backTo pos (starEach es X.env)).any (·.1) = false) : DE X G Ex (.Call (.Name en.nm p) (a :: es) [] pos) S (dCall en dl) := by
  obtain ⟨f, fd, ps, h1, h2, h3, h4, h5⟩ := hE
  exact PE.imp (pe_callG (fn_atG hX h5) hgd hX.room hg (hX.mg ▸ h1) (hX.K ▸ h2) (hX.K ▸ h3) pass ha hdb he hpl) fun σ H Q h => call_t h
theorem de_call0 {gd : Bool} (hX : XG G k X) (hE : FnE G gd k en) (hgd : gd = true → X.A.guards = some []) (pass : Passes (L2.CX X.prog X.w) X Ex) (hg : Gl X en.nm) (hdb : (en.nm == ("__debug__" : Str)) = false) : DE X G Ex (.Call (.Name en.nm p) [] [] pos) [] (dCall en dNil) := by
  obtain ⟨f, fd, ps, h1, h2, h3, h4, h5⟩ := hE
  refine PE.imp (pe_callG0 (fn_atG hX h5) hgd hX.room hg (hX.mg ▸ h1) (hX.K ▸ h2) (hX.K ▸ h3) pass hdb) fun σ H Q h => ?_
  obtain ⟨ro, V0, H0, ρ, ω, I, h⟩ := h
  have h1 : Post G Ex ro V0 H0 ρ σ [] (CE G ro) H Q (callF en [] ω) := h
  unfold callF at h1
  split at h1
  · rename_i hl
    exact ⟨ro, _, [], ω, I.vw_le, vw_row (S := []), .nil, hl, I.row, I.tabs, postF_of I h1⟩
  · exact h1.elim
theorem post_keep {ro : Option Addr} {V0 H0 : Hp} {ρ : Sto} {σ : L2.St} {ω : Rw} {H Hm : Hp} {Q : VK} (I : SR G ro V0 H0 ρ ω σ H) (sm : Same H Hm) : ∀ {r : R PV}, Post G Ex ro V0 H0 ρ σ S (CE G ro) H Q r → PostF G Ex ro (vw ro V0 H0 ρ σ H S) Hm Q r := by
  have le : ∀ H', Le (plus (vw ro V0 H0 ρ σ H S) Hm H') (plus (vw ro V0 H0 ρ σ H S) H H') := fun H' a o e n => by
    unfold plus at e ⊢
    cases q : clr Hm a with
    | none => rw [q] at e; rw [(Keep.same (ro := ro) sm).dom a q]; exact e
    | some u =>
      rw [q] at e
      have := I.vw_le a o e n
      rw [clr_some this n]; exact e
  intro r h
  cases r with
  | bad => exact h
  | ok q ω => exact fun H' x kk r t rep => h H' x ((Keep.same sm).trans kk) (I.grow ((Keep.same sm).trans kk) r t) (Rep.mono ((le H').trans (plus_vw I ((Keep.same sm).trans kk))) q rep)
  | exn t q ω => exact fun H' d kk r t' ex => h H' d ((Keep.same sm).trans kk) (I.grow ((Keep.same sm).trans kk) r t') (ex.mono ((le H').trans (plus_vw I ((Keep.same sm).trans kk))))
theorem make_t {σ : L2.St} {H : Hp} {Q : VK} (h : tD G Ex S (dCall en dl) σ H Q) : tMake (G.cl t) (spI G t (en.n + 1) en.F) [] Ex (tDL G Ex S dl) σ H Q := by
  obtain ⟨ro, V0, H0, ρ, ω, I, h⟩ := h
  refine ⟨ro, V0, H0, ρ, ω, I, post_bnd (by simp) h fun ps ω1 H1 vs e k I1 c h1 => ?_⟩
  unfold callF at h1
  split at h1
  · rename_i hl
    intro x dx hx hdx hne
    rw [List.append_nil]
    have sm1 : Same H1 (upd H1 dx (.own x)) := same_upd hdx
    have hx' : upd H1 dx (.own x) x = none := by rw [upd_ne (Ne.symm hne)]; exact hx
    have sm2 : Same (upd H1 dx (.own x)) (upd (upd H1 dx (.own x)) x (.ins (G.cl t) dx [])) := same_upd hx'
    have sm := sm1.trans sm2
    have hrow : ro ≠ some x := fun z => by
      have r := I1.row
      rw [z] at r
      obtain ⟨_, _, _, sa, r1, _⟩ := r
      rw [hx] at r1; cases r1
    have hvx : vw ro V0 H0 ρ σ H1 S x = none := by
      cases q : vw ro V0 H0 ρ σ H1 S x with
      | none => rfl
      | some u =>
        obtain ⟨_, _, q3⟩ := vw_some q
        rw [if_pos (I1.dom0 (clr_none hx)), hx] at q3; cases q3
    have em : (fun a => if a = x then none else upd (upd H1 dx (.own x)) x (.ins (G.cl t) dx []) a) = upd H1 dx (.own x) := by
      funext a
      by_cases ha : a = x
      · subst ha; rw [if_pos rfl, hx']
      · rw [if_neg ha, upd_ne ha]
    refine ⟨ro, _, ps, ω1, x, dx, vs, rfl, upd_same, hvx, hrow, (I1.vw_le (S := S)).trans fun a o e _ => sm a o e, vw_row, c, by omega, I1.row.keep sm, I1.tabs.ext sm, ?_⟩
    rw [em]
    have pf := post_keep I1 sm1 h1
    revert pf
    cases en.F ps ω1 with
    | bad => exact id
    | ok q ω => exact fun pf H' v kk r t rep ev => ⟨rfl, pf H' (.ref x) kk r t (ev ▸ rep)⟩
    | exn t q ω => exact id
  · exact h1.elim
theorem de_make (hX : XG G (k + 1) X) (hE : MkE G k t en) (pass : Passes (L2.CX X.prog X.w) X Ex) (hg : Gl X en.nm) (hdb : (en.nm == ("__debug__" : Str)) = false) (ha : DL X G Ex (a :: es) S dl)
    (he : starEach (a :: es) X.env = (false, eval a X.env) :: starEach es X.env) (hpl : (backTo pos (starEach es X.env)).any (·.1) = false) : DE X G Ex (.Call (.Name en.nm p) (a :: es) [] pos) S (dCall en dl) := by
  obtain ⟨f, fd, ps, h1, h2, h3, h4, h5⟩ := hE
  have h5' : FnOk X.prog X.w X.K X.mg X.base (L2.CX X.prog X.w) k f fd ps (spI G t (en.n + 1) en.F) := by rw [hX.prog, hX.w, hX.K, hX.mg, hX.base]; exact h5
  exact PE.imp (pe_make (hX.K ▸ h2) h5' hX.room hg (hX.mg ▸ h1) (hX.K ▸ h3) .nil pass ha hdb he hpl) fun σ H Q h => make_t h
theorem look_none {m : Str} : ∀ {fs : List (Str × V)} {ns : List Str} {n : Nat}, fs.map (·.1) = ns.take n → ns.contains m = false → fs.lookup m = none
  | [], _, _, _, _ => rfl
  | (g, x) :: fs, [], n, h, _ => by simp at h
  | (g, x) :: fs, c :: ns, 0, h, _ => by simp at h
  | (g, x) :: fs, c :: ns, n + 1, h, hc => by
    simp only [List.map_cons, List.take_succ_cons, List.cons.injEq] at h
    obtain ⟨rfl, h2⟩ := h
    simp only [List.contains_cons, Bool.or_eq_false_iff] at hc
    rw [List.lookup_cons, hc.1]
    exact look_none h2 hc.2
theorem meth_t {σ : L2.St} {H : Hp} {Q : VK} (hm : (G.fl t).contains en.nm = false) (h : tD G Ex (S ++ S') (dMeth en t da dl) σ H Q) : tMeth (G.cl t) en.nm (spF G en.n en.F) [] Ex (tD G Ex S da) (tDL G Ex S' dl) σ H Q := by
  obtain ⟨ro, V0, H0, ρ, ω, I, h⟩ := h
  refine ⟨ro, V0, H0, ρ, ω, I, post_bnd (by simp +contextual) h fun o ω1 H1 x e k I1 c h1 => ?_⟩
  cases o with
  | obj t' fs =>
    simp only at h1
    split at h1
    · rename_i et
      subst et
      have c0 : Rep G ro (vw ro V0 H0 ρ σ H1 (S ++ S')) x (.obj t' fs) := CE.mono (vw_sub (by simp +contextual)) c
      have c1 := c0
      simp only [Rep] at c1
      obtain ⟨a, dx, fvs, rfl, q1, q2, q3⟩ := c1
      refine ⟨a, dx, fvs, rfl, I1.vw_le _ _ q1 (nt_ins _ _ _), look_none q2 hm, ?_⟩
      refine ⟨ro, V0, H0, ρ, ω1, I1, post_bnd (by simp +contextual) h1 fun ps ω2 H2 vs e2 k2 I2 c2 h2 => ?_⟩
      unfold callF at h2
      split at h2
      · rename_i hl
        rw [List.append_nil]
        exact ⟨ro, _, _, ω2, I2.vw_le (S := S ++ S'), vw_row, .cons (c0.mono (vw_grow k2)) (CL.mono (vw_sub (by simp +contextual)) c2), hl, I2.row, I2.tabs, postF_of I2 h2⟩
      · exact h2.elim
    · exact h1.elim
  | _ => exact h1.elim
theorem de_meth {pl : Sem Bool} (hX : XG G k X) (hE : MeE G k t en) (pass : Passes (L2.CX X.prog X.w) X Ex) (ho : DE X G Ex o S da) (ha : DL X G Ex (a :: es) S' dl)
    (he : starEach (a :: es) X.env = (false, eval a X.env) :: starEach es X.env) (hpl : (backTo pos (starEach es X.env)).any (·.1) = false)
    (ht : eval (.Call (.Attribute o en.nm apos) (a :: es) [] pos) X.env = (do
      let ov ← eval o X.env
      standAt apos.atName
      let (f, first) ← holding [ov] (getMethod ov en.nm pl)
      callWith pos f first (backTo pos (starEach (a :: es) X.env)) (backToKw pos (keywordEach [] X.env)))) :
    DE X G Ex (.Call (.Attribute o en.nm apos) (a :: es) [] pos) (S ++ S') (dMeth en t da dl) := by
  obtain ⟨f, fd, ps, h1, h2, h3, h4, h5, h6⟩ := hE
  exact PE.imp (pe_meth ho (hX.K ▸ h1) (hX.K ▸ h2) (fn_at (e := en) hX h6) hX.room (hX.K ▸ h4) .nil pass ha he hpl ht) fun σ H Q h => meth_t h3 h

def fieldAt (f : Str) : List Str → List PV → Option PV
  | n :: ns, v :: vs => if n = f then some v else fieldAt f ns vs
  | _, _ => none
def fldP (G : Pg) (f : Str) : PV → Option PV
  | .obj t fs => fieldAt f (G.fl t) fs
  | _ => none
def ClsF (G : Pg) : Prop := ∀ t f, f ∈ G.fl t → Cls G.K (G.cl t) ∧ NoAttr G.K (G.cl t) f
theorem fieldAt_mem {f : Str} {v : PV} : ∀ {ns : List Str} {vs : List PV}, fieldAt f ns vs = some v → f ∈ ns
  | [], _, h => by simp [fieldAt] at h
  | n :: ns, [], h => by simp [fieldAt] at h
  | n :: ns, w :: vs, h => by
    simp only [fieldAt] at h
    split at h
    · rename_i e; rw [e]; exact List.mem_cons_self
    · exact List.mem_cons_of_mem _ (fieldAt_mem h)
theorem fieldAt_look {ro : Option Addr} {Hv : Hp} {f : Str} {v : PV} : ∀ {ns : List Str} {fs : List (Str × V)} {vs : List PV}, fs.map (·.1) = ns.take vs.length → RepL G ro Hv (fs.map (·.2)) vs → fieldAt f ns vs = some v → ∃ x, fs.lookup f = some x ∧ Rep G ro Hv x v
  | [], _, _, _, _, h => by simp [fieldAt] at h
  | n :: ns, _, [], _, _, h => by simp [fieldAt] at h
  | n :: ns, [], w :: vs, h1, h2, h => by simp at h1
  | n :: ns, (g, x) :: fs, w :: vs, h1, h2, h => by
    simp only [List.map_cons, List.length_cons, List.take_succ_cons, List.cons.injEq] at h1
    obtain ⟨rfl, h1⟩ := h1
    simp only [List.map_cons, RepL] at h2
    obtain ⟨y, ys, e, r1, r2⟩ := h2
    injection e with e1 e2
    subst e1; subst e2
    simp only [fieldAt] at h
    split at h
    · rename_i e
      cases h
      exact ⟨x, by rw [List.lookup_cons, show (f == g) = true by simp [e]], r1⟩
    · rename_i e
      obtain ⟨z, q1, q2⟩ := fieldAt_look h1 r2 h
      exact ⟨z, by rw [List.lookup_cons, show (f == g) = false by simpa using (fun z => e z.symm)]; exact q1, q2⟩
theorem de_fld {f : Str} (hX : XG G k X) (hC : ClsF G) (ho : DE X G Ex o S da) (hb : attributeBase o f X.env (eval o X.env) = eval o X.env) : DE X G Ex (.Attribute o f pos) S (d1 (fldP G f) da) := by
  refine PE.imp (pe_fld ho hb) fun σ H Q ⟨ro, V0, H0, ρ, ω, I, h⟩ => ?_
  refine ⟨ro, V0, H0, ρ, ω, I, post_bnd (by simp) h fun p ω1 H1 x e k I1 c h1 => ?_⟩
  obtain ⟨z, ez, h2⟩ := post_opt h1
  unfold fldP at ez
  split at ez
  · rename_i t fs
    have c1 : Rep G ro (vw ro V0 H0 ρ σ H1 S) x (.obj t fs) := c
    simp only [Rep] at c1
    obtain ⟨a, dx, fvs, rfl, q1, q2, q3⟩ := c1
    obtain ⟨y, q4, q5⟩ := fieldAt_look q2 q3 ez
    obtain ⟨cl1, cl2⟩ := hC t f (fieldAt_mem ez)
    exact ⟨a, G.cl t, dx, fvs, y, rfl, I1.vw_le _ _ q1 (nt_ins _ _ _), hX.K ▸ cl1, hX.K ▸ cl2, q4, post_ret I1 h2 q5⟩
  · cases ez
end

inductive Cn where
  | bt (n : String) | own (t : Nat)
  deriving DecidableEq
def tyn : PV → Option String
  | .non => some "NoneType" | .bl _ => some "bool" | .int _ => some "int" | .str _ => some "str" | .tup _ => some "tuple" | .lst _ => some "list" | .dic _ _ _ => some "dict"
  | _ => none
def bNames : List String := ["int", "bool", "str", "list", "tuple", "dict"]
def isTT (a n : String) : Bool := a == n || (a == "bool" && n == "int")
def isB (G : Pg) (p : PV) : Cn → Option Bool
  | .bt n => if bNames.contains n = true then (match p with
    | .obj t _ => if G.ts.contains t = true then some false else none
    | p => (tyn p).map fun a => isTT a n) else none
  | .own t => if G.ts.contains t = true then (match p with
    | .obj t' _ => if G.ts.contains t' = true then some (t' == t) else none
    | p => (tyn p).map fun _ => false) else none
def isAny (G : Pg) (p : PV) : List Cn → Option Bool
  | [] => some false
  | c :: cs => match isB G p c with
    | some true => some true
    | some false => isAny G p cs
    | none => none
structure IsiOk (G : Pg) : Prop where
  cls : ∀ t, G.ts.contains t = true → Cls G.K (G.cl t) ∧ PySem.W.findIn G.K (.ref (G.cl t)) "__class__" = some (some (.builtin "object.__class__")) ∧ PySem.W.mroIn G.K (G.cl t) (.type "object") = some true
  get : PySem.W.specialIn G.K (.builtin "object.__class__") "__get__" = some (some (.builtin "getset_descriptor.__get__"))
  tak : PySem.W.takesIn G.K (.builtin "object.__class__") = some true
  bo : ∀ t, G.ts.contains t = true → ∀ n ∈ "NoneType" :: bNames, PySem.W.kitOne G.K (.type n) (.ref (G.cl t)) = some false
  ob : ∀ t, G.ts.contains t = true → ∀ n ∈ bNames, PySem.W.kitOne G.K (.ref (G.cl t)) (.type n) = some false
  oo : ∀ t t', G.ts.contains t = true → G.ts.contains t' = true → PySem.W.kitOne G.K (.ref (G.cl t')) (.ref (G.cl t)) = some (t' == t)
def cnV (G : Pg) : Cn → V
  | .bt n => .ty n
  | .own t => .ref (G.cl t)
def cnU (G : Pg) : Cn → Value
  | .bt n => .type n
  | .own t => .ref (G.cl t)
theorem cn_cls (G : Pg) : ∀ c, ClsV (cnV G c) (cnU G c)
  | .bt n => .ty n
  | .own t => .own _
theorem tt_ok {K : PySem.W.Frag} {a n : String} (ha : a ∈ "NoneType" :: bNames) (hn : n ∈ bNames) : PySem.W.kitOne K (.type a) (.type n) = some (isTT a n) := by
  apply kit_ty
  revert a n
  have h : ∀ a ∈ "NoneType" :: bNames, ∀ n ∈ bNames, kitB a n = some (isTT a n) := by decide +kernel
  exact fun {a n} ha hn => h a ha n hn
section
variable {X : Cx} {G : Pg} {k : Nat} {ro : Option Addr} {H Hv : Hp}
theorem ty_of (hK : X.K = G.K) (le : Le Hv H) {x : V} {p : PV} {a : String} (h : tyn p = some a) (r : Rep G ro Hv x p) : TyX X.K H x (.type a) ∧ a ∈ "NoneType" :: bNames := by
  cases p <;> simp only [tyn] at h <;> (try cases h)
  · simp only [Rep] at r; subst r; exact ⟨.base .non, by decide⟩
  · simp only [Rep] at r; subst r; exact ⟨.base (.bl _), by decide⟩
  · simp only [Rep] at r; subst r; exact ⟨.base (.int _), by decide⟩
  · simp only [Rep] at r; subst r; exact ⟨.base (.str _), by decide⟩
  · simp only [Rep] at r
    obtain ⟨b, xs, rfl, h1, _⟩ := r
    refine ⟨?_, by decide⟩
    rcases (hK ▸ le.sqT h1 : SqT X.K H b xs) with (h1 | ⟨o, h1⟩) | ⟨o, its, n, h1, h2, _⟩
    · exact .base (.tup h1)
    · exact .fTuple h1
    · exact .kTuple h1 h2
  · simp only [Rep] at r
    obtain ⟨b, xs, rfl, h1, _⟩ := r
    exact ⟨.base (.lst (le _ _ h1 (nt_lst _))), by decide⟩
  · rename_i kb ks vs
    cases kb with
    | false =>
      simp only [Rep] at r
      obtain ⟨b, xs, rfl, h1, _⟩ := r
      exact ⟨.base (.dK (le _ _ h1 (nt_dK _))), by decide⟩
    | true =>
      simp only [Rep] at r
      obtain ⟨b, xs, rfl, h1, _⟩ := r
      exact ⟨.base (.dT (le _ _ h1 (nt_dT _))), by decide⟩
theorem isB_ok (hX : XG G k X) (hI : IsiOk G) (le : Le Hv H) {x : V} {p : PV} {c : Cn} {b : Bool} (h : isB G p c = some b) (r : Rep G ro Hv x p) : ∃ t, TyX X.K H x t ∧ (∀ c b, isB G p c = some b → PySem.W.kitOne X.K t (cnU G c) = some b) := by
  have basic : ∀ {a : String}, tyn p = some a → (∀ t fs, p ≠ .obj t fs) → ∃ t, TyX X.K H x t ∧ (∀ c b, isB G p c = some b → PySem.W.kitOne X.K t (cnU G c) = some b) := by
    intro a ha hno
    obtain ⟨t1, t2⟩ := ty_of hX.K le ha r
    refine ⟨_, t1, fun c b h => ?_⟩
    cases c with
    | bt n =>
      simp only [isB] at h
      split at h
      · rename_i hn
        have hn' : n ∈ bNames := by simpa using hn
        rw [ha] at h
        cases h
        exact tt_ok t2 hn'
      · cases h
    | own t =>
      simp only [isB] at h
      split at h
      · rename_i ht
        rw [ha] at h
        cases h
        rw [hX.K]
        exact hI.bo t ht a t2
      · cases h
  have none_ : tyn p = none → (∀ t fs, p ≠ .obj t fs) → False := fun e hno => by
    cases c with
    | bt n =>
      simp only [isB] at h
      split at h
      · cases p <;> simp_all [tyn]
      · cases h
    | own t =>
      simp only [isB] at h
      split at h
      · cases p <;> simp_all [tyn]
      · cases h
  by_cases ho : ∃ t fs, p = .obj t fs
  · obtain ⟨t', fs, rfl⟩ := ho
    have r' := r
    simp only [Rep] at r'
    obtain ⟨a, dx, fvs, rfl, h1, _⟩ := r'
    have ht' : G.ts.contains t' = true := by
      cases c with
      | bt n => simp only [isB] at h; split at h <;> (try cases h); split at h; assumption; cases h
      | own t => simp only [isB] at h; split at h <;> (try cases h); split at h; assumption; cases h
    obtain ⟨c1, c2, c3⟩ := hI.cls t' ht'
    refine ⟨_, .base (.ins (le _ _ h1 (nt_ins _ _ _)) (hX.K ▸ c1) (hX.K ▸ c2) (hX.K ▸ hI.get) (hX.K ▸ hI.tak) (hX.K ▸ c3)), fun c b h => ?_⟩
    cases c with
    | bt n =>
      simp only [isB] at h
      split at h
      · rename_i hn
        cases h
        rw [hX.K]
        exact hI.ob t' ht' n (by simpa using hn)
      · cases h
    | own t =>
      simp only [isB] at h
      split at h
      · rename_i ht
        cases h
        rw [hX.K]
        exact hI.oo t t' ht ht'
      · cases h
  · have hno : ∀ t fs, p ≠ .obj t fs := fun t fs e => ho ⟨t, fs, e⟩
    cases e : tyn p with
    | none => exact (none_ e hno).elim
    | some a => exact basic e hno
theorem isAny_kit {t : Value} {p : PV} (h : ∀ c b, isB G p c = some b → PySem.W.kitOne X.K t (cnU G c) = some b) : ∀ (cs : List Cn) (b : Bool), isAny G p cs = some b → PySem.W.kitAny X.K t (cs.map (cnU G)) = some b
  | [], b, e => by simp only [isAny] at e; cases e; rfl
  | c :: cs, b, e => by
    simp only [isAny] at e
    split at e
    · rename_i e1
      cases e
      exact kitAny_cons (h c _ e1) (fun z => nomatch z) fun _ => rfl
    · rename_i e1
      exact kitAny_cons (h c _ e1) (fun _ => isAny_kit h cs b e) fun z => nomatch z
    · cases e
end
section
variable {X : Cx} {G : Pg} {k : Nat} {Ex : XK} {a c : Expr} {S : List Nat} {da : Sto → M PV} {p pos tpos : Pos}
def isiP (G : Pg) (c : Cn) (p : PV) : Option PV := (isB G p c).map .bl
def isiP2 (G : Pg) (cs : List Cn) (p : PV) : Option PV := match cs with
  | [] => none
  | c :: _ => match isB G p c with
    | none => none
    | some _ => (isAny G p cs).map .bl
def PCn (X : Cx) (G : Pg) (e : Expr) (c : Cn) : Prop := PE X e (tC (cnV G c))
theorem de_isi {cn : Cn} (hX : XG G k X) (hI : IsiOk G) (hg : Gl X "isinstance") (hm : X.mg "isinstance" = none) (ha : DE X G Ex a S da) (hc : PCn X G c cn)
    (he : starEach (a :: [c]) X.env = (false, eval a X.env) :: starEach [c] X.env) (he2 : starEach (c :: []) X.env = (false, eval c X.env) :: starEach [] X.env) (hpl : (backTo pos (starEach [c] X.env)).any (·.1) = false) :
    DE X G Ex (.Call (.Name "isinstance" p) [a, c] [] pos) S (d1 (isiP G cn) da) := by
  refine PE.imp (pe_callB call_isi hg hm boot_isinstance (pa_cons ha (pa_cons hc pa_nil he2) he) (by decide) (by decide) he hpl) fun σ H Q ⟨ro, V0, H0, ρ, ω, I, h⟩ => ?_
  refine ⟨ro, V0, H0, ρ, ω, I, post_bnd (by simp) h fun q ω1 H1 x e k I1 c1 h1 => ?_⟩
  obtain ⟨z, ez, h2⟩ := post_opt h1
  obtain ⟨b, eb, rfl⟩ := Option.map_eq_some_iff.mp ez
  obtain ⟨t, t1, t2⟩ := isB_ok hX hI I1.vw_le eb c1
  exact ⟨x, _, t, _, b, rfl, cn_cls G cn, t1, t2 _ _ eb, (post_res I1 h2).flat rfl⟩
theorem de_isi2 {c2 : Expr} {k0 : Nat} {cn cn2 : Cn} (hX : XG G k X) (hI : IsiOk G) (hg : Gl X "isinstance") (hm : X.mg "isinstance" = none) (ha : DE X G Ex a S da) (hc : PCn X G c cn) (hc2 : PCn X G c2 cn2)
    (he : starEach (a :: [.Tuple [c, c2] k0 tpos]) X.env = (false, eval a X.env) :: starEach [.Tuple [c, c2] k0 tpos] X.env)
    (h1 : starEach (c :: [c2]) X.env = (false, eval c X.env) :: starEach [c2] X.env) (h2 : starEach (c2 :: []) X.env = (false, eval c2 X.env) :: starEach [] X.env) :
    DE X G Ex (.Call (.Name "isinstance" p) [a, .Tuple [c, c2] k0 tpos] [] pos) S (d1 (isiP2 G [cn, cn2]) da) := by
  refine PE.imp (pe_callB call_isiT hg hm boot_isinstance (pa_cons ha (pa_cons (pe_tup (pa_cons hc (pa_cons hc2 pa_nil h2) h1)) pa_nil rfl) he) (by decide) (by decide) he rfl) fun σ H Q ⟨ro, V0, H0, ρ, ω, I, h⟩ => ?_
  refine ⟨ro, V0, H0, ρ, ω, I, post_bnd (by simp) h fun q ω1 H1 x e k I1 c1 h1 => ?_⟩
  obtain ⟨z, ez, h2⟩ := post_opt h1
  unfold isiP2 at ez
  split at ez
  · cases ez
  · rename_i c' _ ec
    injection ec with ec1 ec2
    subst ec1
    split at ez
    · cases ez
    · rename_i b0 eb0
      obtain ⟨b, eb, rfl⟩ := Option.map_eq_some_iff.mp ez
      obtain ⟨t, t1, t2⟩ := isB_ok hX hI I1.vw_le eb0 c1
      refine ⟨by show 2 ≤ sizeLine; decide, fun tp hn => ?_⟩
      have sm : Same H1 (upd H1 tp (.tup [cnV G cn, cnV G cn2])) := same_upd hn
      have I2 := I1.same sm
      obtain ⟨t', t1', t2'⟩ := isB_ok hX hI I2.vw_le eb0 (Rep.mono (vw_grow (Keep.same sm)) q c1)
      exact ⟨x, tp, _, t', _, b, rfl, upd_same, .cons (cn_cls G cn) (.cons (cn_cls G cn2) .nil), t1', isAny_kit t2' _ _ eb, (post_res I2 (h2.later (.same sm))).flat rfl⟩
end
end GP
-- GJ
set_option maxRecDepth 100000
set_option maxHeartbeats 4000000
namespace GP
open PySem PySem.Spec PyProof.Rows L2
def SqK (kd : Bool) (K : PySem.W.Frag) (H : Hp) (a : Addr) (xs : List V) : Prop := match kd with
  | false => SqL K H a xs
  | true => SqT K H a xs
def KIter (kd : Bool) (h : Heap) (it a : Addr) (i : Nat) : Prop := match kd with
  | false => h.IsListIter it a i
  | true => h.IsTupleIter it a i
def KObj (kd : Bool) (h : Heap) (a : Addr) (items : Array Value) : Prop := match kd with
  | false => h.IsList a items
  | true => h.IsTuple a items
def KNew (kd : Bool) (a : Addr) : Obj := match kd with
  | false => { cls := .type "list_iterator", data := .fields #[.ref a, .int 0 0] }
  | true => { cls := .type "tuple_iterator", data := .fields #[.ref a, .int 0 0] }
theorem kobj_cls {kd : Bool} {h : Heap} {a : Addr} {items : Array Value} (o : KObj kd h a items) : ∃ ob, h.get? a = some ob ∧ (ob.cls = .type "list" ∨ ob.cls = .type "tuple") := by
  cases kd with
  | false => obtain ⟨o, h1, h2, _⟩ := o; exact ⟨o, h1, .inl h2⟩
  | true => obtain ⟨o, h1, h2, _⟩ := o; exact ⟨o, h1, .inr h2⟩
theorem kiter_obj {kd : Bool} {h : Heap} {it a : Addr} {i : Nat} (o : KIter kd h it a i) : ∃ ob, h.get? it = some ob ∧ (ob.cls = .type "list_iterator" ∨ ob.cls = .type "tuple_iterator") ∧ ob.data = .fields #[.ref a, .int i 0] := by
  cases kd with
  | false => obtain ⟨o, h1, h2, h3⟩ := o; exact ⟨o, h1, .inl h2, h3⟩
  | true => obtain ⟨o, h1, h2, h3⟩ := o; exact ⟨o, h1, .inr h2, h3⟩
theorem kobj_ne {kd : Bool} {h : Heap} {a b : Addr} {items : Array Value} {ob : Obj} (o : KObj kd h a items) (hb : h.get? b = some ob) (c : ob.cls ≠ .type "list" ∧ ob.cls ≠ .type "tuple") : a ≠ b := fun e => by
  subst e
  obtain ⟨o2, h1, h2⟩ := kobj_cls o
  rw [hb] at h1; cases h1
  rcases h2 with h2 | h2
  · exact c.1 h2
  · exact c.2 h2
theorem kiter_ne {kd kd2 : Bool} {h : Heap} {it a b : Addr} {i : Nat} {items : Array Value} (o : KObj kd h b items) (t : KIter kd2 h it a i) : b ≠ it := by
  obtain ⟨ob, h1, h2, _⟩ := kiter_obj t
  refine kobj_ne o h1 ?_
  rcases h2 with h2 | h2 <;> rw [h2] <;> exact ⟨by decide, by decide⟩
theorem Inv.kseq {X : Cx} {pins : List (Addr × Obj)} {σ : L2.St} {H : Hp} {s : Shared} {kd : Bool} {a : Addr} {xs : List V} (I : Inv X pins σ H s) (h : SqK kd X.K H a xs) : ∃ its : List Value, Vals xs its ∧ KObj kd s.heap a its.toArray := by
  cases kd with
  | false => obtain ⟨its, r, p, _⟩ := I.list h; exact ⟨its, r, p.isList⟩
  | true => obtain ⟨its, r, p, _⟩ := I.tuple h; exact ⟨its, r, p⟩
theorem Inv.kseq_inj {X : Cx} {pins : List (Addr × Obj)} {σ : L2.St} {H : Hp} {s : Shared} {kd : Bool} {a : Addr} {xs ys : List V} (I : Inv X pins σ H s) (h : SqK kd X.K H a xs) (h' : SqK kd X.K H a ys) : xs = ys := by
  cases kd with
  | false => exact I.list_inj h h'
  | true => exact I.tuple_inj h h'
theorem draws_k {prog : Program} {w : World} {A : Around} (hh : A.handled = none) (kd : Bool) (it a : Addr) (hne : a ≠ it) (items : Array Value) :
    Draws prog w A it [it, a] items.size (fun i v => items[i]? = some v) (fun i h => KIter kd h it a i ∧ KObj kd h a items) := by
  cases kd with
  | false => exact Draws.list hh it a hne items
  | true => exact Draws.tuple hh it a hne items
theorem begins_k (kd : Bool) (a : Addr) (items : Array Value) : Begins (.ref a) (KNew kd a) fun h => KObj kd h a items := by
  cases kd with
  | false => exact begins_list a items
  | true => exact begins_tuple a items
theorem knew_iter {kd : Bool} {h : Heap} {it a : Addr} (e : h.get? it = some (KNew kd a)) : KIter kd h it a 0 := by
  cases kd with
  | false => exact ⟨_, e, rfl, rfl⟩
  | true => exact ⟨_, e, rfl, rfl⟩
theorem kiter_at {kd : Bool} {h h' : Heap} {it a : Addr} {i : Nat} (t : KIter kd h it a i) (k : ∀ o, h.get? it = some o → h'.get? it = some o) : KIter kd h' it a i := by
  cases kd with
  | false => obtain ⟨o, h1, h2⟩ := t; exact ⟨o, k o h1, h2⟩
  | true => obtain ⟨o, h1, h2⟩ := t; exact ⟨o, k o h1, h2⟩

theorem walkT_item {X : Cx} {P : Program} {w : World} {J : Addr} {fp wr : List Addr} {n i : Nat} {Pt : Nat → Array Value → Prop} {St : Nat → Heap → Prop} {Mid : Nat → Addr → Heap → Prop} {elts : List Expr} {kk : Nat} {tpos : Pos}
    {pins : List (Addr × Obj)} {s : Shared} {σ : L2.St} {H : Hp} {E : Value → Shared → Prop} {R : List V → Prop} (hP : X.prog = P) (hw : X.w = w) (W : WalksT P w X.A J fp wr n Pt St Mid) (I : Inv X pins σ H s) (hf : ∀ b ∈ wr, FpOk X pins H b) (hi : i < n) (st : St i s.heap)
    (new : ∀ vals, Pt i vals → ∃ ys, Vals ys vals.toList ∧ ys.length ≤ 2 ∧ R ys) :
    wpAny (model P w) X.A (pyNext (.ref J)) (fun r s1 => ∃ u, r = some u ∧ wpAny (model P w) X.A (letOwnedTupleGo (.Tuple elts kk tpos) (.ref J) u)
      (fun _ s2 => ∃ T ys, u = .ref T ∧ H T = none ∧ Inv X pins σ (upd H T (.tup ys)) s2 ∧ R ys ∧ St (i + 1) s2.heap ∧ s.heap.objs.size ≤ T) E s1) E s := by
  subst hP hw
  refine W.item i s _ _ hi st fun T vals h' tk hp hT ht hm hk => ?_
  refine ⟨_, rfl, W.go elts kk tpos i T _ _ _ hm fun h'' st' hk' => ?_⟩
  obtain ⟨ys, v1, v2, v3⟩ := new vals hp
  obtain ⟨o, ho, hc, m, hd⟩ := ht
  have hTw := W.apart i T h' hm
  have obj : ObjOk X.prog X.w (upd H T (.tup ys)) h'' T (.tup ys) := by
    refine ⟨Nat.le_trans v2 (by rw [sizeLine_eq]; omega), vals.toList, v1, o, hk' T o hTw ho, hc, m, ?_⟩
    rw [hd, Array.toArray_toList]
  have J : Inv X pins σ (upd H T (.tup ys)) { s with heap := h'', toks := tk } := I.turnedNew (ch := wr) (fun b ob hb q => hk' b ob hb (hk b ob hb q)) hf hT obj
  exact ⟨T, ys, rfl, I.hok.fresh hT, J, v3, st', hT⟩

def IteK (kd : Bool) (K : PySem.W.Frag) (a : Addr) : It :=
  ⟨fun i H => ∃ (xs : List V) (x : V), SqK kd K H a xs ∧ xs[i]? = some x, fun i H v H' => ∃ T x, v = .ref T ∧ H T = none ∧ H' = upd H T (.tup [.int (i : Nat), x]) ∧ ∀ xs, SqK kd K H a xs → xs[i]? = some x, fun i H => ∃ xs : List V, SqK kd K H a xs ∧ xs.length = i⟩
theorem turn_enumK {P : Program} {w : World} {K : PySem.W.Frag} {elts : List Expr} {kk : Nat} {tpos : Pos} (kd : Bool) (a e it : Addr) :
    Turn P w K (.Tuple elts kk tpos) (IteK kd K a) [e, it] e (fun i h => (∃ old, IsEnum h e it ((i : Nat) : Int) old) ∧ KIter kd h it a i ∧ e ≠ it) where
  mem := by simp
  obj := fun i h st b hb => by
    obtain ⟨⟨old, he⟩, hit, _⟩ := st
    have e' : b = e ∨ b = it := by simpa using hb
    rcases e' with z | z
    · rw [z]; exact ⟨_, he, fun v q => nomatch q⟩
    · rw [z]
      obtain ⟨o, h1, _, h3⟩ := kiter_obj hit
      exact ⟨o, h1, fun v q => by rw [h3] at q; cases q⟩
  keep := fun i h h' st k => let ⟨⟨old, he⟩, hi, hne⟩ := st; ⟨⟨old, k e (by simp) _ he⟩, kiter_at hi fun o q => k it (by simp) o q, hne⟩
  item := by
    intro X hP hw hK hc i pins s σ H E I hf st hg
    obtain ⟨⟨old, he⟩, hit, hne⟩ := st
    obtain ⟨xs, x, hq, hx⟩ := hg
    subst hK
    obtain ⟨its, rv, ho⟩ := Inv.kseq I hq
    obtain ⟨u, hu, ru⟩ := rv.get hx
    have hai := kiter_ne ho hit
    have hae : a ≠ e := kobj_ne ho he ⟨(by decide : Value.type "enumerate" ≠ Value.type "list"), (by decide : Value.type "enumerate" ≠ Value.type "tuple")⟩
    have hi : i < its.toArray.size := by
      have := (List.getElem?_eq_some_iff.mp hu).1
      simpa using this
    have W := WalksT.enumerateD (draws_k (prog := P) (w := w) (A := X.A.in1) (by show X.A.handled = none; exact I.ok.hd hc) kd it a hai its.toArray) e hne (by simp; exact ⟨hne, Ne.symm hae⟩) (by simp)
    refine thn (walkT_item (elts := elts) (kk := kk) (tpos := tpos) (R := fun ys => ys = [.int (i : Nat), x]) hP hw W I hf hi ⟨⟨old, he⟩, hit, ho⟩ fun vals hv => ?_) fun r s1 ⟨u1, er, h1⟩ => ⟨u1, er, thn h1 fun _ s2 ⟨T, ys, e1, e2, J, e3, st', hT⟩ => ?_⟩
    · obtain ⟨t, y, hy, rfl⟩ := hv
      have hy' : its[i]? = some y := by simpa using hy
      rw [hu] at hy'; cases hy'
      exact ⟨[.int (i : Nat), x], .cons (show RelV (.int _) _ from ⟨t, rfl⟩) (.cons ru .nil), Nat.le_refl 2, rfl⟩
    · subst e3
      obtain ⟨he', hit', _⟩ := st'
      refine ⟨.ref T, _, J, e1 ▸ rfl, ⟨T, x, rfl, e2, rfl, fun ys hy => by rw [Inv.kseq_inj I hy hq]; exact hx⟩, ⟨he', hit', hne⟩, fun b hb => ?_⟩
      have hnT : b ≠ T := by
        have e' : b = e ∨ b = it := by simpa using hb
        obtain ⟨o2, h3, _, _⟩ := kiter_obj hit
        rcases e' with z | z
        · rw [z]; exact Nat.ne_of_lt (Nat.lt_of_lt_of_le (Heap.lt_size he) hT)
        · rw [z]; exact Nat.ne_of_lt (Nat.lt_of_lt_of_le (Heap.lt_size h3) hT)
      rw [upd_ne hnT]
      exact (hf b hb).1
  done := by
    intro X hP hw hK hc i pins s σ H E I hf st hg
    subst hP hw hK
    obtain ⟨⟨old, he⟩, hit, hne⟩ := st
    obtain ⟨xs, hq, hx⟩ := hg
    obtain ⟨its, rv, ho⟩ := Inv.kseq I hq
    have hai := kiter_ne ho hit
    have hl := rv.length
    have hin : i = its.toArray.size := by rw [List.size_toArray]; omega
    obtain ⟨f0, f1, f2, f3, f4, f5⟩ := hf it (by simp)
    have hh : X.A.handled = none := I.ok.hd hc
    refine wpAny_pyNext_enum_endD (draws_k (prog := X.prog) (w := X.w) (A := X.A.in1) hh kd it a hai its.toArray) he (hin ▸ ⟨hit, ho⟩) fun h' eb => ⟨rfl, I.turned (t' := s.toks) (fun b o hb q => eb b o hb q) f0 f1 f3 f4 f5⟩
  self := fun A i s Q E st h => let ⟨⟨_, he⟩, _⟩ := st; wpAny_pyIter_enum he h
end GP
-- GK
set_option maxRecDepth 100000
set_option maxHeartbeats 4000000
namespace GP
open PySem PySem.Spec PyProof.Rows L2
theorem meets_enum1 {v : Value} {o : Obj} {H : Heap → Prop} (B : Begins v o H) :
    Meets (Builtin.«enumerate.__new__» ⟨[.type "enumerate", v], []⟩) (fun _ R s => H s.heap ∧
      R (.ok (.ret (.ref (s.heap.push o).objs.size))) { s with heap := (s.heap.push o).push { cls := .type "enumerate", data := .fields #[.none, .bool false, .ref s.heap.objs.size, rawInt 0, .none, .none] } }) :=
  .of_wp fun prog w A R s h => by
    obtain ⟨hp, g, d, tk, os⟩ := s; obtain ⟨h1, h⟩ := h
    have hsub := sub_enumerate
    have go : ∀ {A' : Around} {E : Value → Shared → Prop} {Q : Value → Shared → Prop}, Q (.ref hp.objs.size) ⟨hp.push o, g, d, tk, os⟩ → wpAny (model prog w) A' (pyIter v) Q E ⟨hp, g, d, tk, os⟩ :=
      fun q => B.iter prog w _ _ ⟨hp, g, d, tk, os⟩ _ h1 q
    wp_walk using go
    refine wpAny_stack_any fun st => wpAny_pure ?_
    split
    · rename_i c _ _ _ _ _
      cases (c == Value.type "enumerate")
      · wp_walk using go
        exact ⟨_, rfl, h⟩
      · wp_walk using go
        exact ⟨_, rfl, h⟩
    · wp_walk using go
      exact ⟨_, rfl, h⟩
theorem call_enum1 {prog : Program} {w : World} {A : Around} {E : Value → Shared → Prop} {s : Shared} {v : Value} {o : Obj} {H : Heap → Prop} {Q : Value → Shared → Prop} (B : Begins v o H) (h1 : H s.heap)
    (h : ∀ h', IsEnum h' (s.heap.objs.size + 1) s.heap.objs.size 0 .none → h'.get? s.heap.objs.size = some o → (∀ b o, s.heap.get? b = some o → h'.get? b = some o) → Q (.ref (s.heap.objs.size + 1)) { s with heap := h' }) :
    wpAny (model prog w) A (call (.type "enumerate") [v]) Q E s := by
  refine callType_new F.called_enumerate (by decide) (F.typeCall_enumerate_1 _) (F.newCall_enumerate_1 _) (fun obj => F.args_object_init_2 obj _) F.entry_enumerate_new (meets_enum1 B) ⟨h1, ?_⟩
  have hz : (s.heap.push o).objs.size = s.heap.objs.size + 1 := Heap.size_push ..
  show _ ∧ _
  rw [hz]
  have he : IsEnum ((s.heap.push o).push { cls := .type "enumerate", data := .fields #[.none, .bool false, .ref s.heap.objs.size, rawInt 0, .none, .none] }) (s.heap.objs.size + 1) s.heap.objs.size 0 .none := by
    have := Heap.get?_push_size (s.heap.push o) (o := { cls := .type "enumerate", data := .fields #[.none, .bool false, .ref s.heap.objs.size, rawInt 0, .none, .none] }) rfl
    rw [hz] at this; exact this
  exact ⟨⟨_, he, rfl⟩, h _ he (Heap.get?_push_of_some _ (Heap.get?_push_size _ B.free)) fun b o x => Heap.get?_push_of_some _ (Heap.get?_push_of_some _ x)⟩
def iEnumK (K : PySem.W.Frag) (ta : TA) : TI := fun σ H R => ta σ H fun vs H1 => ∃ kd a xs, vs = [.ref a] ∧ SqK kd K H1 a xs ∧ R (IteK kd K a) H1
theorem pi_enumK {X : Cx} {e : Expr} {ta : TA} {p pos tpos : Pos} {elts : List Expr} {kk : Nat} (hg : Gl X "enumerate") (hm : X.mg "enumerate" = none) (ha : PA X [e] ta) (hs : starEach [e] X.env = (false, eval e X.env) :: starEach [] X.env) :
    PI X (.Tuple elts kk tpos) (.Call (.Name "enumerate" p) [e] [] pos) (iEnumK X.K ta) := by
  refine ⟨fun pins s σ H R I h => ?_⟩
  refine Call_ (ld_blt I hg hm boot_enumerate (PyProof.Rows.callWith_type1 (thn (ha.run pos pins s σ H _ I h) fun us s1 ⟨vs, H1, I1, r1, kd, a, xs, ex, hq, q⟩ => ?_) hs rfl))
  subst ex
  obtain ⟨u, rfl, ru⟩ := vals1 r1
  cases (show u = Value.ref a from ru)
  obtain ⟨its, rv, ho⟩ := Inv.kseq I1 hq
  refine call_enum1 (begins_k kd a its.toArray) ho fun h' he hit hk => wpAny_pyIter_enum he ?_
  have I2 : Inv X pins σ H1 { s1 with heap := h' } := I1.kept (t' := s1.toks) hk
  refine ⟨s1.heap.objs.size + 1, [s1.heap.objs.size + 1, s1.heap.objs.size], _, _, H1, rfl, I2, turn_enumK kd a (s1.heap.objs.size + 1) s1.heap.objs.size, ⟨⟨.none, he⟩, knew_iter hit, Nat.succ_ne_self _⟩, fun b hb => ?_, q⟩
  have e' : b = s1.heap.objs.size + 1 ∨ b = s1.heap.objs.size := by simpa using hb
  have hle : s1.heap.objs.size ≤ b := by
    rcases e' with z | z
    · rw [z]; exact Nat.le_add_right _ _
    · rw [z]; exact Nat.le_refl _
  exact I1.fpOk hle (I1.hok.fresh hle)

def ItzK (kd kd2 : Bool) (K : PySem.W.Frag) (a b : Addr) : It :=
  ⟨fun i H => ∃ (xs ys : List V) (x y : V), SqK kd K H a xs ∧ SqK kd2 K H b ys ∧ xs[i]? = some x ∧ ys[i]? = some y,
    fun i H v H' => ∃ T x y, v = .ref T ∧ H T = none ∧ H' = upd H T (.tup [x, y]) ∧ (∀ xs, SqK kd K H a xs → xs[i]? = some x) ∧ ∀ ys, SqK kd2 K H b ys → ys[i]? = some y,
    fun i H => ∃ xs ys : List V, SqK kd K H a xs ∧ SqK kd2 K H b ys ∧ min xs.length ys.length = i⟩
theorem kit_ne {kd kd2 : Bool} {h : Heap} {it a b : Addr} {i : Nat} {items : Array Value} {ob : Obj} {vs : Array Value} (t : KIter kd h it a i) (hb : h.get? b = some ob) (hd : ob.cls ≠ .type "list_iterator" ∧ ob.cls ≠ .type "tuple_iterator") : it ≠ b := fun e => by
  subst e
  obtain ⟨o, h1, h2, _⟩ := kiter_obj t
  rw [hb] at h1; cases h1
  rcases h2 with h2 | h2
  · exact hd.1 h2
  · exact hd.2 h2
theorem turn_zipK {P : Program} {w : World} {K : PySem.W.Frag} {elts : List Expr} {kk : Nat} {tpos : Pos} (kd kd2 : Bool) {a b z TI TO i1 i2 : Addr} (S : ZipSep2 z TI TO i1 i2 [i1, a] [i2, b]) :
    Turn P w K (.Tuple elts kk tpos) (ItzK kd kd2 K a b) [z, TI, TO, i1, i2] z (fun i h => IsZip h z TI TO .none ∧ IsTupOf2 h TI (.ref i1) (.ref i2) ∧ (∃ a1 a2, IsTupOf2 h TO a1 a2) ∧ KIter kd h i1 a i ∧ KIter kd2 h i2 b i) where
  mem := by simp
  obj := fun i h st c hc => by
    obtain ⟨hz, hTI, ⟨x, y, hTO⟩, t1, t2⟩ := st
    obtain ⟨o1, e1, _, d1⟩ := kiter_obj t1
    obtain ⟨o2, e2, _, d2⟩ := kiter_obj t2
    have e' : c = z ∨ c = TI ∨ c = TO ∨ c = i1 ∨ c = i2 := by simpa using hc
    rcases e' with q | q | q | q | q
    · rw [q]; exact ⟨_, hz, fun v q => nomatch q⟩
    · rw [q]; exact ⟨_, hTI, fun v q => nomatch q⟩
    · rw [q]; exact ⟨_, hTO, fun v q => nomatch q⟩
    · rw [q]; exact ⟨o1, e1, fun v q => by rw [d1] at q; cases q⟩
    · rw [q]; exact ⟨o2, e2, fun v q => by rw [d2] at q; cases q⟩
  keep := fun i h h' st k => by
    obtain ⟨hz, hTI, ⟨x, y, hTO⟩, t1, t2⟩ := st
    exact ⟨k z (by simp) _ hz, k TI (by simp) _ hTI, ⟨x, y, k TO (by simp) _ hTO⟩, kiter_at t1 fun o q => k i1 (by simp) o q, kiter_at t2 fun o q => k i2 (by simp) o q⟩
  item := by
    intro X hP hw hK hc i pins s σ H E I hf st hg
    obtain ⟨hz, hTI, ⟨x0, y0, hTO⟩, t1, t2⟩ := st
    obtain ⟨xs, ys, x, y, hqx, hqy, hx, hy⟩ := hg
    subst hK
    obtain ⟨its, rv, ho⟩ := Inv.kseq I hqx
    obtain ⟨its2, rv2, ho2⟩ := Inv.kseq I hqy
    obtain ⟨u, hu, ru⟩ := rv.get hx
    obtain ⟨u2, hu2, ru2⟩ := rv2.get hy
    have hh : X.A.in1.handled = none := by show X.A.handled = none; exact I.ok.hd hc
    have h1 : i < its.toArray.size := by simpa using (List.getElem?_eq_some_iff.mp hu).1
    have h2 : i < its2.toArray.size := by simpa using (List.getElem?_eq_some_iff.mp hu2).1
    have W := WalksT.zipD2 S (draws_k (prog := P) (w := w) hh kd i1 a (kiter_ne ho t1) its.toArray) (draws_k (prog := P) (w := w) hh kd2 i2 b (kiter_ne ho2 t2) its2.toArray)
    refine thn (walkT_item (elts := elts) (kk := kk) (tpos := tpos) (R := fun zs => zs = [x, y]) hP hw W I (fun b hb => hf b ?_) (by omega) ⟨hz, hTI, ⟨x0, y0, hTO⟩, ⟨t1, ho⟩, ⟨t2, ho2⟩⟩ fun vals hv => ?_) fun r s1 ⟨u1, er, h1⟩ => ⟨u1, er, thn h1 fun _ s2 ⟨T, zs, e1, e2, J, e3, st', hT⟩ => ?_⟩
    · have e' : b = z ∨ b = TO ∨ b = i1 ∨ b = i2 := by simpa using hb
      rcases e' with q | q | q | q <;> rw [q] <;> simp
    · obtain ⟨p1, p2, hp1, hp2, rfl⟩ := hv
      have hy1 : its[i]? = some p1 := by simpa using hp1
      have hy2 : its2[i]? = some p2 := by simpa using hp2
      rw [hu] at hy1; cases hy1
      rw [hu2] at hy2; cases hy2
      exact ⟨[x, y], .cons ru (.cons ru2 .nil), Nat.le_refl 2, rfl⟩
    · subst e3
      obtain ⟨hz', hTI', hTO', ⟨t1', _⟩, ⟨t2', _⟩⟩ := st'
      have old : ∀ c ∈ [z, TI, TO, i1, i2], ∃ o, s.heap.get? c = some o := fun c hcm => by
        obtain ⟨o1, e1, _, _⟩ := kiter_obj t1
        obtain ⟨o2, e2, _, _⟩ := kiter_obj t2
        have e' : c = z ∨ c = TI ∨ c = TO ∨ c = i1 ∨ c = i2 := by simpa using hcm
        rcases e' with q | q | q | q | q
        · rw [q]; exact ⟨_, hz⟩
        · rw [q]; exact ⟨_, hTI⟩
        · rw [q]; exact ⟨_, hTO⟩
        · rw [q]; exact ⟨_, e1⟩
        · rw [q]; exact ⟨_, e2⟩
      refine ⟨.ref T, _, J, e1 ▸ rfl, ⟨T, x, y, rfl, e2, rfl, fun l hl => by rw [Inv.kseq_inj I hl hqx]; exact hx, fun l hl => by rw [Inv.kseq_inj I hl hqy]; exact hy⟩, ⟨hz', hTI', hTO', t1', t2'⟩, fun c hcm => ?_⟩
      obtain ⟨o, ho'⟩ := old c hcm
      rw [upd_ne (Nat.ne_of_lt (Nat.lt_of_lt_of_le (Heap.lt_size ho') hT))]
      exact (hf c hcm).1
  done := by
    intro X hP hw hK hc i pins s σ H E I hf st hg
    obtain ⟨hz, hTI, ⟨x0, y0, hTO⟩, t1, t2⟩ := st
    obtain ⟨xs, ys, hqx, hqy, hend⟩ := hg
    subst hP hw hK
    obtain ⟨its, rv, ho⟩ := Inv.kseq I hqx
    obtain ⟨its2, rv2, ho2⟩ := Inv.kseq I hqy
    have l1 := rv.length
    have l2 := rv2.length
    have hh : X.A.in1.handled = none := by show X.A.handled = none; exact I.ok.hd hc
    have W := WalksT.zipD2 S (draws_k (prog := X.prog) (w := X.w) hh kd i1 a (kiter_ne ho t1) its.toArray) (draws_k (prog := X.prog) (w := X.w) hh kd2 i2 b (kiter_ne ho2 t2) its2.toArray)
    have hin : i = min its.toArray.size its2.toArray.size := by rw [List.size_toArray, List.size_toArray]; omega
    refine W.done s _ _ (hin ▸ ⟨hz, hTI, ⟨x0, y0, hTO⟩, ⟨t1, ho⟩, ⟨t2, ho2⟩⟩) fun h' tk hk => ⟨rfl, I.turnedL (ch := [z, TO, i1, i2]) hk fun b hb => hf b ?_⟩
    have e' : b = z ∨ b = TO ∨ b = i1 ∨ b = i2 := by simpa using hb
    rcases e' with q | q | q | q <;> rw [q] <;> simp
  self := fun A i s Q E st h => wpAny_pyIter_zip st.1 h
def iZipK (K : PySem.W.Frag) (ta : TA) : TI := fun σ H R => ta σ H fun vs H1 => ∃ kd kd2 a b xs ys, vs = [.ref a, .ref b] ∧ SqK kd K H1 a xs ∧ SqK kd2 K H1 b ys ∧ R (ItzK kd kd2 K a b) H1
theorem pi_zipK {X : Cx} {e e2 : Expr} {ta : TA} {p pos tpos : Pos} {elts : List Expr} {kk : Nat} (hg : Gl X "zip") (hm : X.mg "zip" = none) (ha : PA X [e, e2] ta)
    (hs : starEach [e, e2] X.env = (false, eval e X.env) :: starEach [e2] X.env) (hpl : (backTo pos (starEach [e2] X.env)).any (·.1) = false) :
    PI X (.Tuple elts kk tpos) (.Call (.Name "zip" p) [e, e2] [] pos) (iZipK X.K ta) := by
  refine ⟨fun pins s σ H R I h => ?_⟩
  refine Call_ (ld_blt I hg hm PyProof.Rows.boot_zip (PyProof.Rows.callWith_type1 (thn (ha.run pos pins s σ H _ I h) fun us s1 ⟨vs, H1, I1, r1, kd, kd2, a, b, xs, ys, ex, hq, hq2, q⟩ => ?_) hs hpl))
  subst ex
  obtain ⟨u, u2, rfl, ru, ru2⟩ := vals2 r1
  cases (show u = Value.ref a from ru)
  cases (show u2 = Value.ref b from ru2)
  obtain ⟨its, rv, ho⟩ := Inv.kseq I1 hq
  obtain ⟨its2, rv2, ho2⟩ := Inv.kseq I1 hq2
  refine zip_begins2 (begins_k kd a its.toArray) (begins_k kd2 b its2.toArray) ho ho2 fun h' hz hTI hTO h1 h2 hsz hk => wpAny_pyIter_zip hz ?_
  have I2 : Inv X pins σ H1 { s1 with heap := h' } := I1.kept (t' := s1.toks) hk
  have la : ∀ c ∈ [a], c < s1.heap.objs.size := fun c hc => by
    obtain ⟨o, e, _⟩ := kobj_cls ho
    rw [List.mem_singleton.mp hc]; exact Heap.lt_size e
  have lb : ∀ c ∈ [b], c < s1.heap.objs.size := fun c hc => by
    obtain ⟨o, e, _⟩ := kobj_cls ho2
    rw [List.mem_singleton.mp hc]; exact Heap.lt_size e
  refine ⟨s1.heap.objs.size + 4, [s1.heap.objs.size + 4, s1.heap.objs.size + 2, s1.heap.objs.size + 3, s1.heap.objs.size, s1.heap.objs.size + 1], _, _, H1, rfl, I2, turn_zipK kd kd2 (zip_sep2 la lb), ⟨hz, hTI, ⟨_, _, hTO⟩, knew_iter h1, knew_iter h2⟩, fun c hcm => ?_, q⟩
  have e' : c = s1.heap.objs.size + 4 ∨ c = s1.heap.objs.size + 2 ∨ c = s1.heap.objs.size + 3 ∨ c = s1.heap.objs.size ∨ c = s1.heap.objs.size + 1 := by simpa using hcm
  have hle : s1.heap.objs.size ≤ c := by
    rcases e' with z | z | z | z | z
    · rw [z]; exact Nat.le_add_right _ _
    · rw [z]; exact Nat.le_add_right _ _
    · rw [z]; exact Nat.le_add_right _ _
    · rw [z]; exact Nat.le_refl _
    · rw [z]; exact Nat.le_add_right _ _
  exact I1.fpOk hle (I1.hok.fresh hle)

def iRngV (te : TE) : TI := fun σ H R => te σ H fun x H1 => ∃ a lo hi, x = .ref a ∧ H1 a = some (.rng lo hi) ∧ (-(2 ^ 62) ≤ lo ∧ lo < 2 ^ 62 ∧ -(2 ^ 62) ≤ hi ∧ hi < 2 ^ 62) ∧ R (Itr lo (hi - lo).toNat) H1
theorem pi_rngV {X : Cx} {tg e : Expr} {te : TE} (he : PE X e te) : PI X tg e (iRngV te) := by
  refine ⟨fun pins s σ H R I h => ?_⟩
  refine thn (he.run pins s σ H _ I h) fun v s1 ⟨x, H1, I1, r1, a, lo, hi, ex, ea, ⟨b1, b2, b3, b4⟩, q⟩ => ?_
  subst ex
  cases (show v = Value.ref a from r1)
  obtain ⟨t, u, v, hr⟩ := I1.hok a _ ea
  refine wpAny_pyIter_range hr (small_one b1 b2 b3 b4) ?_
  refine ⟨s1.heap.objs.size, [s1.heap.objs.size], _, _, H1, rfl, I1.kept (t' := s1.toks) fun b o e => Heap.get?_push_of_some _ e, turn_range _ lo (hi - lo).toNat, ?_, fun b hb => ?_, q⟩
  · have e1 : lo + ((0 : Nat) : Int) * 1 = lo := by simp
    have e2 : (((hi - lo).toNat : Nat) : Int) - ((0 : Nat) : Int) = Builtin.Range.rangeSize lo hi 1 := by rw [rangeSize_one]; split <;> omega
    show IsRangeIter _ _ (lo + ((0 : Nat) : Int) * 1) ((((hi - lo).toNat : Nat) : Int) - ((0 : Nat) : Int)) 1
    rw [e1, e2]
    exact Heap.get?_push_size _ rfl
  · have e : b = s1.heap.objs.size := by simpa using hb
    subst e
    exact I1.fpOk (Nat.le_refl _) (I1.hok.fresh (Nat.le_refl _))
end GP
-- GL
set_option maxRecDepth 100000
set_option maxHeartbeats 4000000
namespace GP
open PySem PySem.Spec PyProof.Rows L2
def ItOk (G : Pg) (ro : Option Addr) (Hv : Hp) (J : It) (items : List PV) : Prop := ∀ H, Le Hv H →
  (∀ (i : Nat) p, items[i]? = some p → J.go i H ∧ ∀ x H', J.yld i H x H' → Same H H' ∧ Rep G ro (plus Hv H H') x p) ∧ J.stop items.length H
theorem ItOk.mono {G : Pg} {ro : Option Addr} {Hv Hv' : Hp} {J : It} {items : List PV} (e : Le Hv Hv') (h : ItOk G ro Hv J items) : ItOk G ro Hv' J items := fun H le => by
  obtain ⟨h1, h2⟩ := h H (e.trans le)
  refine ⟨fun i p hp => ?_, h2⟩
  obtain ⟨g, y⟩ := h1 i p hp
  refine ⟨g, fun x H' hy => ?_⟩
  obtain ⟨s, r⟩ := y x H' hy
  refine ⟨s, r.mono fun a o q n => ?_⟩
  unfold plus at q ⊢
  cases c : clr H a with
  | none => rw [c] at q; exact q
  | some u => rw [c] at q; exact e a o q n
def CI (G : Pg) (ro : Option Addr) : Hp → It → List PV → Prop := fun Hv J items => ItOk G ro Hv J items
def tDI (G : Pg) (Ex : XK) (S : List Nat) (d : Sto → M (List PV)) : TI := fun σ H R => ∃ ro V0 H0 ρ ω, SR G ro V0 H0 ρ ω σ H ∧ Post G Ex ro V0 H0 ρ σ S (CI G ro) H R (d ρ ω)
abbrev DI (X : Cx) (G : Pg) (Ex : XK) (tg e : Expr) (S : List Nat) (d : Sto → M (List PV)) : Prop := PI X tg e (tDI G Ex S d)
def chars (z : Str) : List PV := z.cps.toList.map fun c => .str ⟨#[c]⟩
def rg62 (a b : Int) : Bool := decide (-(2 ^ 62) ≤ a ∧ a < 2 ^ 62 ∧ -(2 ^ 62) ≤ b ∧ b < 2 ^ 62)
def seqP : PV → Option (List PV)
  | .lst ps => some ps
  | .tup ps => some ps
  | .str z => some (chars z)
  | .rng a b => if rg62 a b = true then some ((rgI a b).map .int) else none
  | _ => none
def sqP : PV → Option (List PV)
  | .lst ps => some ps
  | .tup ps => some ps
  | _ => none
def enumFrom (n : Nat) : List PV → List PV
  | [] => []
  | p :: ps => .tup [.int n, p] :: enumFrom (n + 1) ps
def zipP : List PV → List PV → List PV
  | p :: ps, q :: qs => .tup [p, q] :: zipP ps qs
  | _, _ => []
def dSeq (a : Sto → M PV) : Sto → M (List PV) := fun ρ => bnd (a ρ) fun p => opt (seqP p)
def enumL : List PV → Option (List PV)
  | [p] => (sqP p).map (enumFrom 0)
  | _ => none
def zipL : List PV → Option (List PV)
  | [p, q] => (sqP p).bind fun xs => (sqP q).map fun ys => zipP xs ys
  | _ => none
def dEnum (a : Sto → M (List PV)) : Sto → M (List PV) := fun ρ => bnd (a ρ) fun p => opt (enumL p)
def dZip (a : Sto → M (List PV)) : Sto → M (List PV) := fun ρ => bnd (a ρ) fun p => opt (zipL p)
section
variable {X : Cx} {G : Pg} {k : Nat} {Ex : XK} {tg e e2 : Expr} {S : List Nat} {da : Sto → M PV} {dl : Sto → M (List PV)} {p pos tpos : Pos}
theorem PI.imp {t t' : TI} (h : PI X tg e t) (i : ∀ σ H Q, t' σ H Q → t σ H Q) : PI X tg e t' := ⟨fun pins s σ H Q I q => h.run pins s σ H Q I (i σ H Q q)⟩
theorem itl_ok {K : PySem.W.Frag} {ro : Option Addr} {Hv : Hp} {a : Addr} {xs : List V} {ps : List PV} (h : Hv a = some (.lst xs)) (r : RepL G ro Hv xs ps) : ItOk G ro Hv (Itl K a) ps := fun H le => by
  have hq : SqL K H a xs := SqL.of (le _ _ h (nt_lst _))
  refine ⟨fun i p hp => ?_, ⟨xs, hq, by rw [r.length]; exact Nat.le_refl _⟩⟩
  obtain ⟨x, ex, rx⟩ := r.get hp
  refine ⟨⟨xs, x, hq, ex⟩, fun y H' hy => ?_⟩
  obtain ⟨rfl, hy⟩ := hy
  have := hy xs hq
  rw [ex] at this; cases this
  exact ⟨Same.refl _, rx.mono (plus_le le)⟩
theorem itt_ok {K : PySem.W.Frag} {ro : Option Addr} {Hv : Hp} {a : Addr} {xs : List V} {ps : List PV} (h : SqT K Hv a xs) (inj : ∀ H, Le Hv H → ∀ (i : Nat) x, (∀ zs, SqT K H a zs → zs[i]? = some x) → xs[i]? = some x) (r : RepL G ro Hv xs ps) : ItOk G ro Hv (Itt K a) ps := fun H le => by
  have hq : SqT K H a xs := le.sqT h
  refine ⟨fun i p hp => ?_, ⟨xs, hq, by rw [r.length]; exact Nat.le_refl _⟩⟩
  obtain ⟨x, ex, rx⟩ := r.get hp
  refine ⟨⟨xs, x, hq, ex⟩, fun y H' hy => ?_⟩
  obtain ⟨rfl, hy⟩ := hy
  have := hy xs hq
  rw [ex] at this; cases this
  exact ⟨Same.refl _, rx.mono (plus_le le)⟩
theorem rgI_at {a b : Int} {i : Nat} {p : PV} (h : ((rgI a b).map PV.int)[i]? = some p) : i < (b - a).toNat ∧ p = .int (a + i) := by
  unfold rgI at h
  rw [List.getElem?_map, List.getElem?_map] at h
  cases e : (List.range (b - a).toNat)[i]? with
  | none => rw [e] at h; cases h
  | some j =>
    rw [e] at h
    simp only [Option.map_some, Option.some.injEq] at h
    by_cases c : i < (b - a).toNat
    · rw [List.getElem?_range c] at e
      cases e
      exact ⟨c, h.symm⟩
    · rw [List.getElem?_eq_none (by simpa using c)] at e; cases e
theorem rgI_len (a b : Int) : (rgI a b).length = (b - a).toNat := by unfold rgI; rw [List.length_map, List.length_range]
theorem di_seq (hX : XG G k X) (ha : DE X G Ex e S da) : DI X G Ex tg e S (dSeq da) := by
  refine ⟨fun pins s σ H R I h => ?_⟩
  obtain ⟨ro, V0, H0, ρ, ω, J, h⟩ := h
  unfold dSeq bnd at h
  cases ed : da ρ ω with
  | bad => rw [ed] at h; exact h.elim
  | exn t p ω1 =>
    rw [ed] at h
    exact (pi_list ha).run pins s σ H R I ⟨ro, V0, H0, ρ, ω, J, by rw [ed]; exact h⟩
  | ok p ω1 =>
    rw [ed] at h
    obtain ⟨items, ei, h⟩ := post_opt h
    have fin : ∀ {Q : VK}, (∀ H' x, SR G ro V0 H0 ρ ω1 σ H' → Rep G ro (vw ro V0 H0 ρ σ H' S) x p → (∀ J, ItOk G ro (vw ro V0 H0 ρ σ H' S) J items → R J H') → Q x H') → tD G Ex S da σ H Q := fun q =>
      ⟨ro, V0, H0, ρ, ω, J, by rw [ed]; exact fun H' x k1 I1 c => q H' x I1 c fun J' ok => h H' J' k1 I1 ok⟩
    cases p with
    | lst ps =>
      simp only [seqP] at ei; cases ei
      refine (pi_list ha).run pins s σ H R I (fin fun H' x I1 c q => ?_)
      simp only [Rep] at c
      obtain ⟨a, xs, rfl, h1, h2⟩ := c
      exact ⟨a, rfl, ⟨xs, SqL.of (I1.vw_le _ _ h1 (nt_lst _))⟩, q _ (itl_ok h1 h2)⟩
    | tup ps =>
      simp only [seqP] at ei; cases ei
      refine (pi_tup ha).run pins s σ H R I (fin fun H' x I1 c q => ?_)
      simp only [Rep] at c
      obtain ⟨a, xs, rfl, h1, h2⟩ := c
      exact ⟨a, rfl, ⟨xs, hX.K ▸ I1.vw_le.sqT h1⟩, q _ (itt_ok (hX.K ▸ h1) (fun H le i x f => f xs (hX.K ▸ le.sqT h1)) h2)⟩
    | str z =>
      simp only [seqP] at ei; cases ei
      refine (pi_str ha).run pins s σ H R I (fin fun H' x I1 c q => ?_)
      simp only [Rep] at c
      refine ⟨z, c, q _ fun H2 le => ⟨fun i p hp => ?_, ?_⟩⟩
      · unfold chars at hp
        rw [List.getElem?_map] at hp
        obtain ⟨cc, e1, rfl⟩ := Option.map_eq_some_iff.mp hp
        have e2 : z.cps[i]? = some cc := by rw [← Array.getElem?_toList]; exact e1
        refine ⟨?_, fun x H3 hy => ?_⟩
        · show i < z.cps.size
          exact (Array.getElem?_eq_some_iff.mp e2).1
        · obtain ⟨rfl, c2, e3, rfl⟩ := hy
          rw [e2] at e3; cases e3
          exact ⟨Same.refl _, by simp [Rep]⟩
      · show z.cps.size ≤ (chars z).length
        unfold chars
        rw [List.length_map, Array.length_toList]
        exact Nat.le_refl _
    | rng a b =>
      simp only [seqP] at ei
      split at ei
      · rename_i hc
        cases ei
        refine (pi_rngV ha).run pins s σ H R I (fin fun H' x I1 c q => ?_)
        simp only [Rep] at c
        obtain ⟨r0, rfl, h1⟩ := c
        refine ⟨r0, a, b, rfl, I1.vw_le _ _ h1 (by intro ps z; cases z), of_decide_eq_true hc, q _ fun H2 le => ⟨fun i p hp => ?_, ?_⟩⟩
        · obtain ⟨g1, rfl⟩ := rgI_at hp
          refine ⟨g1, fun x H3 hy => ?_⟩
          obtain ⟨rfl, rfl⟩ := hy
          exact ⟨Same.refl _, by simp [Rep]⟩
        · show (b - a).toNat ≤ ((rgI a b).map PV.int).length
          rw [List.length_map, rgI_len]
          exact Nat.le_refl _
      · cases ei
    | _ => cases ei
theorem sqP_k {ro : Option Addr} {Hv : Hp} {p : PV} {ps : List PV} {x : V} (h : sqP p = some ps) (r : Rep G ro Hv x p) : ∃ kd a xs, x = .ref a ∧ SqK kd G.K Hv a xs ∧ RepL G ro Hv xs ps := by
  cases p <;> simp only [sqP] at h <;> (try cases h)
  · simp only [Rep] at r
    obtain ⟨a, xs, rfl, h1, h2⟩ := r
    exact ⟨true, a, xs, rfl, h1, h2⟩
  · simp only [Rep] at r
    obtain ⟨a, xs, rfl, h1, h2⟩ := r
    exact ⟨false, a, xs, rfl, SqL.of h1, h2⟩
theorem Le.sqK {K : PySem.W.Frag} {H H' : Hp} {kd : Bool} {a : Addr} {xs : List V} (e : Le H H') (h : SqK kd K H a xs) : SqK kd K H' a xs := by
  cases kd with
  | false => exact e.sqL h
  | true => exact e.sqT h
theorem enum_at : ∀ (ps : List PV) (n i : Nat), (enumFrom n ps)[i]? = (ps[i]?).map fun p => .tup [.int ((n + i : Nat) : Int), p]
  | [], n, i => by simp [enumFrom]
  | p :: ps, n, 0 => by simp [enumFrom]
  | p :: ps, n, i + 1 => by
    simp only [enumFrom, List.getElem?_cons_succ]
    rw [enum_at ps (n + 1) i, show n + 1 + i = n + (i + 1) by omega]
theorem enum_len : ∀ (ps : List PV) (n : Nat), (enumFrom n ps).length = ps.length
  | [], n => rfl
  | p :: ps, n => by simp only [enumFrom, List.length_cons, enum_len ps (n + 1)]
theorem zip_at : ∀ (ps qs : List PV) (i : Nat) (p : PV), (zipP ps qs)[i]? = some p → ∃ a b, ps[i]? = some a ∧ qs[i]? = some b ∧ p = .tup [a, b]
  | [], qs, i, p, h => by simp [zipP] at h
  | a :: ps, [], i, p, h => by simp [zipP] at h
  | a :: ps, b :: qs, 0, p, h => by
    simp only [zipP, List.getElem?_cons_zero, Option.some.injEq] at h
    exact ⟨a, b, rfl, rfl, h.symm⟩
  | a :: ps, b :: qs, i + 1, p, h => by
    simp only [zipP, List.getElem?_cons_succ] at h
    exact zip_at ps qs i p h
theorem zip_len : ∀ (ps qs : List PV), (zipP ps qs).length = min ps.length qs.length
  | [], qs => by simp [zipP]
  | a :: ps, [] => by simp [zipP]
  | a :: ps, b :: qs => by simp only [zipP, List.length_cons, zip_len ps qs]; omega
theorem rep_new2 {ro : Option Addr} {Hv H : Hp} {T : Addr} {x y : V} {p q : PV} (le : Le Hv H) (hT : H T = none) (hx : Rep G ro Hv x p) (hy : Rep G ro Hv y q) : Rep G ro (plus Hv H (upd H T (.tup [x, y]))) (.ref T) (.tup [p, q]) := by
  simp only [Rep]
  exact ⟨T, [x, y], rfl, .inl (.inl (plus_new hT)), .cons (hx.mono (plus_le le)) (.cons (hy.mono (plus_le le)) .nil)⟩
theorem di_enum {elts : List Expr} {kk : Nat} (hX : XG G k X) (hg : Gl X "enumerate") (hm : X.mg "enumerate" = none) (ha : DL X G Ex [e] S dl) (hs : starEach [e] X.env = (false, eval e X.env) :: starEach [] X.env) :
    DI X G Ex (.Tuple elts kk tpos) (.Call (.Name "enumerate" p) [e] [] pos) S (dEnum dl) := by
  refine PI.imp (pi_enumK hg hm ha hs) fun σ H R ⟨ro, V0, H0, ρ, ω, I, h⟩ => ?_
  refine ⟨ro, V0, H0, ρ, ω, I, post_bnd (by simp) h fun ps ω1 H1 vs e k I1 c h1 => ?_⟩
  obtain ⟨items, ei, h2⟩ := post_opt h1
  unfold enumL at ei
  split at ei
  · obtain ⟨l, e1, rfl⟩ := Option.map_eq_some_iff.mp ei
    obtain ⟨x, rfl, rx⟩ := rep1 c
    obtain ⟨kd, a, xs, rfl, q1, q2⟩ := sqP_k e1 rx
    refine ⟨kd, a, xs, rfl, hX.K ▸ I1.vw_le.sqK q1, h2 H1 _ (.refl _ _) I1 fun H2 le => ⟨fun i p hp => ?_, ?_⟩⟩
    · have hq : SqK kd X.K H2 a xs := hX.K ▸ le.sqK q1
      rw [enum_at] at hp
      obtain ⟨p0, e2, rfl⟩ := Option.map_eq_some_iff.mp hp
      obtain ⟨y, ey, ry⟩ := q2.get e2
      refine ⟨⟨xs, y, hq, ey⟩, fun z H3 hy => ?_⟩
      obtain ⟨T, y', rfl, hT, rfl, f⟩ := hy
      have := f xs hq
      rw [ey] at this; cases this
      refine ⟨same_upd hT, ?_⟩
      rw [show ((0 + i : Nat) : Int) = (i : Int) by simp]
      exact rep_new2 le hT (by simp [Rep]) ry
    · exact ⟨xs, hX.K ▸ le.sqK q1, by rw [enum_len, q2.length]⟩
  · cases ei
theorem di_zip {elts : List Expr} {kk : Nat} (hX : XG G k X) (hg : Gl X "zip") (hm : X.mg "zip" = none) (ha : DL X G Ex [e, e2] S dl) (hs : starEach [e, e2] X.env = (false, eval e X.env) :: starEach [e2] X.env)
    (hpl : (backTo pos (starEach [e2] X.env)).any (·.1) = false) : DI X G Ex (.Tuple elts kk tpos) (.Call (.Name "zip" p) [e, e2] [] pos) S (dZip dl) := by
  refine PI.imp (pi_zipK hg hm ha hs hpl) fun σ H R ⟨ro, V0, H0, ρ, ω, I, h⟩ => ?_
  refine ⟨ro, V0, H0, ρ, ω, I, post_bnd (by simp) h fun ps ω1 H1 vs e k I1 c h1 => ?_⟩
  obtain ⟨items, ei, h2⟩ := post_opt h1
  unfold zipL at ei
  split at ei
  · obtain ⟨l, e1, e3⟩ := Option.bind_eq_some_iff.mp ei
    obtain ⟨l2, e4, rfl⟩ := Option.map_eq_some_iff.mp e3
    obtain ⟨x, y, rfl, rx, ry⟩ := rep2 c
    obtain ⟨kd, a, xs, rfl, q1, q2⟩ := sqP_k e1 rx
    obtain ⟨kd2, b, ys, rfl, q3, q4⟩ := sqP_k e4 ry
    refine ⟨kd, kd2, a, b, xs, ys, rfl, hX.K ▸ I1.vw_le.sqK q1, hX.K ▸ I1.vw_le.sqK q3, h2 H1 _ (.refl _ _) I1 fun H2 le => ⟨fun i p hp => ?_, ?_⟩⟩
    · have hq : SqK kd X.K H2 a xs := hX.K ▸ le.sqK q1
      have hq2 : SqK kd2 X.K H2 b ys := hX.K ▸ le.sqK q3
      obtain ⟨pa, pb, ea, eb, rfl⟩ := zip_at _ _ _ _ hp
      obtain ⟨u, eu, ru⟩ := q2.get ea
      obtain ⟨v, ev, rv⟩ := q4.get eb
      refine ⟨⟨xs, ys, u, v, hq, hq2, eu, ev⟩, fun z H3 hy => ?_⟩
      obtain ⟨T, u', v', rfl, hT, rfl, f1, f2⟩ := hy
      have g1 := f1 xs hq
      rw [eu] at g1; cases g1
      have g2 := f2 ys hq2
      rw [ev] at g2; cases g2
      exact ⟨same_upd hT, rep_new2 le hT ru rv⟩
    · exact ⟨xs, ys, hX.K ▸ le.sqK q1, hX.K ▸ le.sqK q3, by rw [zip_len, q2.length, q4.length]⟩
  · cases ei
end
end GP
-- GM
set_option maxRecDepth 100000
set_option maxHeartbeats 4000000
namespace GP
open PySem PySem.Spec PyProof.Rows L2
section
variable {G : Pg} {ro : Option Addr} {V0 H0 : Hp} {ρ ρ' : Sto} {ω ω' : Rw} {σ σ' : L2.St} {H H' : Hp} {S S' : List Nat}
theorem owned_set {i : Nat} {s : Sl} {x : Option V} {a : Addr} (hs : ∀ v, s ≠ .ow v) (h : Owned (ρ.set i s) (σ.set i x) S a) : Owned ρ σ S a := by
  obtain ⟨j, v, hj, e1, e2⟩ := h
  by_cases c : j = i
  · subst c
    by_cases hl : j < ρ.length
    · rw [List.getElem?_set_self hl] at e1
      cases e1
      exact absurd rfl (hs v)
    · rw [List.getElem?_eq_none (by simpa using hl)] at e1; cases e1
  · rw [List.getElem?_set_ne (Ne.symm c)] at e1 e2
    exact ⟨j, v, hj, e1, e2⟩
theorem vw_less {ρ' : Sto} {σ' : L2.St} (h : ∀ a, Owned ρ' σ' S a → Owned ρ σ S a) : Le (vw ro V0 H0 ρ σ H S) (vw ro V0 H0 ρ' σ' H S) := fun a o e n => by
  obtain ⟨h1, h2, h3⟩ := vw_some e
  exact vw_mk h1 (fun z => h2 (h a z)) h3
theorem SR.put (I : SR G ro V0 H0 ρ ω σ H) {i : Nat} {s : Sl} {x : Option V} (hs : ∀ v, s ≠ .ow v) (r : SlotR G ro (vw ro V0 H0 ρ σ H []) H s x) : SR G ro V0 H0 (ρ.set i s) ω (σ.set i x) H where
  keep := I.keep
  tf := I.tf
  v0 := I.v0
  len := by rw [List.length_set, List.length_set]; exact I.len
  slot := fun j t y e1 e2 => by
    have le : Le (vw ro V0 H0 ρ σ H []) (vw ro V0 H0 (ρ.set i s) (σ.set i x) H []) := vw_less fun a => owned_set hs
    by_cases c : j = i
    · subst c
      by_cases hl : j < ρ.length
      · rw [List.getElem?_set_self hl] at e1
        rw [List.getElem?_set_self (by rw [← I.len]; exact hl)] at e2
        cases e1; cases e2
        cases s with
        | no => trivial
        | sh p => obtain ⟨v, e, r⟩ := r; exact ⟨v, e, r.mono le⟩
        | ow p => exact absurd rfl (hs p)
      · rw [List.getElem?_eq_none (by simpa using hl)] at e1; cases e1
    · rw [List.getElem?_set_ne (Ne.symm c)] at e1 e2
      have h := I.slot j t y e1 e2
      cases t with
      | no => trivial
      | sh p => obtain ⟨v, e, r⟩ := h; exact ⟨v, e, r.mono le⟩
      | ow p => obtain ⟨a, o, e, h1, h2⟩ := h; exact ⟨a, o, e, h1, h2.mono le⟩
  own := fun j v a e1 e2 => by
    by_cases c : j = i
    · subst c
      by_cases hl : j < ρ.length
      · rw [List.getElem?_set_self hl] at e1
        cases e1; exact absurd rfl (hs v)
      · rw [List.getElem?_eq_none (by simpa using hl)] at e1; cases e1
    · rw [List.getElem?_set_ne (Ne.symm c)] at e1 e2
      exact I.own j v a e1 e2
  dist := fun j l v u a e1 e2 e3 e4 => by
    have none_ : ∀ {j : Nat} {v : PV}, (ρ.set i s)[j]? = some (.ow v) → j ≠ i := fun {j v} e1 c => by
      subst c
      by_cases hl : j < ρ.length
      · rw [List.getElem?_set_self hl] at e1
        cases e1; exact absurd rfl (hs v)
      · rw [List.getElem?_eq_none (by simpa using hl)] at e1; cases e1
    have c1 := none_ e1
    have c2 := none_ e2
    rw [List.getElem?_set_ne (Ne.symm c1)] at e1 e3
    rw [List.getElem?_set_ne (Ne.symm c2)] at e2 e4
    exact I.dist j l v u a e1 e2 e3 e4
  row := I.row
  tabs := I.tabs
def wipeS (ρ : Sto) : List Nat → Sto
  | [] => ρ
  | v :: vs => (wipeS ρ vs).set v .no
theorem wipeS_len (ρ : Sto) : ∀ vs : List Nat, (wipeS ρ vs).length = ρ.length
  | [] => rfl
  | v :: vs => by unfold wipeS; rw [List.length_set, wipeS_len ρ vs]
theorem SR.wiped (I : SR G ro V0 H0 ρ ω σ H) : ∀ vs : List Nat, SR G ro V0 H0 (wipeS ρ vs) ω (wipe σ vs) H
  | [] => I
  | v :: vs => (I.wiped vs).put (by intro _ z; cases z) trivial
theorem owned_wipe {a : Addr} : ∀ vs : List Nat, Owned (wipeS ρ vs) (wipe σ vs) S a → Owned ρ σ S a
  | [], h => h
  | v :: vs, h => owned_wipe vs (owned_set (by intro _ z; cases z) h)
theorem owned_wipe' (len : ρ.length = σ.length) {a : Addr} : ∀ vs : List Nat, (∀ i ∈ vs, i ∈ S) → Owned ρ σ S a → Owned (wipeS ρ vs) (wipe σ vs) S a
  | [], _, h => h
  | v :: vs, hs, h => by
    obtain ⟨i, u, hi, e1, e2⟩ := owned_wipe' len vs (fun i hi => hs i (List.mem_cons_of_mem _ hi)) h
    have c : i ≠ v := fun z => hi (z ▸ hs v List.mem_cons_self)
    refine ⟨i, u, hi, ?_, ?_⟩
    · show ((wipeS ρ vs).set v .no)[i]? = _
      rw [List.getElem?_set_ne (Ne.symm c)]; exact e1
    · show ((wipe σ vs).set v none)[i]? = _
      rw [List.getElem?_set_ne (Ne.symm c)]; exact e2
theorem wipe_set (v : Option V) {i : Nat} : ∀ {vs : List Nat}, i ∈ vs → wipe (σ.set i v) vs = wipe σ vs
  | [], h => absurd h (by simp)
  | w :: vs, h => by
    unfold wipe
    rcases List.mem_cons.mp h with rfl | h
    · have : ∀ (l : List Nat) (σ : L2.St), (wipe (σ.set i v) l).set i none = (wipe σ l).set i none := by
        intro l
        induction l with
        | nil => intro σ; unfold wipe; rw [List.set_set]
        | cons w l ih =>
          intro σ
          unfold wipe
          by_cases c : w = i
          · subst c; rw [List.set_set, List.set_set]; exact ih σ
          · rw [List.set_comm _ _ c, List.set_comm _ _ c, ih σ]
      exact this vs σ
    · rw [wipe_set v h]
theorem wipe_wipe : ∀ vs ws : List Nat, (∀ i ∈ ws, i ∈ vs) → wipe (wipe σ ws) vs = wipe σ vs
  | vs, [], _ => rfl
  | vs, w :: ws, h => by
    show wipe ((wipe σ ws).set w none) vs = _
    rw [wipe_set none (h w List.mem_cons_self)]
    exact wipe_wipe vs ws fun i hi => h i (List.mem_cons_of_mem _ hi)
end

inductive Tg where
  | nm (i : Nat) | tup (is : List Nat)
def setsS : List Nat → List PV → Sto → Sto
  | i :: is, p :: ps, ρ => setsS is ps (ρ.set i (.sh p))
  | _, _, ρ => ρ
def setsV : List Nat → List V → L2.St → L2.St
  | i :: is, x :: xs, σ => setsV is xs (σ.set i (some x))
  | _, _, σ => σ
def tgIs : Tg → List Nat
  | .nm i => [i]
  | .tup is => is
def tgS : Tg → PV → Sto → Option Sto
  | .nm i, p, ρ => some (ρ.set i (.sh p))
  | .tup is, .tup ps, ρ => if ps.length = is.length then some (setsS is ps ρ) else none
  | _, _, _ => none
def gNames : List Nat → TGs
  | [] => gNil
  | i :: is => gCons (gName i) (gNames is)
def gT (K : PySem.W.Frag) : Tg → TG
  | .nm i => gName i
  | .tup is => gTup K is.length (gNames is)
section
variable {G : Pg} {ro : Option Addr} {V0 H0 : Hp} {ρ : Sto} {ω : Rw} {σ : L2.St} {H : Hp} {S : List Nat}
theorem SR.sets : ∀ (is : List Nat) (ps : List PV) (xs : List V) (ρ : Sto) (σ : L2.St), SR G ro V0 H0 ρ ω σ H → RepL G ro (vw ro V0 H0 ρ σ H []) xs ps → SR G ro V0 H0 (setsS is ps ρ) ω (setsV is xs σ) H
  | [], _, _, _, _, I, _ => I
  | i :: is, [], xs, ρ, σ, I, h => by
    simp only [RepL] at h
    subst h
    exact I
  | i :: is, p :: ps, xs, ρ, σ, I, h => by
    simp only [RepL] at h
    obtain ⟨y, ys, rfl, h1, h2⟩ := h
    exact SR.sets is ps ys _ _ (I.put (i := i) (s := .sh p) (x := some y) (by intro _ z; cases z) ⟨y, rfl, h1⟩) (h2.mono (vw_less fun a => owned_set (by intro _ z; cases z)))
theorem owned_sets {a : Addr} : ∀ (is : List Nat) (ps : List PV) (xs : List V) (ρ : Sto) (σ : L2.St), ps.length = xs.length → Owned (setsS is ps ρ) (setsV is xs σ) S a → Owned ρ σ S a
  | [], _, _, _, _, _, h => h
  | i :: is, [], [], ρ, σ, _, h => h
  | i :: is, p :: ps, x :: xs, ρ, σ, hl, h => owned_set (by intro _ z; cases z) (owned_sets is ps xs _ _ (by simpa using hl) h)
  | i :: is, [], x :: xs, ρ, σ, hl, h => by simp at hl
  | i :: is, p :: ps, [], ρ, σ, hl, h => by simp at hl
theorem owned_sets' {a : Addr} : ∀ (is : List Nat) (ps : List PV) (xs : List V) (ρ : Sto) (σ : L2.St), ps.length = xs.length → (∀ i ∈ is, i ∈ S) → Owned ρ σ S a → Owned (setsS is ps ρ) (setsV is xs σ) S a
  | [], _, _, _, _, _, _, h => h
  | i :: is, [], [], ρ, σ, _, _, h => h
  | i :: is, p :: ps, x :: xs, ρ, σ, hl, hs, h => by
    refine owned_sets' is ps xs _ _ (by simpa using hl) (fun j hj => hs j (List.mem_cons_of_mem _ hj)) ?_
    obtain ⟨j, u, hj, e1, e2⟩ := h
    have c : j ≠ i := fun z => hj (z ▸ hs i List.mem_cons_self)
    exact ⟨j, u, hj, by rw [List.getElem?_set_ne (Ne.symm c)]; exact e1, by rw [List.getElem?_set_ne (Ne.symm c)]; exact e2⟩
  | i :: is, [], x :: xs, ρ, σ, hl, _, h => by simp at hl
  | i :: is, p :: ps, [], ρ, σ, hl, _, h => by simp at hl
theorem wipe_sets {vs : List Nat} : ∀ (is : List Nat) (xs : List V) (σ : L2.St), (∀ i ∈ is, i ∈ vs) → wipe (setsV is xs σ) vs = wipe σ vs
  | [], _, _, _ => rfl
  | i :: is, [], σ, _ => rfl
  | i :: is, x :: xs, σ, h => by
    show wipe (setsV is xs (σ.set i (some x))) vs = _
    rw [wipe_sets is xs _ fun j hj => h j (List.mem_cons_of_mem _ hj), wipe_set _ (h i List.mem_cons_self)]
theorem gNames_ok {Q : L2.St → Hp → Prop} : ∀ (is : List Nat) (xs : List V) (σ : L2.St), xs.length = is.length → Q (setsV is xs σ) H → gNames is xs σ H Q
  | [], [], σ, _, q => ⟨rfl, q⟩
  | [], x :: xs, σ, h, _ => by simp at h
  | i :: is, [], σ, h, _ => by simp at h
  | i :: is, x :: xs, σ, h, q => ⟨x, xs, rfl, gNames_ok is xs _ (by simpa using h) q⟩
theorem tg_ok {K : PySem.W.Frag} {tg : Tg} {p : PV} {x : V} {ρ1 : Sto} {Q : L2.St → Hp → Prop} (hK : K = G.K) (I : SR G ro V0 H0 ρ ω σ H) (r : Rep G ro (vw ro V0 H0 ρ σ H []) x p) (e : tgS tg p ρ = some ρ1)
    (q : ∀ σ1, SR G ro V0 H0 ρ1 ω σ1 H → (∀ a, Owned ρ1 σ1 S a → Owned ρ σ S a) → ((∀ i ∈ tgIs tg, i ∈ S) → ∀ a, Owned ρ σ S a → Owned ρ1 σ1 S a) → (∀ vs, (∀ i ∈ tgIs tg, i ∈ vs) → wipe σ1 vs = wipe σ vs) → Q σ1 H) : gT K tg x σ H Q := by
  cases tg with
  | nm i =>
    simp only [tgS] at e
    cases e
    refine q _ (I.put (by intro _ z; cases z) ⟨x, rfl, r⟩) (fun a => owned_set (by intro _ z; cases z)) (fun hs a h => ?_) fun vs h => wipe_set _ (h i (by simp [tgIs]))
    exact owned_sets' [i] [p] [x] ρ σ rfl hs h
  | tup is =>
    cases p <;> simp only [tgS] at e <;> (try cases e)
    rename_i ps
    split at e
    · rename_i hl
      cases e
      simp only [Rep] at r
      obtain ⟨a, xs, rfl, h1, h2⟩ := r
      have l := h2.length
      refine ⟨a, xs, rfl, hK ▸ I.vw_le.sqT h1, by rw [l, hl], gNames_ok is xs σ (by rw [l, hl]) ?_⟩
      exact q _ (SR.sets is ps xs ρ σ I h2) (fun a => owned_sets is ps xs ρ σ l.symm) (fun hs a h => owned_sets' is ps xs ρ σ l.symm hs h) fun vs h => wipe_sets is xs σ h
    · cases e
end

theorem clr_ne {H : Hp} {a b : Addr} {o : HO} (h : b ≠ a) : clr (upd H a o) b = clr H b := by unfold clr; rw [upd_ne h]
theorem clr_same {H : Hp} {a : Addr} {o : HO} (n : NoTb o) : clr (upd H a o) a = some o := clr_some upd_same n
theorem tf_upd {H : Hp} {a : Addr} {o : HO} (n : NoTb o) (h : ∀ b ps, H b ≠ some (.tbl ps)) : ∀ b ps, upd H a o b ≠ some (.tbl ps) := fun b ps e => by
  by_cases c : b = a
  · subst c; rw [upd_same] at e; cases e; exact n ps rfl
  · rw [upd_ne c] at e; exact h b ps e
def hide (H0 : Hp) (D : Addr) (o : HO) : Hp := upd H0 D o
section
variable {G : Pg} {ro : Option Addr} {V0 H0 : Hp} {ρ : Sto} {ω : Rw} {σ : L2.St} {H H' : Hp} {S : List Nat} {D : Addr} {o o' : HO}
theorem SR.v0none (I : SR G ro V0 H0 ρ ω σ H) (h : H D = none) : ∀ u, V0 D = some u → NoTb u → False := fun u e n => by
  have := I.v0 D u e n
  rw [I.dom0 (clr_none h)] at this; cases this
theorem SR.v0none' (I : SR G ro V0 H0 ρ ω σ H) (h : clr H D = none) : ∀ u, V0 D = some u → NoTb u → False := fun u e n => by
  have := I.v0 D u e n
  rw [I.dom0 h] at this; cases this
theorem hide_vw (hv : ∀ u, V0 D = some u → NoTb u → False) (h0 : H0 D = none) : Le (vw ro V0 (hide H0 D o) ρ σ H S) (vw ro V0 H0 ρ σ H S) := fun a u e n => by
  obtain ⟨h1, h2, h3⟩ := vw_some e
  refine vw_mk h1 h2 ?_
  by_cases c : a = D
  · subst c
    unfold hide at h3
    rw [upd_same, if_neg (by simp)] at h3
    exact (hv u h3 n).elim
  · unfold hide at h3
    rw [upd_ne c] at h3
    exact h3
theorem hide_vw' (hH : H D = none) : Le (vw ro V0 H0 ρ σ H S) (vw ro V0 (hide H0 D o) ρ σ (upd H D o') S) := fun a u e n => by
  obtain ⟨h1, h2, h3⟩ := vw_some e
  refine vw_mk h1 h2 ?_
  unfold hide
  by_cases c : a = D
  · subst c
    rw [hH] at h3
    split at h3
    · cases h3
    · rename_i z; rw [upd_same, if_neg (by simp)]; exact h3
  · rw [upd_ne c, upd_ne c]
    exact h3
theorem SR.hid (I : SR G ro V0 H0 ρ ω σ H) (hD : H D = none) (no : NoTb o) : SR G ro V0 (hide H0 D o) ρ ω σ (upd H D o) where
  keep := by
    refine ⟨fun b u e n r => ?_, fun b e => ?_⟩
    · unfold hide at e
      by_cases c : b = D
      · subst c; rw [upd_same] at e; cases e; exact upd_same
      · rw [upd_ne c] at e; rw [upd_ne c]; exact I.keep.old b u e n r
    · unfold hide
      by_cases c : b = D
      · subst c; rw [clr_same no] at e; cases e
      · rw [clr_ne c] at e; rw [clr_ne c]; exact I.keep.dom b e
  tf := tf_upd no I.tf
  v0 := fun a u e n => by
    unfold hide
    by_cases c : a = D
    · subst c; exact (I.v0none hD u e n).elim
    · rw [upd_ne c]; exact I.v0 a u e n
  len := I.len
  slot := fun i s x e1 e2 => by
    have h := I.slot i s x e1 e2
    cases s with
    | no => trivial
    | sh p => obtain ⟨v, e, r⟩ := h; exact ⟨v, e, r.mono (hide_vw' hD)⟩
    | ow p => obtain ⟨a, u, e, h1, h2⟩ := h; exact ⟨a, u, e, by rw [upd_ne (ne_of_none h1 hD)]; exact h1, h2.mono (hide_vw' hD)⟩
  own := fun i v a e1 e2 => by
    obtain ⟨h1, h2⟩ := I.own i v a e1 e2
    refine ⟨?_, h2⟩
    obtain ⟨a', u, e, h3, _⟩ := I.slot i _ _ e1 e2
    cases e
    unfold hide
    rw [upd_ne (ne_of_none h3 hD)]; exact h1
  dist := I.dist
  row := I.row.keep (same_upd hD)
  tabs := I.tabs.ext (same_upd hD)
theorem SR.hidGrow (I : SR G ro V0 (hide H0 D o) ρ ω σ H) (no : NoTb o) (rD : ro ≠ some D) (lk : ∀ x, o ≠ .frz x (.lst (ω.sc.map V.int)))  (hv : ∀ u, V0 D = some u → NoTb u → False) (htb : ∀ ps, o ≠ .tbl ps) (hco : ∀ c q, o ≠ LamX.CodeO c q) (no' : NoTb o') : SR G ro V0 (hide H0 D o') ρ ω σ (upd H D o') where
  keep := by
    refine ⟨fun b u e n r => ?_, fun b e => ?_⟩
    · unfold hide at e
      by_cases c : b = D
      · subst c; rw [upd_same] at e; cases e; exact upd_same
      · rw [upd_ne c] at e; rw [upd_ne c]
        exact I.keep.old b u (by unfold hide; rw [upd_ne c]; exact e) n r
    · unfold hide
      by_cases c : b = D
      · subst c; rw [clr_same no'] at e; cases e
      · rw [clr_ne c] at e; rw [clr_ne c]
        have := I.keep.dom b e
        unfold hide at this
        rw [clr_ne c] at this; exact this
  tf := fun b ps e => by
    unfold hide at e
    by_cases c : b = D
    · subst c; rw [upd_same] at e; cases e; exact no' ps rfl
    · rw [upd_ne c] at e; exact I.tf b ps (by unfold hide; rw [upd_ne c]; exact e)
  v0 := fun a u e n => by
    unfold hide
    by_cases c : a = D
    · subst c; exact (hv u e n).elim
    · rw [upd_ne c]
      have := I.v0 a u e n
      unfold hide at this
      rw [upd_ne c] at this; exact this
  len := I.len
  slot := fun i s x e1 e2 => by
    have h := I.slot i s x e1 e2
    have le : Le (vw ro V0 (hide H0 D o) ρ σ H []) (vw ro V0 (hide H0 D o') ρ σ (upd H D o') []) := fun a u e n => by
      obtain ⟨h1, h2, h3⟩ := vw_some e
      refine vw_mk h1 h2 ?_
      unfold hide at h3 ⊢
      by_cases c : a = D
      · subst c
        rw [upd_same, if_neg (by simp)] at h3 ⊢
        exact h3
      · rw [upd_ne c] at h3 ⊢; rw [upd_ne c]; exact h3
    cases s with
    | no => trivial
    | sh p => obtain ⟨v, e, r⟩ := h; exact ⟨v, e, r.mono le⟩
    | ow p =>
      obtain ⟨a, u, e, h1, h2⟩ := h
      subst e
      have c : a ≠ D := fun z => by
        have q := (I.own i p a e1 e2).1
        rw [z] at q
        unfold hide at q
        rw [upd_same] at q; cases q
      exact ⟨a, u, rfl, by rw [upd_ne c]; exact h1, h2.mono le⟩
  own := fun i v a e1 e2 => by
    obtain ⟨h1, h2⟩ := I.own i v a e1 e2
    refine ⟨?_, h2⟩
    unfold hide at h1 ⊢
    by_cases c : a = D
    · subst c; rw [upd_same] at h1; cases h1
    · rw [upd_ne c] at h1 ⊢; exact h1
  dist := I.dist
  row := by
    have hD : H D = some o := I.keep.old D o (by unfold hide; exact upd_same) no rD
    have r := I.row
    cases ro with
    | none => trivial
    | some r0 =>
      obtain ⟨a1, a2, a3, sa, e1, e2⟩ := r
      refine ⟨a1, a2, a3, sa, ?_, e2.hold fun x e2 => ?_⟩
      · rw [upd_ne (fun z => rD (by rw [z]))]; exact e1
      · rw [upd_ne (fun z => by rw [z, hD] at e2; cases e2; exact lk x rfl)]; exact e2
  tabs := by
    have hD : H D = some o := I.keep.old D o (by unfold hide; exact upd_same) no rD
    intro p hp
    obtain ⟨ps, h1, h2, h3⟩ := I.tabs p hp
    refine ⟨ps, ?_, h2, fun pos cv hc => ?_⟩
    · rw [upd_ne (fun z => by rw [z, hD] at h1; cases h1; exact htb ps rfl)]; exact h1
    · obtain ⟨c, e, h4⟩ := h3 pos cv hc
      refine ⟨c, e, ?_⟩
      rw [upd_ne (fun z => by rw [z, hD] at h4; cases h4; exact hco _ _ rfl)]; exact h4
theorem SR.shown (I : SR G ro V0 (hide H0 D o) ρ ω σ H) (h0 : H0 D = none) (hv : ∀ u, V0 D = some u → NoTb u → False) : SR G ro V0 H0 ρ ω σ H where
  keep := by
    refine ⟨fun b u e n r => ?_, fun b e => ?_⟩
    · have c : b ≠ D := fun z => by subst z; rw [h0] at e; cases e
      exact I.keep.old b u (by unfold hide; rw [upd_ne c]; exact e) n r
    · have := I.keep.dom b e
      by_cases c : b = D
      · subst c; exact clr_none h0
      · unfold hide at this; rw [clr_ne c] at this; exact this
  tf := fun b ps e => by
    by_cases c : b = D
    · subst c; rw [h0] at e; cases e
    · exact I.tf b ps (by unfold hide; rw [upd_ne c]; exact e)
  v0 := fun a u e n => by
    by_cases c : a = D
    · subst c; exact (hv u e n).elim
    · have := I.v0 a u e n
      unfold hide at this
      rw [upd_ne c] at this; exact this
  len := I.len
  slot := fun i s x e1 e2 => by
    have h := I.slot i s x e1 e2
    cases s with
    | no => trivial
    | sh p => obtain ⟨v, e, r⟩ := h; exact ⟨v, e, r.mono (hide_vw hv h0)⟩
    | ow p => obtain ⟨a, u, e, h1, h2⟩ := h; exact ⟨a, u, e, h1, h2.mono (hide_vw hv h0)⟩
  own := fun i v a e1 e2 => by
    obtain ⟨h1, h2⟩ := I.own i v a e1 e2
    refine ⟨?_, h2⟩
    unfold hide at h1
    by_cases c : a = D
    · subst c; exact h0
    · rw [upd_ne c] at h1; exact h1
  dist := I.dist
  row := I.row
  tabs := I.tabs
end
end GP
-- GN
set_option maxRecDepth 100000
set_option maxHeartbeats 4000000
namespace GP
open PySem PySem.Spec PyProof.Rows L2
def E0 : XK := fun _ _ _ => False
theorem pass_E0 (X : Cx) : Passes (L2.CX X.prog X.w) X E0 := fun _ _ _ _ e _ _ c => by
  obtain ⟨a, B, H', cls, d, rfl, fl, hok, ub, na, os, ag, hE⟩ := c
  exact hE.elim
def frz1 (ρ : Sto) (i : Nat) : Sto := match ρ[i]? with
  | some (.ow p) => ρ.set i (.sh p)
  | _ => ρ
def frzS (ρ : Sto) : List Nat → Sto
  | [] => ρ
  | i :: is => frz1 (frzS ρ is) i
section
variable {G : Pg} {ro : Option Addr} {V0 H0 : Hp} {ρ : Sto} {ω : Rw} {σ : L2.St} {H H' : Hp} {S S' : List Nat} {D : Addr}
theorem frz1_ow {i j : Nat} {v : PV} (h : (frz1 ρ i)[j]? = some (.ow v)) : ρ[j]? = some (.ow v) ∧ j ≠ i := by
  unfold frz1 at h
  split at h
  · rename_i p hp
    by_cases c : j = i
    · subst c
      have hl : j < ρ.length := (List.getElem?_eq_some_iff.mp hp).1
      rw [List.getElem?_set_self hl] at h; cases h
    · rw [List.getElem?_set_ne (Ne.symm c)] at h; exact ⟨h, c⟩
  · rename_i hn
    refine ⟨h, fun c => ?_⟩
    subst c
    exact hn v h
theorem frz1_ow' {i j : Nat} {v : PV} (h : ρ[j]? = some (.ow v)) (c : j ≠ i) : (frz1 ρ i)[j]? = some (.ow v) := by
  unfold frz1
  split
  · rw [List.getElem?_set_ne (Ne.symm c)]; exact h
  · exact h
theorem frzS_ow {j : Nat} {v : PV} : ∀ {is : List Nat}, (frzS ρ is)[j]? = some (.ow v) → ρ[j]? = some (.ow v) ∧ j ∉ is
  | [], h => ⟨h, by simp⟩
  | i :: is, h => by
    obtain ⟨h1, h2⟩ := frz1_ow h
    obtain ⟨h3, h4⟩ := frzS_ow h1
    exact ⟨h3, by simp [h2, h4]⟩
theorem frzS_ow' {j : Nat} {v : PV} (h : ρ[j]? = some (.ow v)) : ∀ {is : List Nat}, j ∉ is → (frzS ρ is)[j]? = some (.ow v)
  | [], _ => h
  | i :: is, c => frz1_ow' (frzS_ow' h fun z => c (List.mem_cons_of_mem _ z)) fun z => c (z ▸ List.mem_cons_self)
theorem owned_frz {a : Addr} (h : Owned (frzS ρ S') σ S a) : Owned ρ σ (S' ++ S) a := by
  obtain ⟨i, v, hi, e1, e2⟩ := h
  obtain ⟨e3, e4⟩ := frzS_ow e1
  exact ⟨i, v, by simp [hi, e4], e3, e2⟩
theorem owned_frz' {a : Addr} (h : Owned ρ σ (S' ++ S) a) : Owned (frzS ρ S') σ S a := by
  obtain ⟨i, v, hi, e1, e2⟩ := h
  simp only [List.mem_append, not_or] at hi
  exact ⟨i, v, hi.2, frzS_ow' e1 hi.1, e2⟩
theorem owned_frz1 {a : Addr} {i : Nat} (h : Owned (frz1 ρ i) σ S a) : Owned ρ σ (i :: S) a := by
  obtain ⟨j, v, hi, e1, e2⟩ := h
  obtain ⟨e3, e4⟩ := frz1_ow e1
  exact ⟨j, v, by simp [hi, e4], e3, e2⟩
theorem SR.frz1 (I : SR G ro V0 H0 ρ ω σ H) (i : Nat) : SR G ro V0 H0 (frz1 ρ i) ω σ H where
  keep := I.keep
  tf := I.tf
  v0 := I.v0
  len := by
    unfold GP.frz1
    split
    · rw [List.length_set]; exact I.len
    · exact I.len
  slot := fun j s x e1 e2 => by
    have le : Le (vw ro V0 H0 ρ σ H []) (vw ro V0 H0 (GP.frz1 ρ i) σ H []) := vw_less fun a h => (owned_frz1 h).mono (by simp)
    have old : ρ[j]? = some s → SlotR G ro (vw ro V0 H0 (GP.frz1 ρ i) σ H []) H s x := fun e1 => by
      have h := I.slot j s x e1 e2
      cases s with
      | no => trivial
      | sh p => obtain ⟨v, e, r⟩ := h; exact ⟨v, e, r.mono le⟩
      | ow p => obtain ⟨a, o, e, h1, h2⟩ := h; exact ⟨a, o, e, h1, h2.mono le⟩
    cases hp : ρ[i]? with
    | none => exact old (by unfold GP.frz1 at e1; rw [hp] at e1; exact e1)
    | some s0 =>
    cases s0 with
    | no => exact old (by unfold GP.frz1 at e1; rw [hp] at e1; exact e1)
    | sh p => exact old (by unfold GP.frz1 at e1; rw [hp] at e1; exact e1)
    | ow p =>
      have e1' := e1
      unfold GP.frz1 at e1
      rw [hp] at e1
      simp only at e1
      by_cases c : j = i
      · subst c
        have hl : j < ρ.length := (List.getElem?_eq_some_iff.mp hp).1
        rw [List.getElem?_set_self hl] at e1
        cases e1
        obtain ⟨a, o, e, h1, h2⟩ := I.slot j _ x hp e2
        subst e
        refine ⟨.ref a, rfl, ?_⟩
        have hown := I.own j p a hp e2
        have hva : vw ro V0 H0 (GP.frz1 ρ j) σ H [] a = some o := by
          refine vw_mk hown.2 (fun z => ?_) (by rw [if_pos hown.1]; exact h1)
          obtain ⟨l, v, hj, e3, e4⟩ := owned_frz1 z
          exact hj (by simp [I.dist l j v p a e3 hp e4 e2])
        exact RepO.rep hva (h2.mono le)
      · rw [List.getElem?_set_ne (Ne.symm c)] at e1
        exact old e1
  own := fun j v a e1 e2 => I.own j v a (frz1_ow e1).1 e2
  dist := fun j l v u a e1 e2 e3 e4 => I.dist j l v u a (frz1_ow e1).1 (frz1_ow e2).1 e3 e4
  row := I.row
  tabs := I.tabs
theorem SR.frz (I : SR G ro V0 H0 ρ ω σ H) : ∀ is : List Nat, SR G ro V0 H0 (frzS ρ is) ω σ H
  | [] => I
  | i :: is => (I.frz is).frz1 i
theorem hide_keep {o o' : HO} : Le (vw ro V0 (hide H0 D o) ρ σ H S) (vw ro V0 (hide H0 D o') ρ σ (upd H D o') S) := fun a u e n => by
  obtain ⟨h1, h2, h3⟩ := vw_some e
  refine vw_mk h1 h2 ?_
  unfold hide at h3 ⊢
  by_cases c : a = D
  · subst c
    rw [upd_same, if_neg (by simp)] at h3 ⊢
    exact h3
  · rw [upd_ne c] at h3 ⊢; rw [upd_ne c]; exact h3
theorem row_not (I : SR G ro V0 H0 ρ ω σ H) (h : clr H D = none) : ro ≠ some D := fun z => by
  have r := I.row
  rw [z] at r
  obtain ⟨_, _, _, sa, r1, _⟩ := r
  rw [clr_some r1 (nt_lst _)] at h; cases h
end
theorem vw_less' {ro : Option Addr} {V0 H0 : Hp} {ρ ρ' : Sto} {σ σ' : L2.St} {H : Hp} {S S' : List Nat} (h : ∀ a, Owned ρ' σ' S' a → Owned ρ σ S a) : Le (vw ro V0 H0 ρ σ H S) (vw ro V0 H0 ρ' σ' H S') := fun a o e n => by
  obtain ⟨h1, h2, h3⟩ := vw_some e
  exact vw_mk h1 (fun z => h2 (h a z)) h3
theorem SR.grown {G : Pg} {ro : Option Addr} {V0 H0 : Hp} {ρ ρ1 : Sto} {ω ω1 : Rw} {σ σ1 : L2.St} {H H' : Hp} (I : SR G ro V0 H0 ρ ω σ H) (k : Keep ro H H') (J : SR G ro V0 H0 ρ1 ω1 σ1 H') : SR G ro V0 H0 ρ ω1 σ H' := I.grow k J.row J.tabs
theorem Owned.mono' {ρ : Sto} {σ : L2.St} {S S' : List Nat} {a : Addr} (h : Owned ρ σ S' a) (s : ∀ i ∈ S, i ∈ S') : Owned ρ σ S a := h.mono s
def compL (c : Sto → M Bool) (e : Sto → M PV) (tg : Tg) (ρ : Sto) : List PV → Rw → Option (List PV × Rw)
  | [], ω => some ([], ω)
  | p :: ps, ω => match tgS tg p ρ with
    | none => none
    | some ρ1 => match c ρ1 ω with
      | .ok true ω1 => match e ρ1 ω1 with
        | .ok y ω2 => match compL c e tg ρ ps ω2 with
          | some r => some (y :: r.1, r.2)
          | none => none
        | _ => none
      | .ok false ω1 => compL c e tg ρ ps ω1
      | _ => none
def dComp (S : List Nat) (it : Sto → M (List PV)) (c : Sto → M Bool) (e : Sto → M PV) (tg : Tg) (vs : List Nat) : Sto → M PV := fun ρ => bnd (it ρ) fun items ω =>
  if fits items.length = true then (match compL c e tg (wipeS (frzS ρ S) vs) items ω with
    | some r => .ok (.lst r.1) r.2
    | none => .bad) else .bad
def dYes : Sto → M Bool := fun _ => ret true
theorem sub1 {A B C D : List Nat} : ∀ i ∈ C, i ∈ A ++ (B ++ (C ++ D)) := by simp +contextual
theorem sub2 {A B C D : List Nat} : ∀ i ∈ D, i ∈ A ++ (B ++ (C ++ D)) := by simp +contextual
theorem sub3 {A B C D : List Nat} : ∀ i ∈ B, i ∈ A ++ (B ++ (C ++ D)) := by simp +contextual
theorem sub0 {A B C D : List Nat} : ∀ i ∈ A, i ∈ A ++ (B ++ (C ++ D)) := by simp +contextual
theorem plus_vw' {G : Pg} {ro : Option Addr} {V0 H0 : Hp} {ρ : Sto} {ω : Rw} {σ : L2.St} {H H' Hv : Hp} {S : List Nat} (I : SR G ro V0 H0 ρ ω σ H) (k : Keep ro H H') (le : Le Hv (vw ro V0 H0 ρ σ H S)) : Le (plus Hv H H') (vw ro V0 H0 ρ σ H' S) := fun a o e n => by
  unfold plus at e
  split at e
  · rename_i cc
    exact plus_vw I k a o (by unfold plus; rw [cc]; exact e) n
  · exact vw_grow k a o (le a o e n) n
theorem tLc_ok {G : Pg} {Ex : XK} {K : PySem.W.Frag} (hK : K = G.K) {it : Sto → M (List PV)} {c : Sto → M Bool} {e : Sto → M PV} {tg : Tg} {vs : List Nat} {Si Sc Se : List Nat} (htg : ∀ i ∈ tgIs tg, i ∈ vs) {σ : L2.St} {H : Hp} {Q : VK}
    (h : tD G Ex (Si ++ (vs ++ (Sc ++ Se))) (dComp (Si ++ (vs ++ (Sc ++ Se))) it c e tg vs) σ H Q) : tLc (tDI G Ex Si it) (gT K tg) (tDT G E0 Sc c) (tD G E0 Se e) vs σ H Q := by
  obtain ⟨ro, V0, H0, ρ, ω, I, h⟩ := h
  refine ⟨ro, V0, H0, ρ, ω, I, post_bnd sub0 h fun items ω1 H1 J _ k1 I1 hJ h1 D hD => ?_⟩
  by_cases hf : fits items.length = true
  rotate_left
  · rw [if_neg hf] at h1; exact h1.elim
  rw [if_pos hf] at h1
  generalize hS : Si ++ (vs ++ (Sc ++ Se)) = S at h1
  have s0 : ∀ i ∈ Si, i ∈ S := hS ▸ sub0
  have s3 : ∀ i ∈ vs, i ∈ S := hS ▸ sub3
  cases hr : compL c e tg (wipeS (frzS ρ S) vs) items ω1 with
  | none => rw [hr] at h1; exact h1.elim
  | some r =>
  rw [hr] at h1
  have hrow : ro ≠ some D := row_not I1 (clr_none hD)
  have hv : ∀ u, V0 D = some u → NoTb u → False := I1.v0none hD
  have h0 : H0 D = none := I1.dom0 (clr_none hD)
  let Inv1 : Nat → Hp → Prop := fun i H => ∃ ω' acc pvs q, SR G ro V0 (hide H0 D (.lst acc)) ρ ω' σ H ∧ Le (vw ro V0 H0 ρ σ H1 S) (vw ro V0 (hide H0 D (.lst acc)) ρ σ H S) ∧ (∀ a, clr H a = none → clr H1 a = none) ∧ RepL G ro (vw ro V0 (hide H0 D (.lst acc)) ρ σ H S) acc pvs ∧ acc.length ≤ i ∧ i ≤ items.length ∧
    compL c e tg (wipeS (frzS ρ S) vs) (items.drop i) ω' = some q ∧ r.1 = pvs ++ q.1 ∧ r.2 = q.2 ∧ (∀ b o, H1 b = some o → NoTb o → ro ≠ some b → H b = some o)
  refine ⟨fun i m H => m = items.length - i ∧ Inv1 i H, ⟨_, rfl, ω1, [], [], r, I1.hid hD (nt_lst _), (hide_vw' hD), fun a ha => ?_, .nil, Nat.le_refl _, Nat.zero_le _, hr, rfl, rfl, fun b o e n rr => ?_⟩, ?_⟩
  · by_cases q : a = D
    · rw [q]; exact clr_none hD
    · rw [clr_ne q] at ha; exact ha
  · rw [upd_ne (ne_of_none e hD)]; exact e
  rintro i m H ⟨rfl, ω', acc, pvs, q, IH, le1, dom1, racc, hacc, hil, hq, hr1, hr2, old1⟩
  have hHD : H D = some (.lst acc) := IH.keep.old D _ upd_same (by intro ps z; cases z) hrow
  have leI : Le (vw ro V0 H0 ρ σ H1 Si) (vw ro V0 (hide H0 D (.lst acc)) ρ σ H S) := (vw_sub s0).trans le1
  have ok := hJ H (leI.trans IH.vw_le)
  by_cases c1 : i = items.length
  · left
    subst c1
    rw [List.drop_length] at hq
    simp only [compL, Option.some.injEq] at hq
    subst hq
    simp only [List.append_nil] at hr1
    refine ⟨ok.2, ?_⟩
    have I9 := IH.shown h0 hv
    refine h1 H (.ref D) ⟨old1, dom1⟩ (hr2 ▸ I9) ?_
    have leS : Le (vw ro V0 (hide H0 D (.lst acc)) ρ σ H S) (vw ro V0 H0 ρ σ H S) := hide_vw hv h0
    show Rep G ro (vw ro V0 H0 ρ σ H _) (.ref D) (.lst r.1)
    simp only [Rep]
    refine ⟨D, acc, rfl, ?_, hr1 ▸ racc.mono leS⟩
    refine vw_mk hrow (fun z => ?_) (by rw [if_pos h0]; exact hHD)
    obtain ⟨j, v, _, e1, e2⟩ := z
    have := (IH.own j v D e1 e2).1
    unfold hide at this
    rw [upd_same] at this; cases this
  · right
    have hlt : i < items.length := Nat.lt_of_le_of_ne hil c1
    obtain ⟨p, hp⟩ : ∃ p, items[i]? = some p := ⟨_, List.getElem?_eq_getElem hlt⟩
    obtain ⟨go, yl⟩ := ok.1 i p hp
    have hdrop : items.drop i = p :: items.drop (i + 1) := by
      rw [List.drop_eq_getElem_cons hlt]
      rw [List.getElem?_eq_getElem hlt] at hp
      cases hp; rfl
    rw [hdrop] at hq
    simp only [compL] at hq
    cases ht : tgS tg p (wipeS (frzS ρ S) vs) with
    | none => rw [ht] at hq; cases hq
    | some ρ1 =>
    rw [ht] at hq
    simp only at hq
    refine ⟨go, fun H' => Inv1 (i + 1) H', fun H' hh => ⟨_, by omega, rfl, hh⟩, fun x H2 hy => ?_⟩
    obtain ⟨sm, rx⟩ := yl x H2 hy
    have I2 := IH.same sm
    have I2w := (I2.frz S).wiped vs
    have lef : ∀ H, Le (vw ro V0 (hide H0 D (.lst acc)) ρ σ H S) (vw ro V0 (hide H0 D (.lst acc)) (wipeS (frzS ρ S) vs) (wipe σ vs) H []) := fun H => vw_less' fun a h => (owned_frz (owned_wipe vs h)).mono (by simp)
    have rx3 := (rx.mono (plus_vw' IH (.same sm) leI)).mono (lef H2)
    refine tg_ok (S := S) hK I2w rx3 ht fun σ1 J1 _ own2 wp => ⟨(wp vs htg).trans (wipe_wipe vs vs fun _ h => h), ?_⟩
    have back : ∀ (Sx : List Nat) (H : Hp), (∀ i ∈ Sx, i ∈ S) → Le (vw ro V0 (hide H0 D (.lst acc)) ρ1 σ1 H Sx) (vw ro V0 (hide H0 D (.lst acc)) ρ σ H S) := fun Sx H hx => vw_less' fun a h => by
      have h2 : Owned (frzS ρ S) σ S a := owned_frz' (h.mono' (by simp))
      have h3 := owned_wipe' (by rw [(I2.frz S).len]) vs s3 h2
      exact (own2 (fun i hi => s3 i (htg i hi)) a h3).mono hx
    have sc : ∀ i ∈ Sc, i ∈ S := hS ▸ sub1
    have se : ∀ i ∈ Se, i ∈ S := hS ▸ sub2
    refine ⟨ro, V0, _, ρ1, ω', J1, ?_⟩
    revert hq
    cases hc : c ρ1 ω' with
    | bad => intro hq; cases hq
    | exn t u w => intro hq; cases hq
    | ok b ω2 =>
    intro hq H3 b' k3 I3 hb
    obtain rfl : b' = b := hb
    have IH3 : SR G ro V0 (hide H0 D (.lst acc)) ρ ω2 σ H3 := I2.grown k3 I3
    have old3 : ∀ b o, H1 b = some o → NoTb o → ro ≠ some b → H3 b = some o := fun b o e n rr => k3.old b o (sm b o (old1 b o e n rr)) n rr
    have dom3 : ∀ a, clr H3 a = none → clr H1 a = none := fun a ha => dom1 a ((Keep.same (ro := ro) sm).dom a (k3.dom a ha))
    have le3 : Le (vw ro V0 (hide H0 D (.lst acc)) ρ σ H S) (vw ro V0 (hide H0 D (.lst acc)) ρ σ H3 S) := (vw_grow (.same sm)).trans (vw_grow k3)
    cases b' with
    | false =>
      simp only [Bool.false_eq_true, if_false]
      exact ⟨ω2, acc, pvs, q, IH3, le1.trans le3, dom3, racc.mono le3, Nat.le_succ_of_le hacc, hlt, hq, hr1, hr2, old3⟩
    | true =>
      simp only [if_true]
      refine ⟨ro, V0, _, ρ1, ω2, I3, ?_⟩
      revert hq
      cases he : e ρ1 ω2 with
      | bad => intro hq; simp only [he] at hq; cases hq
      | exn t u w => intro hq; simp only [he] at hq; cases hq
      | ok y ω3 =>
      simp only [he]
      intro hq H4 yv k4 I4 ry
      cases hq2 : compL c e tg (wipeS (frzS ρ S) vs) (List.drop (i + 1) items) ω3 with
      | none => rw [hq2] at hq; cases hq
      | some q2 =>
      rw [hq2] at hq
      simp only [Option.some.injEq] at hq
      subst hq
      have IH4 : SR G ro V0 (hide H0 D (.lst acc)) ρ ω3 σ H4 := IH3.grown k4 I4
      have hHD4 : H4 D = some (.lst acc) := IH4.keep.old D _ upd_same (by intro ps z; cases z) hrow
      have lt : acc.length < sizeLine := Nat.lt_of_lt_of_le (Nat.lt_of_le_of_lt hacc hlt) (fits_ok hf)
      refine ⟨acc, hHD4, lt, ω3, acc ++ [yv], pvs ++ [y], q2, ?_, ?_, ?_, ?_, ?_, hlt, hq2, ?_, hr2, ?_⟩
      · exact IH4.hidGrow (by intro ps z; cases z) hrow (by intro x z; cases z) hv (by intro ps z; cases z) (by intro c q z; cases z) (nt_lst _)
      · exact ((le1.trans le3).trans (vw_grow k4)).trans hide_keep
      · intro a ha
        by_cases qq : a = D
        · rw [qq]; exact clr_none hD
        · rw [clr_ne qq] at ha; exact dom3 a (k4.dom a ha)
      · exact ((racc.mono (le3.trans (vw_grow k4))).append (.cons (Rep.mono (back Se H4 se) y ry) .nil)).mono hide_keep
      · rw [List.length_append]; simp; omega
      · rw [hr1]; simp
      · intro b o e n rr
        rw [upd_ne (ne_of_none e hD)]
        exact k4.old b o (old3 b o e n rr) n rr
end GP
-- GO
set_option maxRecDepth 100000
set_option maxHeartbeats 4000000
namespace GP
open PySem PySem.Spec PyProof.Rows L2
inductive Fl where
  | nx | brk | cnt | ret (p : PV)
def hasOw (ρ : Sto) (S : List Nat) : Bool := S.any fun i => match ρ[i]? with
  | some (.ow _) => true
  | _ => false
def ownS (ρ : Sto) (S : List Nat) (p : PV) : Sto := if hasOw ρ S = true then (if imm p = true then ρ else frzS ρ S) else ρ
section
variable {G : Pg} {ro : Option Addr} {V0 H0 : Hp} {ρ : Sto} {ω : Rw} {σ : L2.St} {H H' : Hp} {S S' : List Nat}
theorem hasOw_no (h : ¬ hasOw ρ S = true) {a : Addr} (o : Owned ρ σ [] a) : Owned ρ σ S a := by
  obtain ⟨i, v, _, e1, e2⟩ := o
  refine ⟨i, v, fun hi => h ?_, e1, e2⟩
  unfold hasOw
  rw [List.any_eq_true]
  exact ⟨i, hi, by rw [e1]⟩
theorem RepO.notStill {Hv : Hp} {o : HO} : ∀ {p : PV}, RepO G ro Hv o p → ¬ Still o
  | .lst ps, ⟨xs, e1, h⟩ => by rw [e1]; exact id
  | .dic false ks vs, ⟨kvs, e1, h1, h⟩ => by rw [e1]; exact id
  | .dic true ks vs, ⟨kvs, e1, h1, h⟩ => by rw [e1]; exact id
  | .obj t fs, ⟨dx, fvs, e1, h1, h⟩ => by rw [e1]; exact id
theorem vw_still (I : SR G ro V0 H0 ρ ω σ H) : ∀ a o, vw ro V0 H0 ρ σ H S a = some o → Still o → vw ro V0 H0 ρ σ H S' a = some o := fun a o e st => by
  obtain ⟨h1, h2, h3⟩ := vw_some e
  refine vw_mk h1 (fun z => ?_) h3
  obtain ⟨i, v, _, e1, e2⟩ := z
  obtain ⟨a', o', e3, e4, r⟩ := I.slot i _ _ e1 e2
  cases e3
  have : H0 a = none := (I.own i v a e1 e2).1
  rw [if_pos this, e4] at h3
  cases h3
  exact r.notStill st
theorem SR.own_ok (I : SR G ro V0 H0 ρ ω σ H) {x : V} {p : PV} (r : Rep G ro (vw ro V0 H0 ρ σ H S) x p) : SR G ro V0 H0 (ownS ρ S p) ω σ H ∧ Rep G ro (vw ro V0 H0 (ownS ρ S p) σ H []) x p := by
  unfold ownS
  split
  · split
    · rename_i hi
      exact ⟨I, Rep.imm (vw_still I) p hi r⟩
    · exact ⟨I.frz S, r.mono (vw_less' fun a h => (owned_frz h).mono (by simp))⟩
  · rename_i hn
    exact ⟨I, r.mono (vw_less' fun a h => hasOw_no hn h)⟩
theorem SR.ownL_ok (I : SR G ro V0 H0 ρ ω σ H) {xs : List V} {ps : List PV} (r : RepL G ro (vw ro V0 H0 ρ σ H S) xs ps) : SR G ro V0 H0 (ownS ρ S (.tup ps)) ω σ H ∧ RepL G ro (vw ro V0 H0 (ownS ρ S (.tup ps)) σ H []) xs ps := by
  unfold ownS
  split
  · split
    · rename_i hi
      exact ⟨I, RepL.imm (vw_still I) ps (by simpa only [imm] using hi) r⟩
    · exact ⟨I.frz S, r.mono (vw_less' fun a h => (owned_frz h).mono (by simp))⟩
  · rename_i hn
    exact ⟨I, r.mono (vw_less' fun a h => hasOw_no hn h)⟩
theorem clr_tf (tf : ∀ b ps, H0 b ≠ some (.tbl ps)) : clr H0 = H0 := by
  funext a
  unfold clr
  cases e : H0 a with
  | none => rfl
  | some o => cases o <;> first | rfl | exact absurd e (tf a _)
theorem SR.vw_plus (I : SR G ro V0 H0 ρ ω σ H) : Le (vw ro V0 H0 ρ σ H S) (plus V0 H0 H) := fun a o e n => by
  obtain ⟨h1, h2, h3⟩ := vw_some e
  unfold plus
  rw [clr_tf I.tf]
  split at h3
  · rename_i c; rw [c]; exact h3
  · rename_i c
    cases q : H0 a with
    | none => exact absurd q c
    | some u => exact h3
end
structure Fr (W : List Nat) (ρ : Sto) (σ : L2.St) (H : Hp) (ρ' : Sto) (σ' : L2.St) (H' : Hp) : Prop where
  obj : ∀ (i : Nat) p a, i ∉ W → ρ[i]? = some (.ow p) → σ[i]? = some (some (.ref a)) → ρ'[i]? = some (.ow p) ∧ σ'[i]? = some (some (.ref a)) ∧ H' a = H a
  st : ∀ i : Nat, i + 1000 ∉ W → σ'[i]? = σ[i]?
theorem Fr.refl (W : List Nat) (ρ : Sto) (σ : L2.St) (H : Hp) : Fr W ρ σ H ρ σ H := ⟨fun _ _ _ _ h1 h2 => ⟨h1, h2, rfl⟩, fun _ _ => rfl⟩
theorem Fr.trans {W W' : List Nat} {ρ ρ1 ρ2 : Sto} {σ σ1 σ2 : L2.St} {H H1 H2 : Hp} (a : Fr W ρ σ H ρ1 σ1 H1) (b : Fr W' ρ1 σ1 H1 ρ2 σ2 H2) : Fr (W ++ W') ρ σ H ρ2 σ2 H2 := ⟨fun i p x hi h1 h2 => by
  simp only [List.mem_append, not_or] at hi
  obtain ⟨a1, a2, a3⟩ := a.obj i p x hi.1 h1 h2
  obtain ⟨b1, b2, b3⟩ := b.obj i p x hi.2 a1 a2
  exact ⟨b1, b2, b3.trans a3⟩, fun i hi => by
  simp only [List.mem_append, not_or] at hi
  exact (b.st i hi.2).trans (a.st i hi.1)⟩
theorem Fr.mono {W W' : List Nat} {ρ ρ1 : Sto} {σ σ1 : L2.St} {H H1 : Hp} (a : Fr W ρ σ H ρ1 σ1 H1) (s : ∀ i ∈ W, i ∈ W') : Fr W' ρ σ H ρ1 σ1 H1 := ⟨fun i p x hi h1 h2 => a.obj i p x (fun z => hi (s i z)) h1 h2, fun i hi => a.st i fun z => hi (s _ z)⟩
theorem SR.fr_keep {G : Pg} {ro : Option Addr} {V0 H0 : Hp} {ρ : Sto} {ω : Rw} {σ : L2.St} {H H' : Hp} (I : SR G ro V0 H0 ρ ω σ H) (k : Keep ro H H') (W : List Nat) : Fr W ρ σ H ρ σ H' := ⟨fun i p a _ h1 h2 => by
  obtain ⟨a', o, e, h3, h4⟩ := I.slot i _ _ h1 h2
  cases e
  exact ⟨h1, h2, (k.old a o h3 h4.noTb (I.own i p a h1 h2).2).trans h3.symm⟩, fun _ _ => rfl⟩
def PostS (G : Pg) (Ex : XK) (ro : Option Addr) (V0 H0 : Hp) (W : List Nat) (ρ0 : Sto) (σ0 : L2.St) (h0 : Hp) (D : Ends) : R (Fl × Sto) → Prop
  | .ok (.nx, ρ) ω => ∀ σ H, SR G ro V0 H0 ρ ω σ H → Fr W ρ0 σ0 h0 ρ σ H → D.nx σ H
  | .ok (.brk, ρ) ω => ∀ σ H, SR G ro V0 H0 ρ ω σ H → Fr W ρ0 σ0 h0 ρ σ H → D.bk σ H
  | .ok (.cnt, ρ) ω => ∀ σ H, SR G ro V0 H0 ρ ω σ H → Fr W ρ0 σ0 h0 ρ σ H → D.ct σ H
  | .ok (.ret p, _) ω => ∀ H v, Keep ro H0 H → RowR G.K ro H ω → LamX.Tabs G.T H → Rep G ro (plus V0 H0 H) v p → D.rt v H
  | .exn t p ω => ∀ H d, Keep ro H0 H → RowR G.K ro H ω → LamX.Tabs G.T H → ExAt G ro (plus V0 H0 H) H d p → Ex (.ref (G.cl t)) (some d) H
  | .bad => False
abbrev MS := Sto → M (Fl × Sto)
def tDS (G : Pg) (Ex : XK) (W : List Nat) (d : MS) : TS := fun D σ H => ∃ ro V0 H0 ρ ω, SR G ro V0 H0 ρ ω σ H ∧ PostS G Ex ro V0 H0 W ρ σ H D (d ρ ω)
abbrev DS (X : Cx) (G : Pg) (Ex : XK) (st : Stmt) (W : List Nat) (d : MS) : Prop := PS X st (tDS G Ex W d)
abbrev DSs (X : Cx) (G : Pg) (Ex : XK) (sts : List Stmt) (W : List Nat) (d : MS) : Prop := PSs X sts (tDS G Ex W d)
def sNx : MS := fun ρ => ret (.nx, ρ)
def sSeq (a b : MS) : MS := fun ρ => bnd (a ρ) fun r => match r.1 with
  | .nx => b r.2
  | f => ret (f, r.2)
def sBrk : MS := fun ρ => ret (.brk, ρ)
def sCnt : MS := fun ρ => ret (.cnt, ρ)
def sRet (e : Sto → M PV) : MS := fun ρ => bnd (e ρ) fun p => ret (.ret p, ρ)
def sRetN : MS := fun ρ => ret (.ret .non, ρ)
def sIf (c : Sto → M Bool) (a b : MS) : MS := fun ρ => bnd (c ρ) fun k => if k = true then a ρ else b ρ
def sDrop (e : Sto → M PV) : MS := fun ρ => bnd (e ρ) fun _ => ret (.nx, ρ)
section
variable {X : Cx} {G : Pg} {k : Nat} {Ex : XK} {e c : Expr} {st : Stmt} {sts sts2 : List Stmt} {S S' W W' : List Nat} {da : Sto → M PV} {dc : Sto → M Bool} {m m' : MS} {pos : Pos} {ro : Option Addr} {V0 H0 : Hp} {ρ ρ0 : Sto} {ω : Rw} {σ σ0 : L2.St} {H h0 h1 : Hp} {D : Ends}
theorem PostS.later (f : Fr W ρ0 σ0 h0 ρ σ H) (s : ∀ i ∈ W, i ∈ S) (s' : ∀ i ∈ W', i ∈ S) : ∀ {r : R (Fl × Sto)}, PostS G Ex ro V0 H0 S ρ0 σ0 h0 D r → PostS G Ex ro V0 H0 W' ρ σ H D r
  | .ok (.nx, ρ) ω, h => fun σ H I fr => h σ H I ((f.trans fr).mono fun i hi => (List.mem_append.mp hi).elim (s i) (s' i))
  | .ok (.brk, ρ) ω, h => fun σ H I fr => h σ H I ((f.trans fr).mono fun i hi => (List.mem_append.mp hi).elim (s i) (s' i))
  | .ok (.cnt, ρ) ω, h => fun σ H I fr => h σ H I ((f.trans fr).mono fun i hi => (List.mem_append.mp hi).elim (s i) (s' i))
  | .ok (.ret p, ρ) ω, h => h
  | .exn t p ω, h => h
  | .bad, h => h
theorem posts_bnd {α β : Type} {C : Hp → β → α → Prop} {K : β → Hp → Prop} {me : M α} {f : α → M (Fl × Sto)} (I : SR G ro V0 H0 ρ ω σ H) (h : PostS G Ex ro V0 H0 W ρ σ H D (bnd me f ω))
    (kk : ∀ a ω1 H1 x, me ω = .ok a ω1 → Keep ro H H1 → SR G ro V0 H0 ρ ω1 σ H1 → C (vw ro V0 H0 ρ σ H1 S) x a → PostS G Ex ro V0 H0 W ρ σ H1 D (f a ω1) → K x H1) :
    Post G Ex ro V0 H0 ρ σ S C H K (me ω) := by
  unfold bnd at h
  cases e : me ω with
  | ok a ω1 =>
    rw [e] at h
    exact fun H' x k1 I1 c => kk a ω1 H' x e k1 I1 c (h.later (W := W) (I.fr_keep k1 W) (fun _ h => h) (fun _ h => h))
  | exn t p ω1 =>
    rw [e] at h
    exact fun H' d k1 I1 c => h H' d I1.keep I1.row I1.tabs (c.mono I1.vw_plus)
  | bad => rw [e] at h; exact h
theorem posts_opt {α : Type} {o : Option α} {f : α → M (Fl × Sto)} (h : PostS G Ex ro V0 H0 W ρ0 σ0 h0 D (bnd (opt o) f ω)) : ∃ a, o = some a ∧ PostS G Ex ro V0 H0 W ρ0 σ0 h0 D (f a ω) := by
  cases o with
  | none => exact h.elim
  | some a => exact ⟨a, rfl, h⟩
theorem tDS_sub (s : ∀ i ∈ W, i ∈ S) {D : Ends} {σ : L2.St} {H : Hp} (h : tDS G Ex S m D σ H) : tDS G Ex W m D σ H := by
  obtain ⟨ro, V0, H0, ρ, ω, I, h⟩ := h
  exact ⟨ro, V0, H0, ρ, ω, I, h.later (W := []) (Fr.refl _ _ _ _) (by simp) s⟩
theorem dss_nil : DSs X G Ex [] [] sNx := PSs.imp pss_nil fun D σ H ⟨ro, V0, H0, ρ, ω, I, h⟩ => h σ H I (Fr.refl _ _ _ _)
theorem posts_seq {D : Ends} (h : PostS G Ex ro V0 H0 (W ++ W') ρ σ H D (sSeq m m' ρ ω)) : PostS G Ex ro V0 H0 W ρ σ H { D with nx := tDS G Ex W' m' D } (m ρ ω) := by
  unfold sSeq bnd at h
  cases e : m ρ ω with
  | bad => rw [e] at h; exact h
  | exn t p ω1 => rw [e] at h; exact h
  | ok r ω1 =>
    rw [e] at h
    obtain ⟨f, ρ1⟩ := r
    cases f with
    | nx => exact fun σ H I f => ⟨ro, V0, H0, ρ1, ω1, I, PostS.later f (by simp +contextual) (by simp +contextual) h⟩
    | brk => exact fun σ H I f => h σ H I (f.mono (by simp +contextual))
    | cnt => exact fun σ H I f => h σ H I (f.mono (by simp +contextual))
    | ret p => exact h
theorem dss_cons (h1 : DS X G Ex st W m) (h2 : DSs X G Ex sts W' m') : DSs X G Ex (st :: sts) (W ++ W') (sSeq m m') :=
  PSs.imp (pss_cons h1 h2) fun D σ H ⟨ro, V0, H0, ρ, ω, I, h⟩ => ⟨ro, V0, H0, ρ, ω, I, posts_seq h⟩
theorem ds_pass : DS X G Ex (.Pass pos) [] sNx := PS.imp ps_pass fun D σ H ⟨ro, V0, H0, ρ, ω, I, h⟩ => h σ H I (Fr.refl _ _ _ _)
theorem ds_doc {x : Str} {j : Nat} {p2 : Pos} : DS X G Ex (.Expr (.Constant (.str x) j pos) p2) [] sNx := PS.imp ps_doc fun D σ H ⟨ro, V0, H0, ρ, ω, I, h⟩ => h σ H I (Fr.refl _ _ _ _)
theorem ds_brk : DS X G Ex (.Break pos) [] sBrk := PS.imp ps_break fun D σ H ⟨ro, V0, H0, ρ, ω, I, h⟩ => h σ H I (Fr.refl _ _ _ _)
theorem ds_cnt : DS X G Ex (.Continue pos) [] sCnt := PS.imp ps_continue fun D σ H ⟨ro, V0, H0, ρ, ω, I, h⟩ => h σ H I (Fr.refl _ _ _ _)
theorem ds_ret (ha : DE X G Ex e S da) : DS X G Ex (.Return (some e) pos) [] (sRet da) :=
  PS.imp (ps_ret ha) fun D σ H ⟨ro, V0, H0, ρ, ω, I, h⟩ => ⟨ro, V0, H0, ρ, ω, I, posts_bnd I h fun p ω1 H1 x _ k1 I1 c h1 => h1 H1 x I1.keep I1.row I1.tabs (Rep.mono I1.vw_plus p c)⟩
theorem ds_retN : DS X G Ex (.Return none pos) [] sRetN :=
  PS.imp ps_retN fun D σ H ⟨ro, V0, H0, ρ, ω, I, h⟩ => h H .non I.keep I.row I.tabs (by simp [Rep])
theorem ds_if (hc : DT X G Ex c S dc) (ha : DSs X G Ex sts W m) (hb : DSs X G Ex sts2 W' m') : DS X G Ex (.If c sts sts2 pos) (W ++ W') (sIf dc m m') :=
  PS.imp (ps_if hc ha hb) fun D σ H ⟨ro, V0, H0, ρ, ω, I, h⟩ => ⟨ro, V0, H0, ρ, ω, I, posts_bnd I h fun b ω1 H1 x _ k1 I1 c h1 => by
    obtain rfl : x = b := c
    cases x with
    | true => exact ⟨ro, V0, H0, ρ, ω1, I1, h1.later (W := []) (Fr.refl _ _ _ _) (by simp) (by simp +contextual)⟩
    | false => exact ⟨ro, V0, H0, ρ, ω1, I1, h1.later (W := []) (Fr.refl _ _ _ _) (by simp) (by simp +contextual)⟩⟩
theorem ds_drop (ha : DE X G Ex e S da) (hs : swapsWith e none pos.line X.env = pure false) : DS X G Ex (.Expr e pos) [] (sDrop da) :=
  PS.imp (ps_expr ha hs) fun D σ H ⟨ro, V0, H0, ρ, ω, I, h⟩ => ⟨ro, V0, H0, ρ, ω, I, posts_bnd I h fun p ω1 H1 x _ k1 I1 c h1 => h1 σ H1 I1 (Fr.refl _ _ _ _)⟩
end

def less (a : Addr) (H : Hp) : Hp := fun b => if b = a then none else H b
def XR (G : Pg) (ro : Option Addr) (fr : Bool) (Hs H Hv : Hp) (x : V) (p : PV) : Prop := match fr with
  | false => Rep G ro Hv x p
  | true => ∃ a o, x = .ref a ∧ clr Hs a = none ∧ H a = some o ∧ RepO G ro (less a Hv) o p
def PostX (G : Pg) (Ex : XK) (ro : Option Addr) (V0 H0 : Hp) (ρ : Sto) (σ : L2.St) (fr : Bool) (S : List Nat) (H : Hp) (Q : VK) : R PV → Prop
  | .ok p ω => ∀ H' x, Keep ro H H' → SR G ro V0 H0 ρ ω σ H' → XR G ro fr H H' (vw ro V0 H0 ρ σ H' S) x p → Q x H'
  | .exn t p ω => ∀ H' d, Keep ro H H' → SR G ro V0 H0 ρ ω σ H' → ExAt G ro (vw ro V0 H0 ρ σ H' S) H' d p → Ex (.ref (G.cl t)) (some d) H'
  | .bad => False
def tDX (G : Pg) (Ex : XK) (fr : Bool) (S : List Nat) (d : Sto → M PV) : TE := fun σ H Q => ∃ ro V0 H0 ρ ω, SR G ro V0 H0 ρ ω σ H ∧ PostX G Ex ro V0 H0 ρ σ fr S H Q (d ρ ω)
abbrev DX (X : Cx) (G : Pg) (Ex : XK) (fr : Bool) (e : Expr) (S : List Nat) (d : Sto → M PV) : Prop := PE X e (tDX G Ex fr S d)
theorem dx_sh {X : Cx} {G : Pg} {Ex : XK} {e : Expr} {S : List Nat} {da : Sto → M PV} (h : DE X G Ex e S da) : DX X G Ex false e S da :=
  PE.imp h fun σ H Q ⟨ro, V0, H0, ρ, ω, I, q⟩ => ⟨ro, V0, H0, ρ, ω, I, by
    revert q
    cases da ρ ω with
    | bad => exact id
    | ok p ω1 => exact id
    | exn t p ω1 => exact id⟩
def slOf (fr : Bool) (p : PV) : Sl := match fr with
  | false => .sh p
  | true => .ow p
def cont : PV → PV
  | .lst ps => .tup ps
  | .dic _ _ vs => .tup vs
  | .obj _ fs => .tup fs
  | p => p
def keepS (fr : Bool) (S : List Nat) (p : PV) (ρ : Sto) : Sto := ownS ρ S (match fr with
  | false => p
  | true => cont p)
def putS (fr : Bool) (S : List Nat) (i : Nat) (p : PV) (ρ : Sto) : Sto := (keepS fr S p ρ).set i (slOf fr p)
def sSet (fr : Bool) (S : List Nat) (i : Nat) (e : Sto → M PV) : MS := fun ρ => bnd (e ρ) fun p => ret (.nx, putS fr S i p ρ)
section
variable {G : Pg} {ro : Option Addr} {V0 H0 : Hp} {ρ : Sto} {ω ω' : Rw} {σ : L2.St} {H H' Hs : Hp} {S S' : List Nat}
theorem owned_ow {i : Nat} {p : PV} {a b : Addr} (h : Owned (ρ.set i (.ow p)) (σ.set i (some (.ref a))) S b) : b = a ∨ Owned ρ σ S b := by
  obtain ⟨j, v, hj, e1, e2⟩ := h
  by_cases c : j = i
  · subst c
    by_cases hl : j < σ.length
    · rw [List.getElem?_set_self hl] at e2
      cases e2
      exact .inl rfl
    · rw [List.getElem?_eq_none (by simpa using hl)] at e2; cases e2
  · rw [List.getElem?_set_ne (Ne.symm c)] at e1 e2
    exact .inr ⟨j, v, hj, e1, e2⟩
theorem RepO.imm {Hv Hv' : Hp} {o : HO} (e : ∀ a o, Hv a = some o → Still o → Hv' a = some o) : ∀ {p : PV}, GP.imm (cont p) = true → RepO G ro Hv o p → RepO G ro Hv' o p
  | .lst ps, i, ⟨xs, e1, h⟩ => ⟨xs, e1, RepL.imm e ps (by simpa only [cont, GP.imm] using i) h⟩
  | .dic false ks vs, i, ⟨kvs, e1, h1, h⟩ => ⟨kvs, e1, h1, RepL.imm e vs (by simpa only [cont, GP.imm] using i) h⟩
  | .dic true ks vs, i, ⟨kvs, e1, h1, h⟩ => ⟨kvs, e1, h1, RepL.imm e vs (by simpa only [cont, GP.imm] using i) h⟩
  | .obj t fs, i, ⟨dx, fvs, e1, h1, h⟩ => ⟨dx, fvs, e1, h1, RepL.imm e fs (by simpa only [cont, GP.imm] using i) h⟩
theorem less_le {a : Addr} {A B : Hp} (h : Le A B) : Le (less a A) (less a B) := fun b o e n => by
  unfold less at e ⊢
  split at e
  · cases e
  · rename_i c; rw [if_neg c]; exact h b o e n
theorem less_sub {a : Addr} {A : Hp} : Le (less a A) A := fun b o e n => by
  unfold less at e
  split at e
  · cases e
  · exact e
theorem SR.ownO_ok (I : SR G ro V0 H0 ρ ω σ H) {a : Addr} {o : HO} {p : PV} (r : RepO G ro (less a (vw ro V0 H0 ρ σ H S)) o p) : RepO G ro (less a (vw ro V0 H0 (ownS ρ S (cont p)) σ H [])) o p := by
  unfold ownS
  split
  · split
    · rename_i hi
      refine r.imm (fun b u e st => ?_) hi
      unfold less at e ⊢
      split at e
      · cases e
      · rename_i c; rw [if_neg c]; exact vw_still I b u e st
    · exact r.mono (less_le (vw_less' fun a h => (owned_frz h).mono (by simp)))
  · rename_i hn
    exact r.mono (less_le (vw_less' fun a h => hasOw_no hn h))
theorem SR.ownS_ok (I : SR G ro V0 H0 ρ ω σ H) (p : PV) : SR G ro V0 H0 (ownS ρ S p) ω σ H := by
  unfold ownS
  split
  · split
    · exact I
    · exact I.frz S
  · exact I
theorem SR.putNew (I0 : SR G ro V0 H0 ρ ω' σ Hs) (k : Keep ro Hs H) (rw_ : RowR G.K ro H ω) (tb : LamX.Tabs G.T H) {i : Nat} {p : PV} {a : Addr} {o : HO} (h0 : clr Hs a = none) (ho : H a = some o) (r : RepO G ro (less a (vw ro V0 H0 ρ σ H [])) o p) :
    SR G ro V0 H0 (ρ.set i (.ow p)) ω (σ.set i (some (.ref a))) H := by
  have h00 : H0 a = none := I0.dom0 h0
  have le : Le (vw ro V0 H0 ρ σ Hs []) (vw ro V0 H0 (ρ.set i (.ow p)) (σ.set i (some (.ref a))) H []) := fun b u e n => by
    obtain ⟨h1, h2, h3⟩ := vw_some e
    refine vw_mk h1 (fun z => ?_) ?_
    · rcases owned_ow z with rfl | z
      · rw [if_pos h00] at h3; rw [clr_some h3 n] at h0; cases h0
      · exact h2 z
    · split at h3
      · rename_i c; rw [if_pos c]; exact k.old b u h3 n h1
      · rename_i c; rw [if_neg c]; exact h3
  have le2 : Le (less a (vw ro V0 H0 ρ σ H [])) (vw ro V0 H0 (ρ.set i (.ow p)) (σ.set i (some (.ref a))) H []) := fun b u e n => by
    unfold less at e
    split at e
    · cases e
    · rename_i c
      obtain ⟨h1, h2, h3⟩ := vw_some e
      refine vw_mk h1 (fun z => ?_) h3
      rcases owned_ow z with z | z
      · exact c z
      · exact h2 z
  have hne : ∀ (j : Nat) v b, ρ[j]? = some (.ow v) → σ[j]? = some (some (.ref b)) → b ≠ a := fun j v b e1 e2 z => by
    obtain ⟨a', o', e3, e4, r4⟩ := I0.slot j _ _ e1 e2
    cases e3
    rw [← z, clr_some e4 r4.noTb] at h0; cases h0
  refine ⟨I0.keep.trans k, I0.tf, I0.v0, by rw [List.length_set, List.length_set]; exact I0.len, ?_, ?_, ?_, rw_, tb⟩
  · intro j s x e1 e2
    by_cases c : j = i
    · subst c
      by_cases hl : j < ρ.length
      · rw [List.getElem?_set_self hl] at e1
        rw [List.getElem?_set_self (by rw [← I0.len]; exact hl)] at e2
        cases e1; cases e2
        exact ⟨a, o, rfl, ho, r.mono le2⟩
      · rw [List.getElem?_eq_none (by simpa using hl)] at e1; cases e1
    · rw [List.getElem?_set_ne (Ne.symm c)] at e1 e2
      have h := I0.slot j s x e1 e2
      cases s with
      | no => trivial
      | sh q => obtain ⟨v, e, r⟩ := h; exact ⟨v, e, r.mono le⟩
      | ow q =>
        obtain ⟨b, u, e, h1, h2⟩ := h
        subst e
        exact ⟨b, u, rfl, k.old b u h1 h2.noTb (I0.own j q b e1 e2).2, h2.mono le⟩
  · intro j v b e1 e2
    by_cases c : j = i
    · subst c
      by_cases hl : j < σ.length
      · rw [List.getElem?_set_self hl] at e2
        cases e2
        exact ⟨h00, row_not I0 h0⟩
      · rw [List.getElem?_eq_none (by simpa using hl)] at e2; cases e2
    · rw [List.getElem?_set_ne (Ne.symm c)] at e1 e2
      exact I0.own j v b e1 e2
  · intro j l v u b e1 e2 e3 e4
    by_cases c : j = i
    · by_cases d : l = i
      · rw [c, d]
      · rw [List.getElem?_set_ne (Ne.symm d)] at e2 e4
        rw [c] at e3
        by_cases hl : i < σ.length
        · rw [List.getElem?_set_self hl] at e3
          cases e3
          exact absurd rfl (hne l u _ e2 e4)
        · rw [List.getElem?_eq_none (by simpa using hl)] at e3; cases e3
    · rw [List.getElem?_set_ne (Ne.symm c)] at e1 e3
      by_cases d : l = i
      · rw [d] at e4
        by_cases hl : i < σ.length
        · rw [List.getElem?_set_self hl] at e4
          cases e4
          exact absurd rfl (hne j v _ e1 e3)
        · rw [List.getElem?_eq_none (by simpa using hl)] at e4; cases e4
      · rw [List.getElem?_set_ne (Ne.symm d)] at e2 e4
        exact I0.dist j l v u b e1 e2 e3 e4
theorem SR.putX {fr : Bool} {x : V} {p : PV} {i : Nat} (I0 : SR G ro V0 H0 ρ ω' σ Hs) (k : Keep ro Hs H) (I : SR G ro V0 H0 ρ ω σ H) (r : XR G ro fr Hs H (vw ro V0 H0 ρ σ H S) x p) : SR G ro V0 H0 (putS fr S i p ρ) ω (σ.set i (some x)) H := by
  cases fr with
  | false =>
    obtain ⟨I1, r1⟩ := I.own_ok r
    exact I1.put (by intro _ z; cases z) ⟨x, rfl, r1⟩
  | true =>
    obtain ⟨a, o, rfl, h0, ho, r⟩ := r
    exact (I0.ownS_ok (S := S) (cont p)).putNew k I.row I.tabs h0 ho (I.ownO_ok r)
end
section
variable {X : Cx} {G : Pg} {k : Nat} {Ex : XK} {e c : Expr} {S S' W : List Nat} {da db : Sto → M PV} {fr : Bool} {pos : Pos} {ro : Option Addr} {V0 H0 : Hp} {ρ : Sto} {ω : Rw} {σ : L2.St} {H : Hp} {D : Ends}
theorem postsX {K : VK} {me : M PV} {f : PV → M (Fl × Sto)} (I : SR G ro V0 H0 ρ ω σ H) (h : PostS G Ex ro V0 H0 W ρ σ H D (bnd me f ω))
    (kk : ∀ a ω1 H1 x, me ω = .ok a ω1 → Keep ro H H1 → SR G ro V0 H0 ρ ω1 σ H1 → XR G ro fr H H1 (vw ro V0 H0 ρ σ H1 S) x a → PostS G Ex ro V0 H0 W ρ σ H1 D (f a ω1) → K x H1) :
    PostX G Ex ro V0 H0 ρ σ fr S H K (me ω) := by
  unfold bnd at h
  cases e : me ω with
  | ok a ω1 =>
    rw [e] at h
    exact fun H' x k1 I1 c => kk a ω1 H' x e k1 I1 c (h.later (W := W) (I.fr_keep k1 W) (fun _ h => h) (fun _ h => h))
  | exn t p ω1 =>
    rw [e] at h
    exact fun H' d k1 I1 c => h H' d I1.keep I1.row I1.tabs (c.mono I1.vw_plus)
  | bad => rw [e] at h; exact h
theorem ownS_at {S : List Nat} {p q : PV} {j : Nat} (h : ρ[j]? = some (.ow q)) (hj : j ∉ S) : (ownS ρ S p)[j]? = some (.ow q) := by
  unfold ownS
  split
  · split
    · exact h
    · exact frzS_ow' h hj
  · exact h
theorem fr_putS {fr : Bool} {i : Nat} {p : PV} {x : V} (W : List Nat) (hi : i ∈ W) (hi2 : i + 1000 ∈ W) (hS : ∀ j ∈ S, j ∈ W) : Fr W ρ σ H (putS fr S i p ρ) (σ.set i (some x)) H := ⟨fun j q a hj h1 h2 => by
  have c : j ≠ i := fun z => hj (z ▸ hi)
  refine ⟨?_, ?_, rfl⟩
  · unfold putS keepS
    rw [List.getElem?_set_ne (Ne.symm c)]
    exact ownS_at h1 fun z => hj (hS j z)
  · rw [List.getElem?_set_ne (Ne.symm c)]; exact h2, fun j hj => by
  have c : j ≠ i := fun z => hj (z ▸ hi2)
  rw [List.getElem?_set_ne (Ne.symm c)]⟩
theorem set_t {i : Nat} (h : tDS G Ex (i :: (i + 1000) :: S) (sSet fr S i da) D σ H) : tAsg (tDX G Ex fr S da) (gName i) D σ H := by
  obtain ⟨ro, V0, H0, ρ, ω, I, h⟩ := h
  exact ⟨ro, V0, H0, ρ, ω, I, postsX I h fun p ω1 H1 x _ k1 I1 r h1 => h1 _ H1 (SR.putX I k1 I1 r) (fr_putS _ (by simp) (by simp) (by simp +contextual))⟩
theorem ds_set {i : Nat} {x : Str} {p2 : Pos} (hN : X.N.Nodup) (hi : X.N[i]? = some x) (hx : Loc X.env.scope x) (he : DX X G Ex fr e S da) (hs : swapsWith e (some (.Name x p2)) pos.line X.env = pure false) (hf : X.fn x = true ∨ X.env.scope.names.lookup x = some .local) :
    DS X G Ex (.Assign [.Name x p2] e pos) (i :: (i + 1000) :: S) (sSet fr S i da) := PS.imp (ps_set hN hi hx he hs hf) fun D σ H h => set_t h
end
end GP
-- GQ
set_option maxRecDepth 100000
set_option maxHeartbeats 4000000
namespace GP
open PySem PySem.Spec PyProof.Rows L2
def ResN (G : Pg) (ro : Option Addr) (Hv H : Hp) (Q : VK) (p : PV) : Prop := ∀ H' a o, Same H H' → H a = none → H' a = some o → RepO G ro (less a (plus Hv H H')) o p → Q (.ref a) H'
def rPLN (G : Pg) (f : List PV → Option PV) : List V → Hp → VK → Prop := fun xs H Q => ∃ ro Hv ps r, Le Hv H ∧ RepL G ro Hv xs ps ∧ f ps = some r ∧ ResN G ro Hv H Q r
section
variable {G : Pg} {ro : Option Addr} {H Hv : Hp} {Q : VK}
theorem plus_less {p : Addr} {o : HO} (l : Le Hv H) (hp : H p = none) : Le Hv (less p (plus Hv H (upd H p o))) := fun b u e n => by
  have hb := l b u e n
  unfold less
  rw [if_neg (ne_of_none hb hp)]
  exact plus_le l b u e n
theorem ResN.lst {ps : List PV} {xs : List V} (h : ResN G ro Hv H Q (.lst ps)) (l : Le Hv H) (r : RepL G ro Hv xs ps) : ∀ p, H p = none → Q (.ref p) (upd H p (.lst xs)) := fun p hp =>
  h _ p _ (same_upd hp) hp upd_same ⟨xs, rfl, r.mono (plus_less l hp)⟩
end
section
variable {G : Pg} {Ex : XK} {ro : Option Addr} {V0 H0 : Hp} {ρ : Sto} {σ : L2.St} {H H1 : Hp} {S S' : List Nat} {ω ω1 : Rw}
theorem PostX.later {fr : Bool} {Q : VK} (k : Keep ro H H1) : ∀ {r : R PV}, PostX G Ex ro V0 H0 ρ σ fr S H Q r → PostX G Ex ro V0 H0 ρ σ fr S H1 Q r
  | .ok a ω, h => fun H' x k' I c => h H' x (k.trans k') I (by
    cases fr with
    | false => exact c
    | true => obtain ⟨b, o, e, h1, h2, h3⟩ := c; exact ⟨b, o, e, k.dom b h1, h2, h3⟩)
  | .exn t p ω, h => fun H' d k' I c => h H' d (k.trans k') I c
  | .bad, h => h
theorem postx_bnd {α' β' : Type} {fr : Bool} {C' : Hp → β' → α' → Prop} {Q : VK} {K : β' → Hp → Prop} {m : M α'} {f : α' → M PV} (hs : ∀ i ∈ S', i ∈ S)
    (h : PostX G Ex ro V0 H0 ρ σ fr S H Q (bnd m f ω))
    (k : ∀ a ω1 H1 x, m ω = .ok a ω1 → Keep ro H H1 → SR G ro V0 H0 ρ ω1 σ H1 → C' (vw ro V0 H0 ρ σ H1 S') x a → PostX G Ex ro V0 H0 ρ σ fr S H1 Q (f a ω1) → K x H1) :
    Post G Ex ro V0 H0 ρ σ S' C' H K (m ω) := by
  unfold bnd at h
  cases e : m ω with
  | ok a ω1 =>
    rw [e] at h
    exact fun H' x k1 I c => k a ω1 H' x e k1 I c (h.later k1)
  | exn t p ω1 =>
    rw [e] at h
    exact fun H' d k1 I c => h H' d k1 I (c.mono (vw_sub hs))
  | bad => rw [e] at h; exact h
theorem postx_opt {fr : Bool} {Q : VK} {o : Option PV} (h : PostX G Ex ro V0 H0 ρ σ fr S H Q (opt o ω)) : ∃ a, o = some a ∧ PostX G Ex ro V0 H0 ρ σ fr S H Q (.ok a ω) := by
  cases o with
  | none => exact h.elim
  | some a => exact ⟨a, rfl, h⟩
theorem postx_new {Q : VK} {p : PV} (I : SR G ro V0 H0 ρ ω σ H) (h : PostX G Ex ro V0 H0 ρ σ true S H Q (.ok p ω)) : ResN G ro (vw ro V0 H0 ρ σ H S) H Q p :=
  fun H' a o s h0 ho r => h H' _ (.same s) (I.same s) ⟨a, o, rfl, clr_none h0, ho, r.mono (less_le (plus_vw I (.same s)))⟩
end
section
variable {X : Cx} {G : Pg} {k : Nat} {Ex : XK} {e : Expr} {es : List Expr} {S S' : List Nat} {dl : Sto → M (List PV)} {da : Sto → M PV} {pos : Pos}
theorem dx_args {f : List PV → Option PV} {whole : Expr} (hm : PE X whole (tCB (rPLN G f) (tDL G Ex S dl))) : DX X G Ex true whole S (dL f dl) := by
  refine PE.imp hm fun σ H Q ⟨ro, V0, H0, ρ, ω, I, h⟩ => ?_
  refine ⟨ro, V0, H0, ρ, ω, I, postx_bnd (by simp) h fun p ω1 H1 x e k I1 c h1 => ?_⟩
  obtain ⟨z, ez, h3⟩ := postx_opt h1
  exact ⟨ro, _, p, z, I1.vw_le, c, ez, postx_new I1 h3⟩
theorem dx_lst (ha : DL X G Ex es S dl) : DX X G Ex true (.List es pos) S (dL mkLst dl) := by
  refine PE.imp (pe_lst ha) fun σ H Q ⟨ro, V0, H0, ρ, ω, I, h⟩ => ?_
  refine ⟨ro, V0, H0, ρ, ω, I, postx_bnd (by simp) h fun ps ω1 H1 xs e k I1 c h1 => ?_⟩
  obtain ⟨z, ez, h3⟩ := postx_opt h1
  unfold mkLst at ez
  split at ez
  · rename_i hf
    cases ez
    exact ⟨by rw [RepL.length c]; exact fits_ok hf, (postx_new I1 h3).lst I1.vw_le c⟩
  · cases ez
theorem cr_listN (hX : XG G k X) : CallR X (.type "list") (rPLN G listP) := by
  rintro pins s σ H xs us Q I r ⟨ro, Hv, ps, z, le, hp, e, res⟩
  unfold listP at e
  split at e
  · cases e
    obtain ⟨x, rfl, h⟩ := rep1 hp
    simp only [Rep] at h
    obtain ⟨a, ys, rfl, h1, h2⟩ := h
    exact call_list_of pins s σ H _ us Q I r ⟨a, ys, rfl, .inl (SqL.of (le _ _ h1 (nt_lst _))), ResN.lst res le h2⟩
  · cases e
    obtain ⟨x, rfl, h⟩ := rep1 hp
    simp only [Rep] at h
    obtain ⟨a, ys, rfl, h1, h2⟩ := h
    exact call_list_of pins s σ H _ us Q I r ⟨a, ys, rfl, .inr (hX.K ▸ le.sqT h1), ResN.lst res le h2⟩
  · rename_i a b
    split at e
    · rename_i hc
      cases e
      obtain ⟨b1, b2, b3, b4, b5⟩ := of_decide_eq_true hc
      obtain ⟨x, rfl, h⟩ := rep1 hp
      simp only [Rep] at h
      obtain ⟨r0, rfl, h1⟩ := h
      obtain ⟨u, rfl, ru⟩ := vals1 r
      cases (show u = Value.ref r0 from ru)
      obtain ⟨t, u, v, hr⟩ := I.hok r0 _ (le _ _ h1 (by intro ps z; cases z))
      refine call_list_range (n := (b - a).toNat) (I.ok.hd hX.calm) hr (small_one b1 b2 b3 b4) (rangeSize_nat a b) b5 fun h' tk acc c' hk e' hi => ?_
      refine ⟨.ref s.heap.objs.size, upd H s.heap.objs.size (.lst (rgV a b)), I.laid hk (Nat.le_refl _) (show ObjOk X.prog X.w _ _ _ (.lst (rgV a b)) from ⟨?_, acc.toList, c', vals_rg hi, ?_⟩), rfl, ResN.lst res le (by rw [rgI_rgV]; exact .of_ints) _ (I.hok.fresh (Nat.le_refl _))⟩
      · rw [rgV_length, sizeLine_eq]; omega
      · rw [Array.toArray_toList]; exact e'
    · cases e
  · cases e
    obtain ⟨x, rfl, h⟩ := rep1 hp
    simp only [Rep] at h
    obtain ⟨a, kvs, rfl, h1, h2, h3⟩ := h
    refine call_listD hX.calm pins s σ H _ us Q I r ⟨a, kvs, rfl, .inl (le _ _ h1 (nt_dK _)), ?_⟩
    have e : (kvs.map fun kv => kV kv.1) = (kvs.map (·.1)).map kV := by rw [List.map_map]; rfl
    rw [e]
    exact ResN.lst res le (keys_repL h2)
  · cases e
theorem cr_dictN (hX : XG G k X) : CallR X (.type "dict") (rPLN G dictP) := by
  rintro pins s σ H xs us Q I r ⟨ro, Hv, ps, z, le, hp, e, res⟩
  unfold dictP at e
  split at e
  · cases e
    obtain ⟨x, rfl, h⟩ := rep1 hp
    simp only [Rep] at h
    obtain ⟨a, kvs, rfl, h1, h2, h3⟩ := h
    refine call_dictD pins s σ H _ us Q I r ⟨a, kvs, rfl, .inl (le _ _ h1 (nt_dK _)), fun p hn => ?_⟩
    exact res _ p _ (same_upd hn) hn upd_same ⟨kvs, rfl, h2, h3.mono (plus_less le hn)⟩
  · cases e
theorem de_dicK : DE X G Ex (.Dict [] [] pos) [] (dC (.dic false [] [])) :=
  PE.imp pe_dnewK fun σ H Q ⟨ro, V0, H0, ρ, ω, I, h⟩ p hp => post_res I h _ _ (same_upd hp) (by simp only [Rep]; exact ⟨p, [], rfl, plus_new hp, rfl, .nil⟩)
theorem de_dicT : DE X G Ex (.Dict [] [] pos) [] (dC (.dic true [] [])) :=
  PE.imp pe_dnewT fun σ H Q ⟨ro, V0, H0, ρ, ω, I, h⟩ p hp => post_res I h _ _ (same_upd hp) (by simp only [Rep]; exact ⟨p, [], rfl, plus_new hp, rfl, .nil⟩)
theorem dx_dicK : DX X G Ex true (.Dict [] [] pos) [] (dC (.dic false [] [])) :=
  PE.imp pe_dnewK fun σ H Q ⟨ro, V0, H0, ρ, ω, I, h⟩ p hp => postx_new I h _ p _ (same_upd hp) hp upd_same ⟨[], rfl, rfl, .nil⟩
theorem dx_dicT : DX X G Ex true (.Dict [] [] pos) [] (dC (.dic true [] [])) :=
  PE.imp pe_dnewT fun σ H Q ⟨ro, V0, H0, ρ, ω, I, h⟩ p hp => postx_new I h _ p _ (same_upd hp) hp upd_same ⟨[], rfl, rfl, .nil⟩
end

theorem tLc_okX {G : Pg} {Ex : XK} {K : PySem.W.Frag} (fr : Bool) (hK : K = G.K) {it : Sto → M (List PV)} {c : Sto → M Bool} {e : Sto → M PV} {tg : Tg} {vs : List Nat} {Si Sc Se : List Nat} (htg : ∀ i ∈ tgIs tg, i ∈ vs) {σ : L2.St} {H : Hp} {Q : VK}
    (h : tDX G Ex fr (Si ++ (vs ++ (Sc ++ Se))) (dComp (Si ++ (vs ++ (Sc ++ Se))) it c e tg vs) σ H Q) : tLc (tDI G Ex Si it) (gT K tg) (tDT G E0 Sc c) (tD G E0 Se e) vs σ H Q := by
  obtain ⟨ro, V0, H0, ρ, ω, I, h⟩ := h
  refine ⟨ro, V0, H0, ρ, ω, I, postx_bnd sub0 h fun items ω1 H1 J _ k1 I1 hJ h1 D hD => ?_⟩
  by_cases hf : fits items.length = true
  rotate_left
  · rw [if_neg hf] at h1; exact h1.elim
  rw [if_pos hf] at h1
  generalize hS : Si ++ (vs ++ (Sc ++ Se)) = S at h1
  have s0 : ∀ i ∈ Si, i ∈ S := hS ▸ sub0
  have s3 : ∀ i ∈ vs, i ∈ S := hS ▸ sub3
  cases hr : compL c e tg (wipeS (frzS ρ S) vs) items ω1 with
  | none => rw [hr] at h1; exact h1.elim
  | some r =>
  rw [hr] at h1
  have hrow : ro ≠ some D := row_not I1 (clr_none hD)
  have hv : ∀ u, V0 D = some u → NoTb u → False := I1.v0none hD
  have h0 : H0 D = none := I1.dom0 (clr_none hD)
  let Inv1 : Nat → Hp → Prop := fun i H => ∃ ω' acc pvs q, SR G ro V0 (hide H0 D (.lst acc)) ρ ω' σ H ∧ Le (vw ro V0 H0 ρ σ H1 S) (vw ro V0 (hide H0 D (.lst acc)) ρ σ H S) ∧ (∀ a, clr H a = none → clr H1 a = none) ∧ RepL G ro (vw ro V0 (hide H0 D (.lst acc)) ρ σ H S) acc pvs ∧ acc.length ≤ i ∧ i ≤ items.length ∧
    compL c e tg (wipeS (frzS ρ S) vs) (items.drop i) ω' = some q ∧ r.1 = pvs ++ q.1 ∧ r.2 = q.2 ∧ (∀ b o, H1 b = some o → NoTb o → ro ≠ some b → H b = some o)
  refine ⟨fun i m H => m = items.length - i ∧ Inv1 i H, ⟨_, rfl, ω1, [], [], r, I1.hid hD (nt_lst _), (hide_vw' hD), fun a ha => ?_, .nil, Nat.le_refl _, Nat.zero_le _, hr, rfl, rfl, fun b o e n rr => ?_⟩, ?_⟩
  · by_cases q : a = D
    · rw [q]; exact clr_none hD
    · rw [clr_ne q] at ha; exact ha
  · rw [upd_ne (ne_of_none e hD)]; exact e
  rintro i m H ⟨rfl, ω', acc, pvs, q, IH, le1, dom1, racc, hacc, hil, hq, hr1, hr2, old1⟩
  have hHD : H D = some (.lst acc) := IH.keep.old D _ upd_same (by intro ps z; cases z) hrow
  have leI : Le (vw ro V0 H0 ρ σ H1 Si) (vw ro V0 (hide H0 D (.lst acc)) ρ σ H S) := (vw_sub s0).trans le1
  have ok := hJ H (leI.trans IH.vw_le)
  by_cases c1 : i = items.length
  · left
    subst c1
    rw [List.drop_length] at hq
    simp only [compL, Option.some.injEq] at hq
    subst hq
    simp only [List.append_nil] at hr1
    refine ⟨ok.2, ?_⟩
    have I9 := IH.shown h0 hv
    refine h1 H (.ref D) ⟨old1, dom1⟩ (hr2 ▸ I9) ?_
    have leS : Le (vw ro V0 (hide H0 D (.lst acc)) ρ σ H S) (vw ro V0 H0 ρ σ H S) := hide_vw hv h0
    cases fr with
    | true =>
      refine ⟨D, .lst acc, rfl, clr_none hD, hHD, acc, rfl, hr1 ▸ racc.mono fun b u e n => ?_⟩
      unfold less
      by_cases cc : b = D
      · subst cc
        obtain ⟨_, _, e3⟩ := vw_some e
        unfold hide at e3
        rw [upd_same, if_neg (by simp)] at e3
        exact (hv u e3 n).elim
      · rw [if_neg cc]; exact leS b u e n
    | false =>
    show Rep G ro (vw ro V0 H0 ρ σ H _) (.ref D) (.lst r.1)
    simp only [Rep]
    refine ⟨D, acc, rfl, ?_, hr1 ▸ racc.mono leS⟩
    refine vw_mk hrow (fun z => ?_) (by rw [if_pos h0]; exact hHD)
    obtain ⟨j, v, _, e1, e2⟩ := z
    have := (IH.own j v D e1 e2).1
    unfold hide at this
    rw [upd_same] at this; cases this
  · right
    have hlt : i < items.length := Nat.lt_of_le_of_ne hil c1
    obtain ⟨p, hp⟩ : ∃ p, items[i]? = some p := ⟨_, List.getElem?_eq_getElem hlt⟩
    obtain ⟨go, yl⟩ := ok.1 i p hp
    have hdrop : items.drop i = p :: items.drop (i + 1) := by
      rw [List.drop_eq_getElem_cons hlt]
      rw [List.getElem?_eq_getElem hlt] at hp
      cases hp; rfl
    rw [hdrop] at hq
    simp only [compL] at hq
    cases ht : tgS tg p (wipeS (frzS ρ S) vs) with
    | none => rw [ht] at hq; cases hq
    | some ρ1 =>
    rw [ht] at hq
    simp only at hq
    refine ⟨go, fun H' => Inv1 (i + 1) H', fun H' hh => ⟨_, by omega, rfl, hh⟩, fun x H2 hy => ?_⟩
    obtain ⟨sm, rx⟩ := yl x H2 hy
    have I2 := IH.same sm
    have I2w := (I2.frz S).wiped vs
    have lef : ∀ H, Le (vw ro V0 (hide H0 D (.lst acc)) ρ σ H S) (vw ro V0 (hide H0 D (.lst acc)) (wipeS (frzS ρ S) vs) (wipe σ vs) H []) := fun H => vw_less' fun a h => (owned_frz (owned_wipe vs h)).mono (by simp)
    have rx3 := (rx.mono (plus_vw' IH (.same sm) leI)).mono (lef H2)
    refine tg_ok (S := S) hK I2w rx3 ht fun σ1 J1 _ own2 wp => ⟨(wp vs htg).trans (wipe_wipe vs vs fun _ h => h), ?_⟩
    have back : ∀ (Sx : List Nat) (H : Hp), (∀ i ∈ Sx, i ∈ S) → Le (vw ro V0 (hide H0 D (.lst acc)) ρ1 σ1 H Sx) (vw ro V0 (hide H0 D (.lst acc)) ρ σ H S) := fun Sx H hx => vw_less' fun a h => by
      have h2 : Owned (frzS ρ S) σ S a := owned_frz' (h.mono' (by simp))
      have h3 := owned_wipe' (by rw [(I2.frz S).len]) vs s3 h2
      exact (own2 (fun i hi => s3 i (htg i hi)) a h3).mono hx
    have sc : ∀ i ∈ Sc, i ∈ S := hS ▸ sub1
    have se : ∀ i ∈ Se, i ∈ S := hS ▸ sub2
    refine ⟨ro, V0, _, ρ1, ω', J1, ?_⟩
    revert hq
    cases hc : c ρ1 ω' with
    | bad => intro hq; cases hq
    | exn t u w => intro hq; cases hq
    | ok b ω2 =>
    intro hq H3 b' k3 I3 hb
    obtain rfl : b' = b := hb
    have IH3 : SR G ro V0 (hide H0 D (.lst acc)) ρ ω2 σ H3 := I2.grown k3 I3
    have old3 : ∀ b o, H1 b = some o → NoTb o → ro ≠ some b → H3 b = some o := fun b o e n rr => k3.old b o (sm b o (old1 b o e n rr)) n rr
    have dom3 : ∀ a, clr H3 a = none → clr H1 a = none := fun a ha => dom1 a ((Keep.same (ro := ro) sm).dom a (k3.dom a ha))
    have le3 : Le (vw ro V0 (hide H0 D (.lst acc)) ρ σ H S) (vw ro V0 (hide H0 D (.lst acc)) ρ σ H3 S) := (vw_grow (.same sm)).trans (vw_grow k3)
    cases b' with
    | false =>
      simp only [Bool.false_eq_true, if_false]
      exact ⟨ω2, acc, pvs, q, IH3, le1.trans le3, dom3, racc.mono le3, Nat.le_succ_of_le hacc, hlt, hq, hr1, hr2, old3⟩
    | true =>
      simp only [if_true]
      refine ⟨ro, V0, _, ρ1, ω2, I3, ?_⟩
      revert hq
      cases he : e ρ1 ω2 with
      | bad => intro hq; simp only [he] at hq; cases hq
      | exn t u w => intro hq; simp only [he] at hq; cases hq
      | ok y ω3 =>
      simp only [he]
      intro hq H4 yv k4 I4 ry
      cases hq2 : compL c e tg (wipeS (frzS ρ S) vs) (List.drop (i + 1) items) ω3 with
      | none => rw [hq2] at hq; cases hq
      | some q2 =>
      rw [hq2] at hq
      simp only [Option.some.injEq] at hq
      subst hq
      have IH4 : SR G ro V0 (hide H0 D (.lst acc)) ρ ω3 σ H4 := IH3.grown k4 I4
      have hHD4 : H4 D = some (.lst acc) := IH4.keep.old D _ upd_same (by intro ps z; cases z) hrow
      have lt : acc.length < sizeLine := Nat.lt_of_lt_of_le (Nat.lt_of_le_of_lt hacc hlt) (fits_ok hf)
      refine ⟨acc, hHD4, lt, ω3, acc ++ [yv], pvs ++ [y], q2, ?_, ?_, ?_, ?_, ?_, hlt, hq2, ?_, hr2, ?_⟩
      · exact IH4.hidGrow (by intro ps z; cases z) hrow (by intro x z; cases z) hv (by intro ps z; cases z) (by intro c q z; cases z) (nt_lst _)
      · exact ((le1.trans le3).trans (vw_grow k4)).trans hide_keep
      · intro a ha
        by_cases qq : a = D
        · rw [qq]; exact clr_none hD
        · rw [clr_ne qq] at ha; exact dom3 a (k4.dom a ha)
      · exact ((racc.mono (le3.trans (vw_grow k4))).append (.cons (Rep.mono (back Se H4 se) y ry) .nil)).mono hide_keep
      · rw [List.length_append]; simp; omega
      · rw [hr1]; simp
      · intro b o e n rr
        rw [upd_ne (ne_of_none e hD)]
        exact k4.old b o (old3 b o e n rr) n rr

end GP
-- GR
set_option maxRecDepth 100000
set_option maxHeartbeats 4000000
namespace GP
open PySem PySem.Spec PyProof.Rows L2
section
variable {G : Pg} {ro : Option Addr} {V0 H0 : Hp} {ρ : Sto} {ω : Rw} {σ : L2.St} {H : Hp} {S : List Nat}
theorem RepO.plain {Hv : Hp} {o : HO} : ∀ {p : PV}, RepO G ro Hv o p → (∀ x y, o ≠ .frz x y) ∧ ∀ c q, o ≠ LamX.CodeO c q
  | .lst ps, ⟨xs, e1, h⟩ => by rw [e1]; exact ⟨fun _ _ z => (by cases z), fun _ _ z => (by cases z)⟩
  | .dic false ks vs, ⟨kvs, e1, h1, h⟩ => by rw [e1]; exact ⟨fun _ _ z => (by cases z), fun _ _ z => (by cases z)⟩
  | .dic true ks vs, ⟨kvs, e1, h1, h⟩ => by rw [e1]; exact ⟨fun _ _ z => (by cases z), fun _ _ z => (by cases z)⟩
  | .obj t fs, ⟨dx, fvs, e1, h1, h⟩ => by rw [e1]; exact ⟨fun _ _ z => (by cases z), fun _ _ z => (by cases z)⟩
theorem ow_at {i : Nat} {p : PV} {a : Addr} (I : SR G ro V0 H0 ρ ω σ H) (h1 : ρ[i]? = some (.ow p)) (h2 : σ[i]? = some (some (.ref a))) : ∃ o, H a = some o ∧ RepO G ro (vw ro V0 H0 ρ σ H []) o p := by
  obtain ⟨a', o, e, h3, h4⟩ := I.slot i _ _ h1 h2
  cases e
  exact ⟨o, h3, h4⟩
theorem ow_ref {i : Nat} {p : PV} (I : SR G ro V0 H0 ρ ω σ H) (h1 : ρ[i]? = some (.ow p)) : ∃ a o, σ[i]? = some (some (.ref a)) ∧ H a = some o ∧ RepO G ro (vw ro V0 H0 ρ σ H []) o p := by
  have hi : i < σ.length := by rw [← I.len]; exact (List.getElem?_eq_some_iff.mp h1).1
  obtain ⟨a, o, e, h3, h4⟩ := I.slot i _ _ h1 (List.getElem?_eq_getElem hi)
  exact ⟨a, o, by rw [List.getElem?_eq_getElem hi, e], h3, h4⟩
theorem owned_mut {i : Nat} {p p' : PV} (h1 : ρ[i]? = some (.ow p)) {b : Addr} : Owned (ρ.set i (.ow p')) σ S b ↔ Owned ρ σ S b := by
  have hl : i < ρ.length := (List.getElem?_eq_some_iff.mp h1).1
  constructor
  · rintro ⟨j, v, hj, e1, e2⟩
    by_cases c : j = i
    · subst c; exact ⟨j, p, hj, h1, e2⟩
    · rw [List.getElem?_set_ne (Ne.symm c)] at e1; exact ⟨j, v, hj, e1, e2⟩
  · rintro ⟨j, v, hj, e1, e2⟩
    by_cases c : j = i
    · subst c; exact ⟨j, p', hj, List.getElem?_set_self hl, e2⟩
    · exact ⟨j, v, hj, by rw [List.getElem?_set_ne (Ne.symm c)]; exact e1, e2⟩
theorem vw_mut {i : Nat} {p p' : PV} {a : Addr} {o' : HO} (h1 : ρ[i]? = some (.ow p)) (h2 : σ[i]? = some (some (.ref a))) : Le (vw ro V0 H0 ρ σ H []) (vw ro V0 H0 (ρ.set i (.ow p')) σ (upd H a o') []) := fun b u e n => by
  obtain ⟨e1, e2, e3⟩ := vw_some e
  have c : b ≠ a := fun z => e2 ⟨i, p, by simp, h1, z ▸ h2⟩
  exact vw_mk e1 (fun z => e2 ((owned_mut h1).mp z)) (by rw [upd_ne c]; exact e3)
theorem SR.mutate {i : Nat} {p p' : PV} {a : Addr} {o' : HO} (I : SR G ro V0 H0 ρ ω σ H) (h1 : ρ[i]? = some (.ow p)) (h2 : σ[i]? = some (some (.ref a))) (r : RepO G ro (vw ro V0 H0 ρ σ H []) o' p') : SR G ro V0 H0 (ρ.set i (.ow p')) ω σ (upd H a o') := by
  obtain ⟨h00, hro⟩ := I.own i p a h1 h2
  obtain ⟨o, ho, ro_⟩ := ow_at I h1 h2
  have hl : i < ρ.length := (List.getElem?_eq_some_iff.mp h1).1
  have le := vw_mut (ro := ro) (V0 := V0) (H0 := H0) (H := H) (p' := p') (o' := o') h1 h2
  have hne : ∀ (j : Nat) v b, j ≠ i → ρ[j]? = some (.ow v) → σ[j]? = some (some (.ref b)) → b ≠ a := fun j v b c e1 e2 z => c (I.dist j i v p b e1 h1 e2 (z ▸ h2))
  refine ⟨⟨fun b u e n rr => ?_, fun b e => ?_⟩, I.tf, I.v0, by rw [List.length_set]; exact I.len, ?_, ?_, ?_, ?_, ?_⟩
  · have c : b ≠ a := fun z => by rw [z, h00] at e; cases e
    rw [upd_ne c]; exact I.keep.old b u e n rr
  · by_cases c : b = a
    · rw [c]; exact clr_none h00
    · rw [clr_ne c] at e; exact I.keep.dom b e
  · intro j s x e1 e2
    by_cases c : j = i
    · subst c
      rw [List.getElem?_set_self hl] at e1
      cases e1
      rw [h2] at e2; cases e2
      exact ⟨a, o', rfl, upd_same, r.mono le⟩
    · rw [List.getElem?_set_ne (Ne.symm c)] at e1
      have h := I.slot j s x e1 e2
      cases s with
      | no => trivial
      | sh q => obtain ⟨v, e, r⟩ := h; exact ⟨v, e, r.mono le⟩
      | ow q =>
        obtain ⟨b, u, e, h3, h4⟩ := h
        subst e
        exact ⟨b, u, rfl, by rw [upd_ne (hne j q b c e1 e2)]; exact h3, h4.mono le⟩
  · intro j v b e1 e2
    by_cases c : j = i
    · subst c; exact I.own j p b h1 e2
    · rw [List.getElem?_set_ne (Ne.symm c)] at e1; exact I.own j v b e1 e2
  · intro j l v u b e1 e2 e3 e4
    have w : ∀ {j : Nat} {v : PV}, (ρ.set i (.ow p'))[j]? = some (.ow v) → ∃ v', ρ[j]? = some (.ow v') := fun {j v} e => by
      by_cases c : j = i
      · subst c; exact ⟨p, h1⟩
      · rw [List.getElem?_set_ne (Ne.symm c)] at e; exact ⟨v, e⟩
    obtain ⟨v1, w1⟩ := w e1
    obtain ⟨v2, w2⟩ := w e2
    exact I.dist j l v1 v2 b w1 w2 e3 e4
  · have rr := I.row
    cases ro with
    | none => trivial
    | some r0 =>
      obtain ⟨a1, a2, a3, sa, e1, e2⟩ := rr
      refine ⟨a1, a2, a3, sa, ?_, e2.hold fun x e2 => ?_⟩
      · rw [upd_ne (fun z => hro (by rw [z]))]; exact e1
      · rw [upd_ne (fun z => by rw [z, ho] at e2; cases e2; exact ro_.plain.1 _ _ rfl)]; exact e2
  · intro p hp
    obtain ⟨ps, t1, t2, t3⟩ := I.tabs p hp
    refine ⟨ps, ?_, t2, fun pos cv hc => ?_⟩
    · rw [upd_ne (fun z => by rw [z, ho] at t1; cases t1; exact ro_.noTb ps rfl)]; exact t1
    · obtain ⟨c, e, h4⟩ := t3 pos cv hc
      refine ⟨c, e, ?_⟩
      rw [upd_ne (fun z => by rw [z, ho] at h4; cases h4; exact ro_.plain.2 _ _ rfl)]; exact h4
theorem fr_mut {i : Nat} {p' q : PV} {a : Addr} {o' : HO} (I : SR G ro V0 H0 ρ ω σ H) (h1 : (ownS ρ S q)[i]? = some (.ow p')) (h2 : σ[i]? = some (some (.ref a))) {s : Sl} (W : List Nat) (hi : i ∈ W) (hS : ∀ j ∈ S, j ∈ W) : Fr W ρ σ H ((ownS ρ S q).set i s) σ (upd H a o') := ⟨fun j v b hj e1 e2 => by
  have c : j ≠ i := fun z => hj (z ▸ hi)
  have o1 := ownS_at (p := q) e1 fun z => hj (hS j z)
  refine ⟨by rw [List.getElem?_set_ne (Ne.symm c)]; exact o1, e2, ?_⟩
  rw [upd_ne (fun z => c ((I.ownS_ok (S := S) q).dist j i v p' b o1 h1 e2 (by rw [z]; exact h2)))], fun _ _ => rfl⟩
end
def lstAt (ρ : Sto) (i : Nat) : Bool := match ρ[i]? with
  | some (.ow (.lst _)) => true
  | _ => false
def appS (i : Nat) (S : List Nat) (p : PV) (ρ : Sto) : Option (Fl × Sto) := match (ownS ρ S p)[i]? with
  | some (.ow (.lst ps)) => if fits (ps.length + 1) = true then some (.nx, (ownS ρ S p).set i (.ow (.lst (ps ++ [p])))) else none
  | _ => none
def sApp (i : Nat) (S : List Nat) (e : Sto → M PV) : MS := fun ρ => if lstAt ρ i = true then bnd (e ρ) fun p => opt (appS i S p ρ) else fun _ => .bad
def extS (i : Nat) (S : List Nat) (p : PV) (ρ : Sto) : Option (Fl × Sto) := match p with
  | .lst qs => (match (ownS ρ S (.tup qs))[i]? with
    | some (.ow (.lst ps)) => if fits (ps.length + qs.length) = true then some (.nx, (ownS ρ S (.tup qs)).set i (.ow (.lst (ps ++ qs)))) else none
    | _ => none)
  | _ => none
def sExt (i : Nat) (S : List Nat) (e : Sto → M PV) : MS := fun ρ => if lstAt ρ i = true then bnd (e ρ) fun p => opt (extS i S p ρ) else fun _ => .bad
theorem lst_at {G : Pg} {ro : Option Addr} {V0 H0 : Hp} {ρ : Sto} {ω : Rw} {σ : L2.St} {H : Hp} {i : Nat} (I : SR G ro V0 H0 ρ ω σ H) (h : lstAt ρ i = true) : ∃ ps a xs, ρ[i]? = some (.ow (.lst ps)) ∧ σ[i]? = some (some (.ref a)) ∧ H a = some (.lst xs) := by
  unfold lstAt at h
  split at h
  · rename_i ps hp
    obtain ⟨a, o, h1, h2, xs, rfl, h3⟩ := ow_ref I hp
    exact ⟨ps, a, xs, hp, h1, h2⟩
  · cases h
section
variable {X : Cx} {G : Pg} {k : Nat} {Ex : XK} {e : Expr} {S : List Nat} {da : Sto → M PV} {pos apos cpos : Pos} {i : Nat} {x : Str} {p2 : Pos}
theorem app_t {K : PySem.W.Frag} {D : Ends} {σ : L2.St} {H : Hp} (h : tDS G Ex (i :: S) (sApp i S da) D σ H) : tDrop (tBM K "list" rAppend (tVar i) (tCons (tD G Ex S da) tNil)) D σ H := by
  obtain ⟨ro, V0, H0, ρ, ω, I, h⟩ := h
  unfold sApp at h
  by_cases c : lstAt ρ i = true
  rotate_left
  · rw [if_neg c] at h; exact h.elim
  rw [if_pos c] at h
  obtain ⟨ps0, a, xs0, hp0, ha, hx0⟩ := lst_at I c
  refine ⟨.ref a, ha, .inl ⟨rfl, xs0, SqL.of hx0⟩, ro, V0, H0, ρ, ω, I, posts_bnd I h fun p ω1 H1 y _ k1 I1 c1 h1 => ?_⟩
  obtain ⟨z, ez, h2⟩ : ∃ z, appS i S p ρ = some z ∧ PostS G Ex ro V0 H0 (i :: S) ρ σ H1 D (.ok z ω1) := by
    cases q : appS i S p ρ with
    | none => rw [q] at h1; exact h1.elim
    | some z => rw [q] at h1; exact ⟨z, rfl, h1⟩
  unfold appS at ez
  split at ez
  · rename_i ps hp
    split at ez
    · rename_i hf
      cases ez
      obtain ⟨I2, r2⟩ := I1.own_ok (Rep.mono (Le.refl _) p c1)
      obtain ⟨o, ho, xs, rfl, rxs⟩ := ow_at I2 hp ha
      refine ⟨a, xs, y, rfl, rfl, ho, ?_, ?_⟩
      · have := fits_ok hf
        rw [rxs.length]; omega
      · exact h2 _ _ (I2.mutate hp ha ⟨xs ++ [y], rfl, rxs.append (.cons r2 .nil)⟩) (fr_mut I1 hp ha _ (by simp) (by simp +contextual))
    · cases ez
  · cases ez
theorem ext_t {K : PySem.W.Frag} {D : Ends} {σ : L2.St} {H : Hp} (h : tDS G Ex (i :: S) (sExt i S da) D σ H) : tDrop (tBM K "list" rExtend (tVar i) (tCons (tD G Ex S da) tNil)) D σ H := by
  obtain ⟨ro, V0, H0, ρ, ω, I, h⟩ := h
  unfold sExt at h
  by_cases c : lstAt ρ i = true
  rotate_left
  · rw [if_neg c] at h; exact h.elim
  rw [if_pos c] at h
  obtain ⟨ps0, a, xs0, hp0, ha, hx0⟩ := lst_at I c
  refine ⟨.ref a, ha, .inl ⟨rfl, xs0, SqL.of hx0⟩, ro, V0, H0, ρ, ω, I, posts_bnd I h fun p ω1 H1 y _ k1 I1 c1 h1 => ?_⟩
  obtain ⟨z, ez, h2⟩ : ∃ z, extS i S p ρ = some z ∧ PostS G Ex ro V0 H0 (i :: S) ρ σ H1 D (.ok z ω1) := by
    cases q : extS i S p ρ with
    | none => rw [q] at h1; exact h1.elim
    | some z => rw [q] at h1; exact ⟨z, rfl, h1⟩
  unfold extS at ez
  split at ez
  · rename_i qs _
    split at ez
    · rename_i ps hp
      split at ez
      · rename_i hf
        cases ez
        have c2 : Rep G ro (vw ro V0 H0 ρ σ H1 S) y (.lst qs) := c1
        simp only [Rep] at c2
        obtain ⟨b, ys, rfl, hb, rb⟩ := c2
        obtain ⟨I2, r2⟩ := I1.ownL_ok rb
        obtain ⟨o, ho, xs, rfl, rxs⟩ := ow_at I2 hp ha
        refine ⟨a, b, xs, ys, rfl, rfl, ho, I1.vw_le _ _ hb (nt_lst _), ?_, ?_⟩
        · have := fits_ok hf
          rw [rxs.length, rb.length]; omega
        · exact h2 _ _ (I2.mutate hp ha ⟨xs ++ ys, rfl, rxs.append r2⟩) (fr_mut I1 hp ha _ (by simp) (by simp +contextual))
      · cases ez
    · cases ez
  · cases ez
structure BmC (X : Cx) (o e : Expr) (name : Str) (apos cpos : Pos) : Prop where
  base : attributeBase o name X.env (eval o X.env) = eval o X.env
  few : ((backTo cpos (starEach [e] X.env)).all (fun x => !x.1) && (backToKw cpos (keywordEach [] X.env)).all (fun x => x.1.isSome)
      && decide (([e] : List Expr).length + ([] : List Keyword).length + (if ([] : List Keyword).isEmpty then 0 else 1) < 30)) = true
  line : (apos.endLine == cpos.line) = true
  star : starEach [e] X.env = (false, eval e X.env) :: starEach [] X.env
theorem ds_app (hi : X.N[i]? = some x) (hv : Vis X.env.scope x) (hd : (x == ("__debug__" : Str)) = false) (hcd : (x == ("__classdict__" : Str)) = false) (he : DE X G Ex e S da) (b : BmC X (.Name x p2) e "append" apos cpos) :
    DS X G Ex (.Expr (.Call (.Attribute (.Name x p2) "append" apos) [e] [] cpos) pos) (i :: S) (sApp i S da) :=
  PS.imp (ps_expr (pe_bm PySem.F.plainAttrs_list PySem.F.slot_list_append PySem.F.type_list_append mt_append (pe_var hi hv hd hcd) (pa_cons he pa_nil b.star) b.base b.few b.line b.star rfl) rfl) fun D σ H h => app_t h
theorem ds_ext (hi : X.N[i]? = some x) (hv : Vis X.env.scope x) (hd : (x == ("__debug__" : Str)) = false) (hcd : (x == ("__classdict__" : Str)) = false) (he : DE X G Ex e S da) (b : BmC X (.Name x p2) e "extend" apos cpos) :
    DS X G Ex (.Expr (.Call (.Attribute (.Name x p2) "extend" apos) [e] [] cpos) pos) (i :: S) (sExt i S da) :=
  PS.imp (ps_expr (pe_bm PySem.F.plainAttrs_list PySem.F.slot_list_extend PySem.F.type_list_extend mt_extend (pe_var hi hv hd hcd) (pa_cons he pa_nil b.star) b.base b.few b.line b.star rfl) rfl) fun D σ H h => ext_t h
end
end GP
-- GS
set_option maxRecDepth 100000
set_option maxHeartbeats 4000000
namespace GP
open PySem PySem.Spec PyProof.Rows L2
structure Pend (G : Pg) (ro : Option Addr) (V0 H0 H0h : Hp) (ρ : Sto) (σ : L2.St) (W : List Nat) (h0 : Hp) (ρ1 : Sto) (σ1 : L2.St) (Hc : Hp) : Prop where
  close : ∀ H' ω', Keep ro Hc H' → SR G ro V0 H0h ρ ω' σ H' → SR G ro V0 H0 ρ1 ω' σ1 H'
  view : ∀ H' S ω', Keep ro Hc H' → SR G ro V0 H0h ρ ω' σ H' → Le (vw ro V0 H0h ρ σ H' S) (vw ro V0 H0 ρ1 σ1 H' S)
  back : ∀ H' ω', SR G ro V0 H0h ρ ω' σ H' → Keep ro H0 H' ∧ ∀ S, Le (vw ro V0 H0h ρ σ H' S) (plus V0 H0 H')
  fr : ∀ H' ω', Keep ro Hc H' → SR G ro V0 H0h ρ ω' σ H' → Fr W ρ σ h0 ρ1 σ1 H'
theorem Pend.start {G : Pg} {ro : Option Addr} {V0 H0 : Hp} {ρ : Sto} {σ : L2.St} {W : List Nat} {H : Hp} {ω : Rw} (I : SR G ro V0 H0 ρ ω σ H) : Pend G ro V0 H0 H0 ρ σ W H ρ σ H :=
  ⟨fun _ _ _ h => h, fun _ _ _ _ _ => Le.refl _, fun _ _ h => ⟨h.keep, fun _ => h.vw_plus⟩, fun _ _ k _ => I.fr_keep k W⟩
section
variable {G : Pg} {Ex : XK} {ro : Option Addr} {V0 H0 H0h : Hp} {ρ ρ1 : Sto} {ω ω1 : Rw} {σ σ1 : L2.St} {H H1 Hc h0 : Hp} {S W : List Nat}
theorem SR.hidNew {a : Addr} {o : HO} (I : SR G ro V0 H0 ρ ω σ H) (k : Keep ro H H1) (I1 : SR G ro V0 H0 ρ ω1 σ H1) (ha : clr H a = none) (ho : H1 a = some o) (no : NoTb o) : SR G ro V0 (hide H0 a o) ρ ω1 σ H1 := by
  have h00 := I.dom0 ha
  have hv := I.v0none' ha
  have le : Le (vw ro V0 H0 ρ σ H []) (vw ro V0 (hide H0 a o) ρ σ H1 []) := fun b u e n => by
    obtain ⟨h1, h2, h3⟩ := vw_some e
    refine vw_mk h1 h2 ?_
    unfold hide
    by_cases c : b = a
    · subst c
      rw [if_pos h00] at h3; rw [clr_some h3 n] at ha; cases ha
    · rw [upd_ne c]
      split at h3
      · rename_i q; rw [if_pos q]; exact k.old b u h3 n h1
      · rename_i q; rw [if_neg q]; exact h3
  refine ⟨⟨fun b u e n r => ?_, fun b e => ?_⟩, tf_upd no I.tf, fun b u e n => ?_, I1.len, ?_, ?_, I1.dist, I1.row, I1.tabs⟩
  · unfold hide at e
    by_cases c : b = a
    · subst c; rw [upd_same] at e; cases e; exact ho
    · rw [upd_ne c] at e; exact I1.keep.old b u e n r
  · unfold hide
    by_cases c : b = a
    · subst c; rw [clr_some ho no] at e; cases e
    · rw [clr_ne c]; exact I1.keep.dom b e
  · unfold hide
    by_cases c : b = a
    · subst c; exact (hv u e n).elim
    · rw [upd_ne c]; exact I.v0 b u e n
  · intro i s x e1 e2
    have h := I.slot i s x e1 e2
    cases s with
    | no => trivial
    | sh p => obtain ⟨v, e, r⟩ := h; exact ⟨v, e, r.mono le⟩
    | ow p =>
      obtain ⟨b, u, e, h1, h2⟩ := h
      subst e
      exact ⟨b, u, rfl, k.old b u h1 h2.noTb (I.own i p b e1 e2).2, h2.mono le⟩
  · intro i v b e1 e2
    obtain ⟨h1, h2⟩ := I.own i v b e1 e2
    refine ⟨?_, h2⟩
    obtain ⟨b', u, e, h3, h4⟩ := I.slot i _ _ e1 e2
    cases e
    unfold hide
    rw [upd_ne (fun z => by rw [← z, clr_some h3 h4.noTb] at ha; cases ha)]; exact h1
theorem owned_ownS {p : PV} {S' : List Nat} {a : Addr} (h : Owned (ownS ρ S p) σ S' a) : Owned ρ σ S' a := by
  unfold ownS at h
  split at h
  · split at h
    · exact h
    · exact (owned_frz h).mono (by simp +contextual)
  · exact h
theorem Pend.step {fr : Bool} {i : Nat} {x : V} {p : PV} (P : Pend G ro V0 H0 H0h ρ σ W h0 ρ1 σ1 Hc) (I : SR G ro V0 H0h ρ ω σ H) (kc : Keep ro Hc H) (k : Keep ro H H1) (I1 : SR G ro V0 H0h ρ ω1 σ H1) (r : XR G ro fr H H1 (vw ro V0 H0h ρ σ H1 S) x p) (hi : i ∈ W) (hi2 : i + 1000 ∈ W) (hS : ∀ j ∈ S, j ∈ W) :
    ∃ H0h', SR G ro V0 H0h' ρ ω1 σ H1 ∧ Pend G ro V0 H0 H0h' ρ σ W h0 (putS fr S i p ρ1) (σ1.set i (some x)) H1 := by
  have frW : ∀ H', Fr W ρ σ h0 ρ1 σ1 H' → Fr W ρ σ h0 (putS fr S i p ρ1) (σ1.set i (some x)) H' := fun H' f => (f.trans (fr_putS (fr := fr) (S := S) (i := i) (p := p) (x := x) (H := H') W hi hi2 hS)).mono (by simp)
  cases fr with
  | false =>
    refine ⟨H0h, I1, fun H' ω' k' I' => ?_, fun H' S' ω' k' I' => ?_, P.back, fun H' ω' k' I' => frW H' (P.fr H' ω' (kc.trans (k.trans k')) I')⟩
    · have r' : Rep G ro (vw ro V0 H0h ρ σ H1 S) x p := r
      exact SR.putX (fr := false) (P.close H' ω' (kc.trans (k.trans k')) I') (.refl _ _) (P.close H' ω' (kc.trans (k.trans k')) I') ((r'.mono (vw_grow k')).mono (P.view H' S ω' (kc.trans (k.trans k')) I'))
    · refine (P.view H' S' ω' (kc.trans (k.trans k')) I').trans (vw_less' fun a h => ?_)
      exact owned_ownS (owned_set (by intro _ z; cases z) h)
  | true =>
    obtain ⟨a, o, rfl, ha, ho, ro_⟩ := r
    have hv := I.v0none' ha
    have h0h := I.dom0 ha
    have shown : ∀ {H' ω'}, SR G ro V0 (hide H0h a o) ρ ω' σ H' → SR G ro V0 H0h ρ ω' σ H' := fun I' => I'.shown h0h hv
    refine ⟨hide H0h a o, I.hidNew k I1 ha ho ro_.noTb, fun H' ω' k' I' => ?_, fun H' S' ω' k' I' => ?_, fun H' ω' I' => ?_, fun H' ω' k' I' => frW H' (P.fr H' ω' (kc.trans (k.trans k')) (shown I'))⟩
    · have Is := shown I'
      have hr := row_not I ha
      have ho' : H' a = some o := I'.keep.old a o (by unfold hide; exact upd_same) ro_.noTb hr
      refine SR.putX (fr := true) (P.close H ω kc I) (k.trans k') (P.close H' ω' (kc.trans (k.trans k')) Is) ⟨a, o, rfl, ha, ho', ?_⟩
      exact (ro_.mono (less_le (vw_grow k'))).mono (less_le (P.view H' S ω' (kc.trans (k.trans k')) Is))
    · have Is := shown I'
      refine fun b u e n => ?_
      have hb : b ≠ a := fun z => by
        subst z
        obtain ⟨_, _, e3⟩ := vw_some e
        unfold hide at e3
        rw [upd_same, if_neg (by simp)] at e3
        exact (hv u e3 n).elim
      have e2 := (P.view H' S' ω' (kc.trans (k.trans k')) Is) b u ((hide_vw hv h0h) b u e n) n
      obtain ⟨e3, e4, e5⟩ := vw_some e2
      refine vw_mk e3 (fun z => ?_) e5
      rcases owned_ow z with z | z
      · exact hb z
      · exact e4 (owned_ownS z)
    · have Is := shown I'
      obtain ⟨b1, b2⟩ := P.back H' ω' Is
      exact ⟨b1, fun S' => (hide_vw hv h0h).trans (b2 S')⟩
end
structure PI1 where
  fr : Bool
  S : List Nat
  i : Nat
  d : Sto → M PV
def parM (ρ : Sto) : List PI1 → Sto → M (Fl × Sto)
  | [], ρ1 => ret (.nx, ρ1)
  | c :: cs, ρ1 => bnd (c.d ρ) fun p => parM ρ cs (putS c.fr c.S c.i p ρ1)
def sPar (cs : List PI1) : MS := fun ρ => parM ρ cs ρ
def parW : List PI1 → List Nat
  | [] => []
  | c :: cs => c.i :: (c.i + 1000) :: (c.S ++ parW cs)
def parA (G : Pg) (Ex : XK) : List PI1 → TA
  | [] => tNil
  | c :: cs => tCons (tDX G Ex c.fr c.S c.d) (parA G Ex cs)
section
variable {G : Pg} {Ex : XK} {ro : Option Addr} {V0 H0 : Hp} {D : Ends}
theorem par_go {W : List Nat} {ρ : Sto} {σ : L2.St} {h0 : Hp} : ∀ (cs : List PI1) (H0h : Hp) (ω : Rw) (H : Hp) (ρ1 : Sto) (σ1 : L2.St) (Hc : Hp) (Q : List V → Hp → Prop), (∀ i ∈ parW cs, i ∈ W) → SR G ro V0 H0h ρ ω σ H → Keep ro Hc H → Pend G ro V0 H0 H0h ρ σ W h0 ρ1 σ1 Hc →
    PostS G Ex ro V0 H0 W ρ σ h0 D (parM ρ cs ρ1 ω) → (∀ vs H', vs.length = cs.length → D.nx (setsV (cs.map (·.i)) vs σ1) H' → Q vs H') → parA G Ex cs σ H Q
  | [], H0h, ω, H, ρ1, σ1, Hc, Q, hw, I, kc, P, h, q => q [] H rfl (h _ _ (P.close H ω kc I) (P.fr H ω kc I))
  | c :: cs, H0h, ω, H, ρ1, σ1, Hc, Q, hw, I, kc, P, h, q => by
    refine ⟨ro, V0, H0h, ρ, ω, I, ?_⟩
    unfold parM bnd at h
    revert h
    cases e : c.d ρ ω with
    | bad => exact fun h => h
    | exn t p ω1 =>
      intro h H' d k1 I1 ex
      obtain ⟨b1, b2⟩ := P.back H' ω1 I1
      exact h H' d b1 I1.row I1.tabs (ex.mono (b2 c.S))
    | ok p ω1 =>
      intro h H1 x k1 I1 r
      obtain ⟨H0h', I2, P2⟩ := P.step (i := c.i) I kc k1 I1 r (hw _ (by simp [parW])) (hw _ (by simp [parW])) fun j hj => hw j (by simp [parW, hj])
      exact par_go cs H0h' ω1 H1 _ _ H1 (fun vs H' => Q (x :: vs) H') (fun i hi => hw i (by simp [parW, hi])) I2 (.refl _ _) P2 h fun vs H' hl nx => q (x :: vs) H' (by simp [hl]) nx
end
section
variable {X : Cx} {G : Pg} {k : Nat} {Ex : XK} {a b c : Expr} {c1 c2 c3 : PI1} {x y z : Str} {px py pz pt pos : Pos} {kt k2 : Nat} {pt2 : Pos}
theorem par2_t {D : Ends} {σ : L2.St} {H : Hp} (h : tDS G Ex (parW [c1, c2]) (sPar [c1, c2]) D σ H) : tPar c1.i c2.i (parA G Ex [c1, c2]) D σ H := by
  obtain ⟨ro, V0, H0, ρ, ω, I, h⟩ := h
  refine par_go (W := parW [c1, c2]) [c1, c2] H0 ω H ρ σ H _ (fun _ h => h) I (.refl _ _) (Pend.start I) h fun vs H' hl nx => ?_
  match vs, hl with
  | [v, w], _ => exact ⟨v, w, rfl, nx⟩
theorem par3_t {D : Ends} {σ : L2.St} {H : Hp} (h : tDS G Ex (parW [c1, c2, c3]) (sPar [c1, c2, c3]) D σ H) : tPar3 c1.i c2.i c3.i (parA G Ex [c1, c2, c3]) D σ H := by
  obtain ⟨ro, V0, H0, ρ, ω, I, h⟩ := h
  refine par_go (W := parW [c1, c2, c3]) [c1, c2, c3] H0 ω H ρ σ H _ (fun _ h => h) I (.refl _ _) (Pend.start I) h fun vs H' hl nx => ?_
  match vs, hl with
  | [v, w, u], _ => exact ⟨v, w, u, rfl, nx⟩
end

def tgtS (tg : Tg) (S : List Nat) (p : PV) (ρ : Sto) : Option (Fl × Sto) := (tgS tg p (ownS ρ S p)).map fun ρ' => (.nx, ρ')
def sTgt (tg : Tg) (S : List Nat) (e : Sto → M PV) : MS := fun ρ => bnd (e ρ) fun p => opt (tgtS tg S p ρ)
def intV : Option PV → Option Int
  | some (.int a) => some a
  | _ => none
def sAug (i : Nat) (f : Int → Int → Int) (e : Sto → M PV) : MS := fun ρ => bnd (opt (intV (slV ρ[i]?))) fun a => bnd (e ρ) fun p => bnd (opt (intV (some p))) fun b => ret (.nx, ρ.set i (.sh (.int (f a b))))
theorem intV_some {o : Option PV} {a : Int} (h : intV o = some a) : o = some (.int a) := by
  unfold intV at h
  split at h
  · cases h; rfl
  · cases h
section
variable {G : Pg} {Ex : XK} {S : List Nat} {da : Sto → M PV}
theorem setsV_ne {j : Nat} : ∀ (is : List Nat) (xs : List V) (σ : L2.St), j ∉ is → (setsV is xs σ)[j]? = σ[j]?
  | [], _, _, _ => rfl
  | i :: is, [], σ, _ => rfl
  | i :: is, x :: xs, σ, h => by
    simp only [List.mem_cons, not_or] at h
    show (setsV is xs (σ.set i (some x)))[j]? = _
    rw [setsV_ne is xs _ h.2, List.getElem?_set_ne (Ne.symm h.1)]
theorem setsS_ne {j : Nat} : ∀ (is : List Nat) (xs : List PV) (σ : Sto), j ∉ is → (setsS is xs σ)[j]? = σ[j]?
  | [], _, _, _ => rfl
  | i :: is, [], σ, _ => rfl
  | i :: is, x :: xs, σ, h => by
    simp only [List.mem_cons, not_or] at h
    show (setsS is xs (σ.set i (.sh x)))[j]? = _
    rw [setsS_ne is xs _ h.2, List.getElem?_set_ne (Ne.symm h.1)]
theorem tgS_ne {tg : Tg} {p : PV} {ρ ρ1 : Sto} {j : Nat} (e : tgS tg p ρ = some ρ1) (hj : j ∉ tgIs tg) : ρ1[j]? = ρ[j]? := by
  cases tg with
  | nm i =>
    simp only [tgS, Option.some.injEq] at e
    subst e
    rw [List.getElem?_set_ne fun z => hj (by simp [tgIs, z])]
  | tup is =>
    cases p <;> simp only [tgS] at e <;> (try cases e)
    split at e
    · cases e; exact setsS_ne _ _ _ hj
    · cases e
def tgW (tg : Tg) : List Nat := tgIs tg ++ (tgIs tg).map (· + 1000)
theorem tg_ok2 {ro : Option Addr} {V0 H0 : Hp} {ρ : Sto} {ω : Rw} {σ : L2.St} {H : Hp} {K : PySem.W.Frag} {tg : Tg} {p : PV} {x : V} {ρ1 : Sto} {Q : L2.St → Hp → Prop} (hK : K = G.K) (I : SR G ro V0 H0 ρ ω σ H) (r : Rep G ro (vw ro V0 H0 ρ σ H []) x p) (e : tgS tg p ρ = some ρ1)
    (q : ∀ σ1, SR G ro V0 H0 ρ1 ω σ1 H → Fr (tgW tg) ρ σ H ρ1 σ1 H → Q σ1 H) : gT K tg x σ H Q := by
  cases tg with
  | nm i =>
    have e' := e
    simp only [tgS] at e
    cases e
    refine q _ (I.put (by intro _ z; cases z) ⟨x, rfl, r⟩) ⟨fun j p a hj h1 h2 => ⟨by rw [tgS_ne e' fun z => hj (List.mem_append_left _ z)]; exact h1, by rw [List.getElem?_set_ne fun z => hj (by simp [tgW, tgIs, z])]; exact h2, rfl⟩, fun j hj => by rw [List.getElem?_set_ne fun z => hj (by simp [tgW, tgIs, z])]⟩
  | tup is =>
    have e' := e
    cases p <;> simp only [tgS] at e <;> (try cases e)
    rename_i ps
    split at e
    · rename_i hl
      cases e
      simp only [Rep] at r
      obtain ⟨a, xs, rfl, h1, h2⟩ := r
      have l := h2.length
      refine ⟨a, xs, rfl, hK ▸ I.vw_le.sqT h1, by rw [l, hl], gNames_ok is xs σ (by rw [l, hl]) ?_⟩
      exact q _ (SR.sets is ps xs ρ σ I h2) ⟨fun j p a hj h1 h2 => ⟨by rw [tgS_ne e' fun z => hj (List.mem_append_left _ z)]; exact h1, by rw [setsV_ne is xs σ fun z => hj (List.mem_append_left _ z)]; exact h2, rfl⟩, fun j hj => by rw [setsV_ne is xs σ fun z => hj (List.mem_append_right _ (List.mem_map.mpr ⟨j, z, rfl⟩))]⟩
    · cases e
theorem tgt_t {K : PySem.W.Frag} {tg : Tg} {D : Ends} {σ : L2.St} {H : Hp} (hK : K = G.K) (h : tDS G Ex (tgW tg ++ S) (sTgt tg S da) D σ H) : tAsg (tD G Ex S da) (gT K tg) D σ H := by
  obtain ⟨ro, V0, H0, ρ, ω, I, h⟩ := h
  refine ⟨ro, V0, H0, ρ, ω, I, posts_bnd I h fun p ω1 H1 x _ k1 I1 c h1 => ?_⟩
  obtain ⟨z, ez, h2⟩ : ∃ z, tgtS tg S p ρ = some z ∧ PostS G Ex ro V0 H0 (tgW tg ++ S) ρ σ H1 D (.ok z ω1) := by
    cases q : tgtS tg S p ρ with
    | none => rw [q] at h1; exact h1.elim
    | some z => rw [q] at h1; exact ⟨z, rfl, h1⟩
  unfold tgtS at ez
  obtain ⟨ρ', e1, rfl⟩ := Option.map_eq_some_iff.mp ez
  obtain ⟨I2, r2⟩ := I1.own_ok (Rep.mono (Le.refl _) p c)
  refine tg_ok2 hK I2 r2 e1 fun σ1 I3 f => h2 _ _ I3 ⟨fun j q a hj e3 e4 => ?_, fun j hj => f.st j fun z => hj (List.mem_append_left _ z)⟩
  simp only [List.mem_append, not_or] at hj
  exact f.obj j q a hj.1 (ownS_at e3 hj.2) e4
theorem aug_t {i : Nat} {f : Int → Int → Int} {D : Ends} {σ : L2.St} {H : Hp} (h : tDS G Ex [i, i + 1000] (sAug i f da) D σ H) : tAug i (tD G Ex S da) (ipI f) D σ H := by
  obtain ⟨ro, V0, H0, ρ, ω, I, h⟩ := h
  obtain ⟨a, ha, h⟩ := posts_opt h
  have ha := intV_some ha
  have hx : σ[i]? = some (some (.int a)) := by
    cases hs : ρ[i]? with
    | none => rw [hs] at ha; cases ha
    | some s =>
      have hi : i < σ.length := by rw [← I.len]; exact (List.getElem?_eq_some_iff.mp hs).1
      have hx : σ[i]? = some σ[i] := List.getElem?_eq_getElem hi
      have sl := I.slot i s _ hs hx
      rw [hs] at ha
      cases s with
      | no => cases ha
      | sh p =>
        cases ha
        obtain ⟨v, ev, r⟩ := sl
        simp only [Rep] at r
        rw [hx, ev, r]
      | ow p =>
        cases ha
        obtain ⟨_, _, _, _, r⟩ := sl
        exact r.elim
  refine ⟨.int a, hx, ro, V0, H0, ρ, ω, I, posts_bnd I h fun p ω1 H1 x _ k1 I1 c h1 => ?_⟩
  obtain ⟨b, hb, h1⟩ := posts_opt h1
  cases intV_some hb
  have c' : x = .int b := by simpa only [CE, Rep] using c
  refine ⟨a, b, rfl, c', h1 _ _ (I1.put (by intro _ z; cases z) ⟨_, rfl, by simp [Rep]⟩) ⟨fun j q u hj e1 e2 => ?_, fun j hj => ?_⟩⟩
  · have : i ≠ j := fun z => hj (by simp [z])
    exact ⟨by rw [List.getElem?_set_ne this]; exact e1, by rw [List.getElem?_set_ne this]; exact e2, rfl⟩
  · have : i ≠ j := fun z => hj (by simp [z])
    rw [List.getElem?_set_ne this]
end
end GP
-- GT
set_option maxRecDepth 100000
set_option maxHeartbeats 4000000
namespace GP
open PySem PySem.Spec PyProof.Rows L2
def killS (ρ : Sto) : List Nat → Sto
  | [] => ρ
  | i :: is => killS (ρ.set i .no) is
section
variable {G : Pg} {Ex : XK} {ro : Option Addr} {V0 H0 : Hp} {ρ ρ1 : Sto} {ω ω1 : Rw} {σ σ1 : L2.St} {H H1 : Hp} {S W : List Nat} {D : Ends}
theorem SR.kill1 (I : SR G ro V0 H0 ρ ω σ H) (i : Nat) : SR G ro V0 H0 (ρ.set i .no) ω σ H := by
  by_cases hi : i < σ.length
  · have h := I.put (i := i) (s := .no) (x := σ[i]) (by intro _ z; cases z) trivial
    rw [List.set_getElem_self] at h
    exact h
  · rw [List.set_eq_of_length_le (by rw [I.len]; omega)]
    exact I
theorem SR.kill : ∀ (is : List Nat) {ρ : Sto}, SR G ro V0 H0 ρ ω σ H → SR G ro V0 H0 (killS ρ is) ω σ H
  | [], _, I => I
  | i :: is, _, I => SR.kill is (I.kill1 i)
theorem killS_ne {j : Nat} : ∀ (is : List Nat) {ρ : Sto}, j ∉ is → (killS ρ is)[j]? = ρ[j]?
  | [], _, _ => rfl
  | i :: is, ρ, h => by
    simp only [List.mem_cons, not_or] at h
    show (killS (ρ.set i .no) is)[j]? = _
    rw [killS_ne is h.2, List.getElem?_set_ne (Ne.symm h.1)]
theorem fr_kill {is : List Nat} (h : ∀ i ∈ is, i ∈ W) : Fr W ρ σ H (killS ρ is) σ H := ⟨fun i p a hi h1 h2 => ⟨by rw [killS_ne is fun z => hi (h i z)]; exact h1, h2, rfl⟩, fun _ _ => rfl⟩
theorem fr_frz {is : List Nat} (h : ∀ i ∈ is, i ∈ W) : Fr W ρ σ H (frzS ρ is) σ H := ⟨fun i p a hi h1 h2 => ⟨frzS_ow' h1 fun z => hi (h i z), h2, rfl⟩, fun _ _ => rfl⟩

open Classical in
noncomputable def baseH (ρ : Sto) (σ : L2.St) (H : Hp) : Hp := fun a => if Owned ρ σ [] a then none else clr H a
theorem baseH_no {a : Addr} (h : ¬ Owned ρ σ [] a) : baseH ρ σ H a = clr H a := by unfold baseH; rw [if_neg h]
theorem baseH_yes {a : Addr} (h : Owned ρ σ [] a) : baseH ρ σ H a = none := by unfold baseH; rw [if_pos h]
theorem base_tf : ∀ b ps, baseH ρ σ H b ≠ some (.tbl ps) := fun b ps e => by
  by_cases c : Owned ρ σ [] b
  · rw [baseH_yes c] at e; cases e
  · rw [baseH_no c] at e; exact (of_clr e).2 ps rfl
theorem SR.rebase (I : SR G ro V0 H0 ρ ω σ H) : SR G ro (vw ro V0 H0 ρ σ H []) (baseH ρ σ H) ρ ω σ H := by
  have le : Le (vw ro V0 H0 ρ σ H []) (vw ro (vw ro V0 H0 ρ σ H []) (baseH ρ σ H) ρ σ H []) := fun b u e n => by
    obtain ⟨h1, h2, h3⟩ := vw_some e
    refine vw_mk h1 h2 ?_
    have hb := I.vw_le b u e n
    rw [baseH_no h2, clr_some hb n, if_neg (by simp)]
    exact e
  refine ⟨⟨fun b u e n r => ?_, fun b e => ?_⟩, base_tf, fun b u e n => ?_, I.len, ?_, ?_, I.dist, I.row, I.tabs⟩
  · by_cases c : Owned ρ σ [] b
    · rw [baseH_yes c] at e; cases e
    · rw [baseH_no c] at e; exact (of_clr e).1
  · by_cases c : Owned ρ σ [] b
    · exact clr_none (baseH_yes c)
    · unfold clr; rw [baseH_no c]; show clrO (clr H b) = none; rw [e]; rfl
  · rw [baseH_no (vw_some e).2.1]; exact clr_some (I.vw_le b u e n) n
  · intro i s x e1 e2
    have h := I.slot i s x e1 e2
    cases s with
    | no => trivial
    | sh p => obtain ⟨v, e, r⟩ := h; exact ⟨v, e, r.mono le⟩
    | ow p => obtain ⟨b, u, e, h1, h2⟩ := h; exact ⟨b, u, e, h1, h2.mono le⟩
  · intro i v b e1 e2
    exact ⟨baseH_yes ⟨i, v, by simp, e1, e2⟩, (I.own i v b e1 e2).2⟩
theorem ow_none (I : SR G ro V0 H0 ρ ω σ H) {a : Addr} (o : Owned ρ σ [] a) : H0 a = none := by
  obtain ⟨i, v, _, e1, e2⟩ := o
  exact (I.own i v a e1 e2).1
theorem base_dom (I : SR G ro V0 H0 ρ ω σ H) {b : Addr} (e : baseH ρ σ H b = none) : H0 b = none := by
  by_cases c : Owned ρ σ [] b
  · exact ow_none I c
  · rw [baseH_no c] at e; exact I.dom0 e
theorem base_keep (I : SR G ro V0 H0 ρ ω σ H) (k : Keep ro (baseH ρ σ H) H1) : Keep ro H0 H1 := by
  refine ⟨fun b u e n r => ?_, fun b e => clr_none (base_dom I (by have := k.dom b e; rw [clr_tf base_tf] at this; exact this))⟩
  have c : ¬ Owned ρ σ [] b := fun z => by rw [ow_none I z] at e; cases e
  exact k.old b u (by rw [baseH_no c]; exact clr_some (I.keep.old b u e n r) n) n r
theorem base_plus (I : SR G ro V0 H0 ρ ω σ H) (k : Keep ro (baseH ρ σ H) H1) : Le (plus (vw ro V0 H0 ρ σ H []) (baseH ρ σ H) H1) (plus V0 H0 H1) := fun b u e n => by
  unfold plus at e ⊢
  rw [clr_tf base_tf] at e
  rw [clr_tf I.tf]
  split at e
  · rename_i c
    rw [base_dom I c]; exact e
  · rename_i c
    obtain ⟨h1, h2, h3⟩ := vw_some e
    split at h3
    · rename_i d
      rw [d]
      exact k.old b u (by rw [baseH_no h2]; exact clr_some h3 n) n h1
    · rename_i d
      cases q : H0 b with
      | none => exact absurd q d
      | some _ => exact h3
theorem SR.unbase (I : SR G ro V0 H0 ρ ω σ H) (J : SR G ro (vw ro V0 H0 ρ σ H []) (baseH ρ σ H) ρ1 ω1 σ1 H1) : SR G ro V0 H0 ρ1 ω1 σ1 H1 := by
  have le : Le (vw ro (vw ro V0 H0 ρ σ H []) (baseH ρ σ H) ρ1 σ1 H1 []) (vw ro V0 H0 ρ1 σ1 H1 []) := fun b u e n => by
    obtain ⟨h1, h2, h3⟩ := vw_some e
    refine vw_mk h1 h2 ?_
    split at h3
    · rename_i c; rw [if_pos (base_dom I c)]; exact h3
    · obtain ⟨g1, g2, g3⟩ := vw_some h3
      split at g3
      · rename_i d
        rw [if_pos d]
        exact J.keep.old b u (by rw [baseH_no g2]; exact clr_some g3 n) n h1
      · rename_i d; rw [if_neg d]; exact g3
  refine ⟨base_keep I J.keep, I.tf, I.v0, J.len, ?_, ?_, J.dist, J.row, J.tabs⟩
  · intro i s x e1 e2
    have h := J.slot i s x e1 e2
    cases s with
    | no => trivial
    | sh p => obtain ⟨v, e, r⟩ := h; exact ⟨v, e, r.mono le⟩
    | ow p => obtain ⟨b, u, e, h1, h2⟩ := h; exact ⟨b, u, e, h1, h2.mono le⟩
  · intro i v b e1 e2
    obtain ⟨h1, h2⟩ := J.own i v b e1 e2
    exact ⟨base_dom I h1, h2⟩
theorem PostS.based (I : SR G ro V0 H0 ρ ω σ H) {ρ0 : Sto} {σ0 : L2.St} {h0 : Hp} : ∀ {r : R (Fl × Sto)}, PostS G Ex ro V0 H0 W ρ0 σ0 h0 D r → PostS G Ex ro (vw ro V0 H0 ρ σ H []) (baseH ρ σ H) W ρ0 σ0 h0 D r
  | .ok (.nx, ρ) ω, h => fun σ H J f => h σ H (I.unbase J) f
  | .ok (.brk, ρ) ω, h => fun σ H J f => h σ H (I.unbase J) f
  | .ok (.cnt, ρ) ω, h => fun σ H J f => h σ H (I.unbase J) f
  | .ok (.ret p, ρ) ω, h => fun H v k r t rep => h H v (base_keep I k) r t (Rep.mono (base_plus I k) p rep)
  | .exn t p ω, h => fun H d k r t ex => h H d (base_keep I k) r t (ex.mono (base_plus I k))
  | .bad, h => h
theorem V0_vw (J : SR G ro V0 H0 ρ1 ω1 σ1 H1) (nr : ∀ r, ro = some r → V0 r = none) : Le V0 (vw ro V0 H0 ρ1 σ1 H1 []) := fun b u e n => by
  have hb := J.v0 b u e n
  refine vw_mk (fun z => by rw [nr b z] at e; cases e) (fun z => ?_) (by rw [hb, if_neg (by simp)]; exact e)
  rw [ow_none J z] at hb; cases hb
end

def forL (tg : Tg) (body : MS) (kill : List Nat) : List PV → MS
  | [] => fun ρ => ret (.nx, ρ)
  | p :: ps => fun ρ => bnd (opt (tgS tg p ρ)) fun ρ1 => bnd (body ρ1) fun r => match r.1 with
    | .nx => forL tg body kill ps (killS r.2 kill)
    | .cnt => forL tg body kill ps (killS r.2 kill)
    | .brk => ret (.nx, killS r.2 kill)
    | .ret v => ret (.ret v, r.2)
def sFor (nf : Bool) (Si : List Nat) (it : Sto → M (List PV)) (tg : Tg) (body : MS) (kill : List Nat) : MS := fun ρ => bnd (it ρ) fun items =>
  if nf = true then (if immL items = true then forL tg body kill items (killS ρ kill) else fun _ => .bad) else forL tg body kill items (killS (frzS ρ Si) kill)
section
variable {G : Pg} {Ex : XK} {S Wb W : List Nat} {D : Ends} {it : Sto → M (List PV)} {tg : Tg} {body : MS} {kill : List Nat} {tb : TS} {K : PySem.W.Frag}
theorem for_turns {ro : Option Addr} {V0 H0 : Hp} {ρs : Sto} {σs : L2.St} {Hs : Hp} {items : List PV} {J : It} (hK : K = G.K) (htb : ∀ D σ H, tDS G Ex Wb body D σ H → tb D σ H) (hW1 : ∀ i ∈ tgW tg, i ∈ W) (hW2 : ∀ i ∈ Wb, i ∈ W) (hW3 : ∀ i ∈ kill, i ∈ W)
    (hit : ∀ ρ ω σ H, SR G ro V0 H0 ρ ω σ H → Fr W ρs σs Hs ρ σ H → (∀ (i : Nat) p, items[i]? = some p → J.go i H ∧ ∀ x H', J.yld i H x H' → Same H H' ∧ Rep G ro (vw ro V0 H0 ρ σ H' []) x p) ∧ J.stop items.length H)
    {ρ : Sto} {ω : Rw} {σ : L2.St} {H : Hp} (I : SR G ro V0 H0 ρ ω σ H) (f : Fr W ρs σs Hs ρ σ H) (h : PostS G Ex ro V0 H0 W ρs σs Hs D (forL tg body kill items ρ ω)) :
    ∃ Wn : Nat → Nat → L2.St → Hp → Prop, (∃ m, Wn 0 m σ H) ∧ ∀ i m σ H, Wn i m σ H →
      (J.stop i H ∧ D.nx σ H) ∨ (J.go i H ∧ ∃ N : L2.St → Hp → Prop, (∀ σ' H', N σ' H' → ∃ m', m' < m ∧ Wn (i + 1) m' σ' H') ∧ ∀ x H', J.yld i H x H' → gT K tg x σ H' fun σ2 H2 => tb { D with nx := N, ct := N, bk := D.nx } σ2 H2) := by
  let In : Nat → L2.St → Hp → Prop := fun i σ H => i ≤ items.length ∧ ∃ ρ ω, SR G ro V0 H0 ρ ω σ H ∧ Fr W ρs σs Hs ρ σ H ∧ PostS G Ex ro V0 H0 W ρs σs Hs D (forL tg body kill (items.drop i) ρ ω)
  refine ⟨fun i m σ H => m = items.length - i ∧ In i σ H, ⟨_, rfl, Nat.zero_le _, ρ, ω, I, f, h⟩, ?_⟩
  rintro i m σ H ⟨rfl, hil, ρ, ω, I, f, h⟩
  obtain ⟨h1, h2⟩ := hit ρ ω σ H I f
  by_cases c1 : i = items.length
  · left
    subst c1
    rw [List.drop_length] at h
    exact ⟨h2, h σ H I f⟩
  · right
    have hlt : i < items.length := Nat.lt_of_le_of_ne hil c1
    obtain ⟨p, hp⟩ : ∃ p, items[i]? = some p := ⟨_, List.getElem?_eq_getElem hlt⟩
    obtain ⟨go, yl⟩ := h1 i p hp
    have hdrop : items.drop i = p :: items.drop (i + 1) := by
      rw [List.drop_eq_getElem_cons hlt]
      rw [List.getElem?_eq_getElem hlt] at hp
      cases hp; rfl
    rw [hdrop] at h
    obtain ⟨ρ1, e1, h⟩ := posts_opt h
    refine ⟨go, fun σ H => In (i + 1) σ H, fun σ' H' hh => ⟨_, by omega, rfl, hh⟩, fun x H2 hy => ?_⟩
    obtain ⟨sm, rx⟩ := yl x H2 hy
    have I2 := I.same sm
    have f2 : Fr W ρs σs Hs ρ σ H2 := (f.trans (I.fr_keep (.same sm) W)).mono (by simp)
    refine tg_ok2 hK I2 rx e1 fun σ1 I3 f3 => htb _ _ _ ⟨ro, V0, H0, ρ1, ω, I3, ?_⟩
    have f4 : Fr W ρs σs Hs ρ1 σ1 H2 := (f2.trans f3).mono (by simpa using fun i hi => hi.elim id (hW1 i))
    unfold bnd at h
    revert h
    cases e : body ρ1 ω with
    | bad => exact id
    | exn t p ω1 => exact id
    | ok r ω1 =>
      obtain ⟨fl, ρ2⟩ := r
      have fin : ∀ {σ' H'}, Fr Wb ρ1 σ1 H2 ρ2 σ' H' → Fr W ρs σs Hs (killS ρ2 kill) σ' H' := fun g => ((f4.trans g).trans (fr_kill (W := W) hW3)).mono (by simpa using fun i hi => hi.elim id (fun z => z.elim (hW2 i) id))
      cases fl with
      | nx => exact fun h σ' H' J' g => ⟨hlt, _, ω1, J'.kill kill, fin g, h⟩
      | cnt => exact fun h σ' H' J' g => ⟨hlt, _, ω1, J'.kill kill, fin g, h⟩
      | brk => exact fun h σ' H' J' g => h σ' H' (J'.kill kill) (fin g)
      | ret v => exact fun h => h
theorem for_t (hK : K = G.K) (htb : ∀ D σ H, tDS G Ex Wb body D σ H → tb D σ H) {nf : Bool} (hnf : nf = true → ∀ i ∈ S, i ∉ tgW tg ++ (Wb ++ kill)) {σ : L2.St} {H : Hp}
    (h : tDS G Ex ((tgW tg ++ (Wb ++ kill)) ++ (if nf = true then [] else S)) (sFor nf S it tg body kill) D σ H) : tFor (tDI G Ex S it) (gT K tg) tb D σ H := by
  obtain ⟨ro, V0, H0, ρ, ω, I, h⟩ := h
  refine ⟨ro, V0, H0, ρ, ω, I, posts_bnd I h fun items ω1 H1 J _ k1 I1 hJ h1 => ?_⟩
  cases nf with
  | false =>
    simp only [Bool.false_eq_true, if_false] at h1
    have I2 := (I1.frz S).rebase
    have h2 := PostS.based (I1.frz S) h1
    have h3 : PostS G Ex ro _ _ (tgW tg ++ (Wb ++ kill) ++ S) (frzS ρ S) σ H1 D (forL tg body kill items (killS (frzS ρ S) kill) ω1) :=
      h2.later (W := S) (fr_frz (fun _ h => h)) (by simp +contextual) (fun _ h => h)
    have nr : ∀ r, ro = some r → vw ro V0 H0 (frzS ρ S) σ H1 [] r = none := fun r e => vw_yes (.inl e)
    have leS : Le (vw ro V0 H0 ρ σ H1 S) (vw ro V0 H0 (frzS ρ S) σ H1 []) := vw_less' fun a h => (owned_frz h).mono (by simp)
    refine for_turns (W := tgW tg ++ (Wb ++ kill) ++ S) hK htb (by simp +contextual) (by simp +contextual) (by simp +contextual) (fun ρ' ω' σ' H' I' f' => ?_) (I2.kill kill) (fr_kill (by simp +contextual)) h3
    have le := V0_vw I' nr
    obtain ⟨j1, j2⟩ := hJ H' ((leS.trans le).trans I'.vw_le)
    refine ⟨fun i p hp => ?_, j2⟩
    obtain ⟨g1, g2⟩ := j1 i p hp
    refine ⟨g1, fun x H'' hy => ?_⟩
    obtain ⟨sm, rx⟩ := g2 x H'' hy
    exact ⟨sm, rx.mono (plus_vw' I' (.same sm) (leS.trans le))⟩
  | true =>
    simp only [if_true, List.append_nil] at h1
    by_cases hi : immL items = true
    rotate_left
    · rw [if_neg hi] at h1; exact h1.elim
    rw [if_pos hi] at h1
    have hnf := hnf rfl
    have I2 := I1.rebase
    have h2 := PostS.based I1 h1
    have nr : ∀ r, ro = some r → vw ro V0 H0 ρ σ H1 [] r = none := fun r e => vw_yes (.inl e)
    refine for_turns (W := tgW tg ++ (Wb ++ kill)) hK htb (by simp +contextual) (by simp +contextual) (by simp +contextual) (fun ρ' ω' σ' H' I' f' => ?_) (I2.kill kill) (fr_kill (by simp +contextual)) h2
    have le := V0_vw I' nr
    have leH : Le (vw ro V0 H0 ρ σ H1 S) H' := fun b u e n => by
      obtain ⟨e1, e2, e3⟩ := vw_some e
      by_cases c : Owned ρ σ [] b
      · obtain ⟨j, v, _, e4, e5⟩ := c
        by_cases hj : j ∈ S
        · obtain ⟨_, _, q⟩ := f'.obj j v b (hnf j hj) e4 e5
          rw [q]; exact I1.vw_le b u e n
        · exact (e2 ⟨j, v, hj, e4, e5⟩).elim
      · exact I'.vw_le b u (le b u (vw_mk e1 c e3) n) n
    obtain ⟨j1, j2⟩ := hJ H' leH
    refine ⟨fun i p hp => ?_, j2⟩
    obtain ⟨g1, g2⟩ := j1 i p hp
    refine ⟨g1, fun x H'' hy => ?_⟩
    obtain ⟨sm, rx⟩ := g2 x H'' hy
    have ip : imm p = true := by
      have : ∀ {l : List PV} {i : Nat} {p : PV}, immL l = true → l[i]? = some p → imm p = true := by
        intro l
        induction l with
        | nil => intro i p _ h; simp at h
        | cons q l ih =>
          intro i p h e
          simp only [immL, Bool.and_eq_true] at h
          cases i with
          | zero => simp at e; subst e; exact h.1
          | succ i => exact ih h.2 (by simpa using e)
      exact this hi hp
    refine ⟨sm, Rep.imm (fun b u e st => ?_) p ip rx⟩
    have nb : NoTb u := by intro ps z; subst z; exact st
    unfold plus at e
    split at e
    · rename_i cc
      exact plus_vw (S := []) I' (.same sm) b u (by unfold plus; rw [cc]; exact e) nb
    · exact vw_grow (.same sm) b u (le b u (vw_still I1 b u e st) nb) nb
end

def whileL (c : Sto → M Bool) (body : MS) (kill : List Nat) : Nat → MS
  | 0 => fun _ _ => .bad
  | n + 1 => fun ρ => bnd (c ρ) fun k => if k = true then bnd (body ρ) (fun r => match r.1 with
    | .nx => whileL c body kill n (killS r.2 kill)
    | .cnt => whileL c body kill n (killS r.2 kill)
    | .brk => ret (.nx, killS r.2 kill)
    | .ret v => ret (.ret v, r.2)) else ret (.nx, ρ)
open Classical in
noncomputable def sWhile (c : Sto → M Bool) (body : MS) (kill : List Nat) : MS := fun ρ ω => if h : ∃ n, whileL c body kill n (killS ρ kill) ω ≠ .bad then whileL c body kill h.choose (killS ρ kill) ω else .bad
theorem bnd_bad {α β : Type} {m : M α} {f : α → M β} {ω : Rw} (h : bnd m f ω ≠ .bad) : m ω ≠ .bad := fun e => h (by unfold bnd; rw [e])
theorem whileL_mono {c : Sto → M Bool} {body : MS} {kill : List Nat} : ∀ (n m : Nat) (ρ : Sto) (ω : Rw), n ≤ m → whileL c body kill n ρ ω ≠ .bad → whileL c body kill m ρ ω = whileL c body kill n ρ ω
  | 0, m, ρ, ω, _, h => (h rfl).elim
  | n + 1, 0, ρ, ω, hl, h => by omega
  | n + 1, m + 1, ρ, ω, hl, h => by
    unfold whileL at h ⊢
    unfold bnd at h ⊢
    cases e : c ρ ω with
    | bad => rfl
    | exn t p ω1 => rfl
    | ok k ω1 =>
      rw [e] at h
      simp only at h ⊢
      cases k with
      | false => rfl
      | true =>
        simp only [if_true] at h ⊢
        cases e2 : body ρ ω1 with
        | bad => rfl
        | exn t p ω1 => rfl
        | ok r ω2 =>
          rw [e2] at h
          simp only at h ⊢
          cases e3 : r.1 with
          | nx => rw [e3] at h; simp only at h ⊢; exact whileL_mono n m _ _ (by omega) h
          | cnt => rw [e3] at h; simp only at h ⊢; exact whileL_mono n m _ _ (by omega) h
          | brk => rfl
          | ret v => rfl
theorem sWhile_eq {c : Sto → M Bool} {body : MS} {kill : List Nat} {ρ : Sto} {ω : Rw} {n : Nat} {r : R (Fl × Sto)} (h : whileL c body kill n (killS ρ kill) ω = r) (hr : r ≠ .bad) : sWhile c body kill ρ ω = r := by
  have hx : ∃ n, whileL c body kill n (killS ρ kill) ω ≠ .bad := ⟨n, by rw [h]; exact hr⟩
  unfold sWhile
  rw [dif_pos hx]
  have h2 := hx.choose_spec
  rcases Nat.le_total n hx.choose with q | q
  · rw [whileL_mono n _ _ _ q (by rw [h]; exact hr), h]
  · rw [← h, whileL_mono _ n _ _ q h2]
section
variable {G : Pg} {Ex : XK} {S Wb W : List Nat} {D : Ends} {c : Sto → M Bool} {body : MS} {kill : List Nat} {tb : TS}
theorem while_t (htb : ∀ D σ H, tDS G Ex Wb body D σ H → tb D σ H) {σ : L2.St} {H : Hp} (h : tDS G Ex (Wb ++ kill) (sWhile c body kill) D σ H) : tWhile (tDT G Ex S c) tb D σ H := by
  obtain ⟨ro, V0, H0, ρ, ω, I, h⟩ := h
  unfold sWhile at h
  split at h
  rotate_left
  · exact h.elim
  rename_i hx
  refine ⟨fun m σ' H' => ∃ ρ' ω', SR G ro V0 H0 ρ' ω' σ' H' ∧ Fr (Wb ++ kill) ρ σ H ρ' σ' H' ∧ PostS G Ex ro V0 H0 (Wb ++ kill) ρ σ H D (whileL c body kill m ρ' ω'), ⟨_, _, ω, I.kill kill, fr_kill (by simp +contextual), h⟩, ?_⟩
  rintro m σ' H' ⟨ρ', ω', I', f', h'⟩
  cases m with
  | zero => exact h'.elim
  | succ n =>
    have hh : PostS G Ex ro V0 H0 (Wb ++ kill) ρ' σ' H' D (whileL c body kill (n + 1) ρ' ω') := h'.later f' (fun _ h => h) (fun _ h => h)
    refine ⟨ro, V0, H0, ρ', ω', I', posts_bnd I' hh fun k ω1 H1 x _ k1 I1 cb h1 => ?_⟩
    obtain rfl : x = k := cb
    cases x with
    | false =>
      simp only [Bool.false_eq_true, if_false] at h1 ⊢
      exact h1 σ' H1 I1 (Fr.refl _ _ _ _)
    | true =>
      simp only [if_true] at h1 ⊢
      refine ⟨fun σ2 H2 => ∃ ρ2 ω2, SR G ro V0 H0 ρ2 ω2 σ2 H2 ∧ Fr (Wb ++ kill) ρ σ H ρ2 σ2 H2 ∧ PostS G Ex ro V0 H0 (Wb ++ kill) ρ σ H D (whileL c body kill n ρ2 ω2), fun σ2 H2 hh => ⟨n, Nat.lt_succ_self n, hh⟩, htb _ _ _ ⟨ro, V0, H0, ρ', ω1, I1, ?_⟩⟩
      have f1 : Fr (Wb ++ kill) ρ σ H ρ' σ' H1 := (f'.trans (I'.fr_keep k1 [])).mono (by simp)
      have h2 : PostS G Ex ro V0 H0 (Wb ++ kill) ρ σ H D (whileL c body kill (n + 1) ρ' ω') := h'
      have e0 : c ρ' ω' = .ok true ω1 := by assumption
      unfold whileL bnd at h2
      rw [e0] at h2
      simp only [if_true] at h2
      revert h2
      cases e : body ρ' ω1 with
      | bad => exact id
      | exn t p ω1 => exact id
      | ok r ω2 =>
        obtain ⟨fl, ρ2⟩ := r
        have fin : ∀ {σ2 H2}, Fr Wb ρ' σ' H1 ρ2 σ2 H2 → Fr (Wb ++ kill) ρ σ H (killS ρ2 kill) σ2 H2 := fun g => ((f1.trans g).trans (fr_kill (W := kill) (fun _ h => h))).mono (fun i hi => by simp only [List.mem_append] at hi ⊢; rcases hi with ((h | h) | h) | h <;> simp [h])
        cases fl with
        | nx => exact fun h σ2 H2 J' g => ⟨_, ω2, J'.kill kill, fin g, h⟩
        | cnt => exact fun h σ2 H2 J' g => ⟨_, ω2, J'.kill kill, fin g, h⟩
        | brk => exact fun h σ2 H2 J' g => h σ2 H2 (J'.kill kill) (fin g)
        | ret v => exact fun h => h
end
end GP
-- GU
set_option maxRecDepth 100000
set_option maxHeartbeats 4000000
namespace GP
open PySem PySem.Spec PyProof.Rows L2
section
variable {κ : Type} [DecidableEq κ]
def hasK (k : κ) (ks : List κ) : Bool := ks.any fun a => decide (a = k)
def putAll (k : κ) (v : PV) : List κ → List PV → List PV
  | a :: as, w :: ws => (if a = k then v else w) :: putAll k v as ws
  | _, ws => ws
theorem any_fst (k : κ) (kvs : List (κ × V)) : (kvs.any fun kv => decide (kv.1 = k)) = hasK k (kvs.map (·.1)) := by
  unfold hasK
  rw [List.any_map]; rfl
theorem putK_fst (k : κ) (x : V) (kvs : List (κ × V)) : (putK kvs k x).map (·.1) = if hasK k (kvs.map (·.1)) = true then kvs.map (·.1) else kvs.map (·.1) ++ [k] := by
  unfold putK
  rw [any_fst]
  split
  · rw [List.map_map]
    apply List.map_congr_left
    intro kv _
    show (if kv.1 = k then (kv.1, x) else kv).1 = kv.1
    split <;> rfl
  · rw [List.map_append]; rfl
variable {G : Pg} {ro : Option Addr} {Hv : Hp}
theorem putAll_rep (k : κ) {x : V} {v : PV} (rx : Rep G ro Hv x v) : ∀ (kvs : List (κ × V)) (vs : List PV), RepL G ro Hv (kvs.map (·.2)) vs → RepL G ro Hv ((kvs.map fun kv => if kv.1 = k then (kv.1, x) else kv).map (·.2)) (putAll k v (kvs.map (·.1)) vs)
  | [], vs, h => by
    cases vs with
    | nil => exact h
    | cons w ws => simp only [List.map_nil, RepL] at h; obtain ⟨_, _, z, _⟩ := h; cases z
  | kv :: kvs, [], h => by simp only [List.map_cons, RepL] at h; cases h
  | kv :: kvs, w :: ws, h => by
    simp only [List.map_cons, RepL] at h
    obtain ⟨y, ys, e, h1, h2⟩ := h
    injection e with e1 e2
    subst e1; subst e2
    have ih := putAll_rep k rx kvs ws h2
    simp only [List.map_cons, putAll]
    refine .cons ?_ ih
    by_cases c : kv.1 = k
    · rw [if_pos c, if_pos c]; exact rx
    · rw [if_neg c, if_neg c]; exact h1
theorem putK_rep (k : κ) {x : V} {v : PV} (rx : Rep G ro Hv x v) (kvs : List (κ × V)) (vs : List PV) (h : RepL G ro Hv (kvs.map (·.2)) vs) :
    RepL G ro Hv ((putK kvs k x).map (·.2)) (if hasK k (kvs.map (·.1)) = true then putAll k v (kvs.map (·.1)) vs else vs ++ [v]) := by
  unfold putK
  rw [any_fst]
  split
  · exact putAll_rep k rx kvs vs h
  · rw [List.map_append]
    exact h.append (.cons rx .nil)
end
theorem keysOf_snoc : ∀ {ks : List PV} {ks' : List Key} {p : PV} {k : Key}, keysOf ks = some ks' → keyOf p = some k → keysOf (ks ++ [p]) = some (ks' ++ [k])
  | [], ks', p, k, h, e => by simp only [keysOf] at h; cases h; simp [keysOf, e]
  | q :: ks, ks', p, k, h, e => by
    simp only [keysOf] at h
    split at h
    · rename_i a as h1 h2
      cases h
      simp only [List.cons_append, keysOf, h1, keysOf_snoc h2 e]
    · cases h
theorem tkeysOf_snoc : ∀ {ks : List PV} {ks' : List (List Key)} {p : PV} {k : List Key}, tkeysOf ks = some ks' → tkeyOf p = some k → tkeysOf (ks ++ [p]) = some (ks' ++ [k])
  | [], ks', p, k, h, e => by simp only [tkeysOf] at h; cases h; simp [tkeysOf, e]
  | q :: ks, ks', p, k, h, e => by
    simp only [tkeysOf] at h
    split at h
    · rename_i a as h1 h2
      cases h
      simp only [List.cons_append, tkeysOf, h1, tkeysOf_snoc h2 e]
    · cases h
def dputP (b : Bool) (ks vs : List PV) (kp v : PV) : Option PV := match b with
  | false => (match keyOf kp, keysOf ks with
    | some k, some ks' => if fits (ks'.length + 1) = true then (if hasK k ks' = true then some (.dic false ks (putAll k v ks' vs)) else some (.dic false (ks ++ [kp]) (vs ++ [v]))) else none
    | _, _ => none)
  | true => (match tkeyOf kp, tkeysOf ks with
    | some k, some ks' => if fits (ks'.length + 1) = true then (if hasK k ks' = true then some (.dic true ks (putAll k v ks' vs)) else some (.dic true (ks ++ [kp]) (vs ++ [v]))) else none
    | _, _ => none)
def CK (G : Pg) (ro : Option Addr) (b : Bool) : Hp → V → PV → Prop := fun Hv x p => match b with
  | false => Rep G ro Hv x p
  | true => ∃ a xs ps, x = .ref a ∧ Hv a = some (.tup xs) ∧ p = .tup ps ∧ RepL G ro Hv xs ps
def tDK (G : Pg) (Ex : XK) (b : Bool) (S : List Nat) (d : Sto → M PV) : TE := fun σ H Q => ∃ ro V0 H0 ρ ω, SR G ro V0 H0 ρ ω σ H ∧ Post G Ex ro V0 H0 ρ σ S (CK G ro b) H Q (d ρ ω)
abbrev DK (X : Cx) (G : Pg) (Ex : XK) (b : Bool) (e : Expr) (S : List Nat) (d : Sto → M PV) : Prop := PE X e (tDK G Ex b S d)
theorem dputP_ok {G : Pg} {ro : Option Addr} {Hv Hk H : Hp} {a : Addr} {o : HO} {b : Bool} {ks vs : List PV} {kp v r : PV} {x y : V} (h : dputP b ks vs kp v = some r) (ho : H a = some o) (ro_ : RepO G ro Hv o (.dic b ks vs)) (rv : Rep G ro Hv x v) (rk : CK G ro b Hk y kp) (le : Le Hk H) :
    ∃ o', RepO G ro Hv o' r ∧ DPut H a y x (upd H a o') := by
  cases b with
  | false =>
    obtain ⟨kvs, rfl, h1, h2⟩ := ro_
    simp only [dputP] at h
    split at h
    · rename_i k ks' e1 e2
      rw [h1] at e2; cases e2
      split at h
      · rename_i hf
        have hlen : kvs.length < sizeLine := by have := fits_ok hf; rw [List.length_map] at this; omega
        refine ⟨.dK (putK kvs k x), ?_, .inl ⟨kvs, k, ho, keyOf_rep e1 rk, hlen, rfl⟩⟩
        have r1 := putK_fst k x kvs
        have r2 := putK_rep k rv kvs vs h2
        split at h
        · rename_i c
          cases h
          rw [if_pos c] at r1 r2
          exact ⟨_, rfl, by rw [r1]; exact h1, r2⟩
        · rename_i c
          cases h
          rw [if_neg c] at r1 r2
          exact ⟨_, rfl, by rw [r1]; exact keysOf_snoc h1 e1, r2⟩
      · cases h
    · cases h
  | true =>
    obtain ⟨kvs, rfl, h1, h2⟩ := ro_
    simp only [dputP] at h
    split at h
    · rename_i k ks' e1 e2
      rw [h1] at e2; cases e2
      split at h
      · rename_i hf
        have hlen : kvs.length < sizeLine := by have := fits_ok hf; rw [List.length_map] at this; omega
        obtain ⟨b, xs, ps, rfl, hb, rfl, rps⟩ := rk
        simp only [tkeyOf] at e1
        obtain rfl := keysOf_rep e1 rps
        refine ⟨.dT (putK kvs k x), ?_, .inr ⟨kvs, k, b, ho, rfl, le _ _ hb (nt_tup _), hlen, rfl⟩⟩
        have r1 := putK_fst k x kvs
        have r2 := putK_rep k rv kvs vs h2
        split at h
        · rename_i c
          cases h
          rw [if_pos c] at r1 r2
          exact ⟨_, rfl, by rw [r1]; exact h1, r2⟩
        · rename_i c
          cases h
          rw [if_neg c] at r1 r2
          exact ⟨_, rfl, by rw [r1]; exact tkeysOf_snoc h1 e1, r2⟩
      · cases h
    · cases h
def dicAt (b : Bool) (ρ : Sto) (i : Nat) : Bool := match ρ[i]? with
  | some (.ow (.dic c _ _)) => c == b
  | _ => false
def dputS (b : Bool) (i : Nat) (S : List Nat) (k v : PV) (ρ : Sto) : Option (Fl × Sto) := match (ownS ρ S v)[i]? with
  | some (.ow (.dic c ks vs)) => if c = b then (dputP c ks vs k v).map fun d => (.nx, (ownS ρ S v).set i (.ow d)) else none
  | _ => none
def sDput (b : Bool) (i : Nat) (Sv : List Nat) (dk dv : Sto → M PV) : MS := fun ρ => if dicAt b ρ i = true then bnd (dv ρ) fun v => bnd (dk ρ) fun k => opt (dputS b i Sv k v ρ) else fun _ => .bad
theorem CK.mono {G : Pg} {ro : Option Addr} {b : Bool} {Hv Hv' : Hp} {x : V} {p : PV} (e : Le Hv Hv') (h : CK G ro b Hv x p) : CK G ro b Hv' x p := by
  cases b with
  | false => exact Rep.mono e p h
  | true => obtain ⟨a, xs, ps, h1, h2, h3, h4⟩ := h; exact ⟨a, xs, ps, h1, e _ _ h2 (nt_tup _), h3, h4.mono e⟩
section
variable {X : Cx} {G : Pg} {k : Nat} {Ex : XK} {e ek o : Expr} {S S' : List Nat} {da dk dv : Sto → M PV} {pos apos cpos : Pos} {i : Nat} {x : Str} {p2 : Pos} {b : Bool}
theorem dput_t {D : Ends} {σ : L2.St} {H : Hp} (h : tDS G Ex (i :: (S ++ S')) (sDput b i S dk dv) D σ H) : sDPut (tVar i) (tDK G Ex b S' dk) (tD G Ex S dv) D σ H := by
  obtain ⟨ro, V0, H0, ρ, ω, I, h⟩ := h
  unfold sDput at h
  by_cases c : dicAt b ρ i = true
  rotate_left
  · rw [if_neg c] at h; exact h.elim
  rw [if_pos c] at h
  have hi : ∃ a, σ[i]? = some (some (.ref a)) := by
    unfold dicAt at c
    split at c
    · rename_i c' ks vs hp
      obtain ⟨a, o, h1, _⟩ := ow_ref I hp
      exact ⟨a, h1⟩
    · cases c
  obtain ⟨a, ha⟩ := hi
  refine ⟨ro, V0, H0, ρ, ω, I, posts_bnd I h fun v ω1 H1 xv _ k1 I1 c1 h1 => ⟨.ref a, ha, ro, V0, H0, ρ, ω1, I1, posts_bnd I1 h1 fun kp ω2 H2 y _ k2 I2 c2 h2 => ?_⟩⟩
  obtain ⟨z, ez, h3⟩ : ∃ z, dputS b i S kp v ρ = some z ∧ PostS G Ex ro V0 H0 (i :: (S ++ S')) ρ σ H2 D (.ok z ω2) := by
    cases q : dputS b i S kp v ρ with
    | none => rw [q] at h2; exact h2.elim
    | some z => rw [q] at h2; exact ⟨z, rfl, h2⟩
  unfold dputS at ez
  split at ez
  · rename_i c' ks vs hp
    split at ez
    · rename_i ec
      subst ec
      obtain ⟨d, e1, rfl⟩ := Option.map_eq_some_iff.mp ez
      obtain ⟨I3, r3⟩ := I2.own_ok (Rep.mono (vw_grow k2) v c1)
      obtain ⟨o, ho, ro_⟩ := ow_at I3 hp ha
      obtain ⟨o', r', hd⟩ := dputP_ok e1 ho ro_ r3 c2 I2.vw_le
      exact ⟨a, _, rfl, hd, h3 _ _ (I3.mutate hp ha r') (fr_mut I2 hp ha _ (by simp) (by simp +contextual))⟩
    · cases ez
  · cases ez
theorem dk_K (h : DE X G Ex e S da) : DK X G Ex false e S da := h
theorem dk_T {es : List Expr} {kk : Nat} {dl : Sto → M (List PV)} (ha : DL X G Ex es S dl) : DK X G Ex true (.Tuple es kk pos) S (dL mkTup dl) := by
  refine PE.imp (pe_tup ha) fun σ H Q ⟨ro, V0, H0, ρ, ω, I, h⟩ => ?_
  refine ⟨ro, V0, H0, ρ, ω, I, post_bnd (by simp) h fun ps ω1 H1 xs e k I1 c h1 => ?_⟩
  obtain ⟨z, ez, h3⟩ := post_opt h1
  unfold mkTup at ez
  split at ez
  · rename_i hf
    cases ez
    refine ⟨by rw [RepL.length c]; exact fits_ok hf, fun p hp => h3 _ _ (.same (same_upd hp)) (I1.same (same_upd hp)) ⟨p, xs, ps, rfl, ?_, rfl, RepL.mono (vw_grow (.same (same_upd hp))) _ c⟩⟩
    exact plus_vw I1 (.same (same_upd hp)) _ _ (plus_new hp) (nt_tup _)
  · cases ez
theorem ds_dput (hu : X.A.units + 1 < cLine) (hi : X.N[i]? = some x) (hv : Vis X.env.scope x) (hd : (x == ("__debug__" : Str)) = false) (hcd : (x == ("__classdict__" : Str)) = false) (he : DE X G Ex e S dv) (hk : DK X G Ex b ek S' dk)
    (hs : swapsWith e (some (.Subscript (.Name x p2) ek apos)) pos.line X.env = pure false) : DS X G Ex (.Assign [.Subscript (.Name x p2) ek apos] e pos) (i :: (S ++ S')) (sDput b i S dk dv) :=
  PS.imp (ps_dput hu (pe_var hi hv hd hcd) hk he hs) fun D σ H h => dput_t h
end

def lputS (i : Nat) (S : List Nat) (v k : PV) (ρ : Sto) : Option (Fl × Sto) := match k, (ownS ρ S v)[i]? with
  | .int n, some (.ow (.lst ps)) => (ixN ps.length n).map fun j => (.nx, (ownS ρ S v).set i (.ow (.lst (ps.set j v))))
  | _, _ => none
def sLput (i : Nat) (Sv : List Nat) (dk dv : Sto → M PV) : MS := fun ρ => if lstAt ρ i = true then bnd (dv ρ) fun v => bnd (dk ρ) fun k => opt (lputS i Sv v k ρ) else fun _ => .bad
section
variable {X : Cx} {G : Pg} {k : Nat} {Ex : XK} {e ek o : Expr} {S S' : List Nat} {da dk dv : Sto → M PV} {pos apos cpos : Pos} {i : Nat} {x : Str} {p2 : Pos} {b : Bool}
theorem lput_t {D : Ends} {σ : L2.St} {H : Hp} (h : tDS G Ex (i :: (S ++ S')) (sLput i S dk dv) D σ H) : tAsg (tD G Ex S dv) (gSub (tVar i) (tD G Ex S' dk) rSetL) D σ H := by
  obtain ⟨ro, V0, H0, ρ, ω, I, h⟩ := h
  unfold sLput at h
  by_cases c : lstAt ρ i = true
  rotate_left
  · rw [if_neg c] at h; exact h.elim
  rw [if_pos c] at h
  obtain ⟨_, a, _, _, ha, _⟩ := lst_at I c
  refine ⟨ro, V0, H0, ρ, ω, I, posts_bnd I h fun v ω1 H1 xv _ k1 I1 c1 h1 => ⟨.ref a, ha, ro, V0, H0, ρ, ω1, I1, posts_bnd I1 h1 fun kp ω2 H2 y _ k2 I2 c2 h2 => ?_⟩⟩
  obtain ⟨z, ez, h3⟩ : ∃ z, lputS i S v kp ρ = some z ∧ PostS G Ex ro V0 H0 (i :: (S ++ S')) ρ σ H2 D (.ok z ω2) := by
    cases q : lputS i S v kp ρ with
    | none => rw [q] at h2; exact h2.elim
    | some z => rw [q] at h2; exact ⟨z, rfl, h2⟩
  unfold lputS at ez
  split at ez
  · rename_i n ps hp _
    obtain ⟨j, e1, rfl⟩ := Option.map_eq_some_iff.mp ez
    obtain ⟨I3, r3⟩ := I2.own_ok (Rep.mono (vw_grow k2) v c1)
    obtain ⟨o, ho, xs, rfl, rxs⟩ := ow_at I3 hp ha
    have c3 : y = .int n := by simpa only [CE, Rep] using c2
    refine ⟨a, xs, n, j, rfl, c3, ho, by rw [rxs.length]; exact e1, ?_⟩
    exact h3 _ _ (I3.mutate hp ha ⟨_, rfl, rxs.set r3 j⟩) (fr_mut I2 hp ha _ (by simp) (by simp +contextual))
  · cases ez
theorem ds_lput (hi : X.N[i]? = some x) (hv : Vis X.env.scope x) (hd : (x == ("__debug__" : Str)) = false) (hcd : (x == ("__classdict__" : Str)) = false) (he : DE X G Ex e S dv) (hk : DE X G Ex ek S' dk)
    (ha : ∀ v, assign (.Subscript (.Name x p2) ek apos) X.env v = (do
      let ov ← holding [v] (eval (.Name x p2) X.env)
      let iv ← holding [v, ov] (eval ek X.env)
      standAt apos
      holding [v, ov, iv] (setItem ov iv v)
      release [v, ov, iv] []))
    (hs : swapsWithSole [.Subscript (.Name x p2) ek apos] e pos.line X.env = pure false) (hw : swappedStores [.Subscript (.Name x p2) ek apos] e X.env = pure none) : DS X G Ex (.Assign [.Subscript (.Name x p2) ek apos] e pos) (i :: (S ++ S')) (sLput i S dk dv) :=
  PS.imp (ps_asg he (pg_sub (pe_var hi hv hd hcd) hk set_list ha) hs hw rfl) fun D σ H h => lput_t h
end

def fputS (G : Pg) (f : Str) (i : Nat) (S : List Nat) (v : PV) (ρ : Sto) : Option (Fl × Sto) := match (ownS ρ S v)[i]? with
  | some (.ow (.obj t fs)) => if (G.fl t)[fs.length]? = some f ∧ ((G.fl t).take fs.length).contains f = false ∧ fs.length < 1000 then some (.nx, (ownS ρ S v).set i (.ow (.obj t (fs ++ [v])))) else none
  | _ => none
def objAt (ρ : Sto) (i : Nat) : Bool := match ρ[i]? with
  | some (.ow (.obj _ _)) => true
  | _ => false
def sFput (G : Pg) (f : Str) (i : Nat) (S : List Nat) (dv : Sto → M PV) : MS := fun ρ => if objAt ρ i = true then bnd (dv ρ) fun v => opt (fputS G f i S v ρ) else fun _ => .bad
theorem putF_new {f : Str} {x : V} : ∀ {fs : List (Str × V)}, (fs.map (·.1)).contains f = false → putF f x fs = fs ++ [(f, x)]
  | [], _ => rfl
  | (g, y) :: fs, h => by
    simp only [List.map_cons, List.contains_cons, Bool.or_eq_false_iff] at h
    show (if g = f then (g, x) :: fs else (g, y) :: putF f x fs) = _
    have : ¬ g = f := fun z => by have := h.1; rw [z] at this; simp at this
    rw [if_neg this, putF_new h.2]; rfl
section
variable {X : Cx} {G : Pg} {k : Nat} {Ex : XK} {e ek o : Expr} {S S' : List Nat} {da dk dv : Sto → M PV} {pos apos cpos : Pos} {i : Nat} {x : Str} {p2 : Pos} {b : Bool} {f : Str}
theorem fput_t {K : PySem.W.Frag} (hK : K = G.K) (hC : ClsF G) {D : Ends} {σ : L2.St} {H : Hp} (h : tDS G Ex (i :: S) (sFput G f i S dv) D σ H) : sFld K (tVar i) (tD G Ex S dv) f D σ H := by
  obtain ⟨ro, V0, H0, ρ, ω, I, h⟩ := h
  unfold sFput at h
  by_cases c : objAt ρ i = true
  rotate_left
  · rw [if_neg c] at h; exact h.elim
  rw [if_pos c] at h
  obtain ⟨a, ha⟩ : ∃ a, σ[i]? = some (some (.ref a)) := by
    unfold objAt at c
    split at c
    · rename_i t fs hp
      obtain ⟨a, o, h1, _⟩ := ow_ref I hp
      exact ⟨a, h1⟩
    · cases c
  refine ⟨ro, V0, H0, ρ, ω, I, posts_bnd I h fun v ω1 H1 xv _ k1 I1 c1 h1 => ⟨.ref a, ha, ?_⟩⟩
  obtain ⟨z, ez, h3⟩ : ∃ z, fputS G f i S v ρ = some z ∧ PostS G Ex ro V0 H0 (i :: S) ρ σ H1 D (.ok z ω1) := by
    cases q : fputS G f i S v ρ with
    | none => rw [q] at h1; exact h1.elim
    | some z => rw [q] at h1; exact ⟨z, rfl, h1⟩
  unfold fputS at ez
  split at ez
  · rename_i t fs hp
    split at ez
    · rename_i hc
      cases ez
      obtain ⟨q1, q2, q3⟩ := hc
      obtain ⟨I3, r3⟩ := I1.own_ok (Rep.mono (Le.refl _) v c1)
      obtain ⟨o, ho, dx, fvs, rfl, g1, g2⟩ := ow_at I3 hp ha
      obtain ⟨cl1, cl2⟩ := hC t f (List.mem_of_getElem? q1)
      have gl : fvs.length = fs.length := by have := g2.length; rw [List.length_map] at this; exact this
      refine ⟨a, G.cl t, dx, fvs, rfl, ho, hK ▸ cl1, hK ▸ cl2, by rw [gl]; exact q3, ?_⟩
      rw [putF_new (by rw [g1]; exact q2)]
      refine h3 _ _ (I3.mutate hp ha ⟨dx, _, rfl, ?_, ?_⟩) (fr_mut I1 hp ha _ (by simp) (by simp +contextual))
      · rw [List.map_append, g1, List.length_append]
        show _ = List.take (fs.length + 1) (G.fl t)
        rw [List.take_succ, q1]; rfl
      · rw [List.map_append]
        exact g2.append (.cons r3 .nil)
    · cases ez
  · cases ez
theorem ds_fput (hX : XG G k X) (hC : ClsF G) (hi : X.N[i]? = some x) (hv : Vis X.env.scope x) (hd : (x == ("__debug__" : Str)) = false) (hcd : (x == ("__classdict__" : Str)) = false) (he : DE X G Ex e S dv)
    (hs : swapsWith e (some (.Attribute (.Name x p2) f apos)) pos.line X.env = pure false) : DS X G Ex (.Assign [.Attribute (.Name x p2) f apos] e pos) (i :: S) (sFput G f i S dv) :=
  PS.imp (ps_fld (pe_var hi hv hd hcd) he hs) fun D σ H h => fput_t hX.K hC h
end

def laugS (i : Nat) (f : Int → Int → Int) (k v : PV) (ρ : Sto) : Option (Fl × Sto) := match k, v, ρ[i]? with
  | .int n, .int d, some (.ow (.lst ps)) => (ixN ps.length n).bind fun j => match ps[j]? with
    | some (.int a) => some (.nx, ρ.set i (.ow (.lst (ps.set j (.int (f a d))))))
    | _ => none
  | _, _, _ => none
end GP
-- GV
set_option maxRecDepth 100000
set_option maxHeartbeats 4000000
namespace GP
open PySem PySem.Spec PyProof.Rows L2
def spEx (K : PySem.W.Frag) : Sp := fun vs H Q E => ∃ (a C : Addr) (x : V), vs = [.ref a, x] ∧ OexC K C ∧ PySem.W.findIn K (.ref C) valueS = some none ∧ H a = some (exo a C none) ∧
  ∀ dx, H dx = none → dx ≠ a → Q .non (upd (upd H dx (exd dx [(valueS, x)])) a (exo a C (some dx)))
structure ErrC (G : Pg) (k t : Nat) (nm : Str) : Prop where
  mg : G.mg nm = some (.ref (G.cl t))
  oe : OexC G.K (G.cl t)
  nov : PySem.W.findIn G.K (.ref (G.cl t)) valueS = some none
  ini : ∃ f fd ps, PySem.W.findIn G.K (.ref (G.cl t)) "__init__" = some (some (.ref f)) ∧ PySem.W.typeIn G.K (.ref f) = some (.type "function") ∧ Binds G.K fd ps [] ∧ FnOk G.P G.w G.K G.mg G.base (L2.CX G.P G.w) k f fd ps (spEx G.K)
def sRaise (t : Nat) (d : Sto → M PV) : MS := fun ρ => bnd (d ρ) fun p ω => .exn t p ω
section
variable {X : Cx} {G : Pg} {k t : Nat} {Ex : XK} {e : Expr} {S : List Nat} {da : Sto → M PV} {p pos p2 : Pos} {nm : Str}
theorem raise_t {σ : L2.St} {H : Hp} {D : Ends} (oe : OexC G.K (G.cl t)) (nov : PySem.W.findIn G.K (.ref (G.cl t)) valueS = some none) (h : tDS G Ex [] (sRaise t da) D σ H) :
    tMkO (G.cl t) (spEx G.K) [] (tCons (tD G Ex S da) tNil) σ H (fun cls d H' => Ex cls d H') := by
  obtain ⟨ro, V0, H0, ρ, ω, I, h⟩ := h
  refine ⟨ro, V0, H0, ρ, ω, I, posts_bnd I h fun q ω1 H1 x _ k1 I1 c h1 => ?_⟩
  refine ⟨by simp, fun a ha => ⟨a, G.cl t, x, rfl, oe, nov, upd_same, fun dx hdx hne => ⟨rfl, dx, [(valueS, x)], upd_same, ?_, ?_, ?_⟩⟩⟩
  · rw [upd_ne hne]; exact upd_same
  · rw [upd_ne hne] at hdx; exact hdx
  · have hd1 : H1 dx = none := by rw [upd_ne hne] at hdx; exact hdx
    have e : upd (del (upd (upd (upd H1 a (exo a (G.cl t) none)) dx (exd dx [(valueS, x)])) a (exo a (G.cl t) (some dx))) a) dx (.xd [(valueS, x)]) = upd H1 dx (.xd [(valueS, x)]) := by
      funext b
      by_cases hb : b = dx
      · rw [hb, upd_same, upd_same]
      · rw [upd_ne hb, upd_ne hb]
        by_cases hc : b = a
        · rw [hc, del_same, ha]
        · rw [del_ne hc, upd_ne hc, upd_ne hb, upd_ne hc]
    show Ex (.ref (G.cl t)) (some dx) _
    rw [e]
    have sm : Same H1 (upd H1 dx (.xd [(valueS, x)])) := same_upd hd1
    exact h1 _ _ (I1.keep.trans (.same sm)) (I1.row.keep sm) (I1.tabs.ext sm) ⟨x, upd_same, Rep.mono ((vw_grow (.same sm)).trans (I1.same sm).vw_plus) q c⟩
theorem ds_raise (hX : XG G (k + 1) X) (tk : Takes X (fun cls d _ H => Ex cls d H)) (ec : ErrC G k t nm) (hg : Gl X nm) (hdb : (nm == ("__debug__" : Str)) = false) (he : DE X G Ex e S da)
    (hs : starEach (e :: []) X.env = (false, eval e X.env) :: starEach [] X.env) : DS X G Ex (.Raise (some (.Call (.Name nm p) [e] [] pos)) none p2) [] (sRaise t da) := by
  obtain ⟨f, fd, ps, h1, h2, h3, h4⟩ := ec.ini
  refine PS.imp (ps_raise hX.calm tk (pmk_oex (hX.K ▸ ec.oe) (hX.K ▸ h1) (hX.K ▸ h2) (CX := L2.CX X.prog X.w) (sp := spEx G.K) (by rw [hX.prog, hX.w, hX.K, hX.mg, hX.base]; exact h4) hX.room (hX.K ▸ h3) .nil (pass_E0 X) hg (hX.mg ▸ ec.mg) (pa_cons he pa_nil hs) hdb hs rfl)) fun D σ H h => raise_t ec.oe ec.nov h
end

structure Dc where
  cd : Value
  ql : Str
  gd : Bool
structure EX (G : Pg) (k : Nat) (dc : Dc) (N : List Str) (sc : Scope) (X : Cx) (Ex : XK) : Prop where
  xg : XG G k X
  n : X.N = N
  sc : X.env.scope = sc
  pass : Passes (L2.CX X.prog X.w) X Ex
  code : X.env.code = dc.cd
  qual : X.env.qual = dc.ql
  gu : dc.gd = true → X.A.guards = some []
structure BX (G : Pg) (k : Nat) (dc : Dc) (N : List Str) (sc : Scope) (X : Cx) (Ex : XK) : Prop extends EX G k dc N sc X Ex where
  tk : Takes X (fun cls d _ H => Ex cls d H)
  po : PassesOwn (model X.prog X.w) X.A X.env X.xe
  fn : ∀ x, X.fn x = true
  kd : X.env.scope.kind = ScopeKind.function
def endF : R (Fl × Sto) → R PV
  | .ok (.ret p, _) ω => .ok p ω
  | .ok (.nx, _) ω => .ok .non ω
  | .exn t p ω => .exn t p ω
  | _ => .bad
def startS (n : Nat) (ps : List PV) : Sto := ps.map .sh ++ List.replicate (n - ps.length) .no
def bodyF (n : Nat) (d : MS) : Fn := fun ps ω => endF (d (startS n ps) ω)
section
variable {G : Pg} {k : Nat} {N ps : List Str} {x qual : Str} {params : Arguments} {body : List Stmt} {scope : Scope} {dvs : List V} {kws : List (Str × V)} {f : Addr} {fd : FuncData} {W : List Nat} {d : MS}
theorem start_at {N : List Str} {vs : List V} {i : Nat} {y : Option V} (h : (L2.start N vs)[i]? = some y) : (∃ v, vs[i]? = some v ∧ y = some v) ∨ (vs.length ≤ i ∧ y = none) := by
  unfold L2.start at h
  by_cases c : i < vs.length
  · left
    rw [List.getElem?_append_left (by rw [List.length_map]; exact c), List.getElem?_map] at h
    obtain ⟨v, e1, e2⟩ := Option.map_eq_some_iff.mp h
    exact ⟨v, e1, e2.symm⟩
  · right
    rw [List.getElem?_append_right (by rw [List.length_map]; omega), List.getElem?_replicate] at h
    split at h
    · cases h; exact ⟨by omega, rfl⟩
    · cases h
theorem startS_at {n : Nat} {ps : List PV} {i : Nat} {s : Sl} (h : (startS n ps)[i]? = some s) : (∃ p, ps[i]? = some p ∧ s = .sh p) ∨ s = .no := by
  unfold startS at h
  by_cases c : i < ps.length
  · left
    rw [List.getElem?_append_left (by rw [List.length_map]; exact c), List.getElem?_map] at h
    obtain ⟨v, e1, e2⟩ := Option.map_eq_some_iff.mp h
    exact ⟨v, e1, e2.symm⟩
  · right
    rw [List.getElem?_append_right (by rw [List.length_map]; omega), List.getElem?_replicate] at h
    split at h
    · cases h; rfl
    · cases h
theorem keep_clr {ro : Option Addr} {H H' : Hp} (k : Keep ro (clr H) H') : Keep ro H H' := ⟨fun b o e n r => k.old b o (clr_some e n) n r, fun b e => by have := k.dom b e; rw [clr_clr] at this; exact this⟩
theorem plus_clr (Hv H H' : Hp) : plus Hv (clr H) H' = plus Hv H H' := by
  funext a
  unfold plus
  rw [clr_clr]
theorem SR.begin {ro : Option Addr} {Hv H : Hp} {vs : List V} {qs : List PV} {ω : Rw} (le : Le Hv H) (nr : ∀ r, ro = some r → Hv r = none) (r : RepL G ro Hv vs qs) (rw_ : RowR G.K ro H ω) (tb : LamX.Tabs G.T H) (hn : vs.length ≤ N.length) : SR G ro Hv (clr H) (startS N.length qs) ω (L2.start N vs) H := by
  have no : ∀ S a, ¬ Owned (startS N.length qs) (L2.start N vs) S a := by
    rintro S a ⟨i, v, _, e1, _⟩
    rcases startS_at e1 with ⟨p, _, z⟩ | z <;> cases z
  refine ⟨⟨fun b u e n r => (of_clr e).1, fun b e => by rw [clr_clr]; exact e⟩, fun b ps e => (of_clr e).2 ps rfl, fun b u e n => clr_some (le b u e n) n, ?_, ?_, ?_, ?_, rw_, tb⟩
  · unfold startS L2.start
    simp [r.length]
  · intro i s y e1 e2
    rcases startS_at e1 with ⟨p, h1, rfl⟩ | rfl
    · rcases start_at e2 with ⟨v, h2, rfl⟩ | ⟨h2, _⟩
      · refine ⟨v, rfl, ?_⟩
        obtain ⟨v', h3, h4⟩ := r.get h1
        rw [h2] at h3; cases h3
        refine h4.mono fun b u e n => vw_mk (fun z => by rw [nr b z] at e; cases e) (no _ _) (by rw [clr_some (le b u e n) n, if_neg (by simp)]; exact e)
      · exfalso
        have := (List.getElem?_eq_some_iff.mp h1).1
        rw [← r.length] at this; omega
    · trivial
  · intro i v a e1 e2
    exact (no [] a ⟨i, v, by simp, e1, e2⟩).elim
  · intro i j v u a e1 _ e2 _
    exact (no [] a ⟨i, v, by simp, e1, e2⟩).elim
theorem fn_body {gd : Bool} (F : FunD G.K x qual params body scope dvs kws f fd) (S : FnScope N ps scope)
    (hb : ∀ cd, (∃ oc od osl, G.K.lookup f = some ⟨oc, od, .func fd, osl⟩ ∧ fd.code = cd) → ∀ X Ex, BX G k ⟨cd, qual ++ ".<locals>.", gd⟩ N scope X Ex → DSs X G Ex body W d) : FnG gd G.P G.w G.K G.mg G.base (k + 1) f fd ps (spF G ps.length (bodyF N.length d)) := by
  obtain ⟨oc, od, dV, kV, doc, pm, an, cdv, ct, osl, rfl, lk, hcd, _, _⟩ := F.ex
  refine ⟨fun vs H Q E h => ?_, fun A outer s H args us vs Q E hr hgd e0 hbt hv h => ?_⟩
  · obtain ⟨ro, Hv, qs, ω, _, _, r, hl, _⟩ := h
    rw [r.length]; exact hl
  · have hlen : vs.length = ps.length := by
      obtain ⟨ro, Hv, qs, ω, _, _, r, hl, _⟩ := h
      rw [r.length]; exact hl
    refine LamX.run_ofS (N := N) lk hcd S hr e0 hbt hv hlen fun hr' => ⟨_, hb cdv ⟨_, _, _, lk, rfl⟩ _ E ⟨⟨⟨rfl, rfl, rfl, rfl, rfl, rfl, S.nd, hr'⟩, rfl, rfl, ?_, rfl, rfl, hgd⟩, ?_, ?_, ?_, S.kind⟩, ?_⟩
    · exact passes_call (W := fun cls d _ H => E cls d H) (takes_of rfl rfl rfl rfl) (fun _ _ _ _ h => h)
    · exact takes_of rfl rfl rfl rfl
    · exact passes_of rfl
    · exact fun _ => rfl
    · obtain ⟨ro, Hv, qs, ω, le, nr, r, hl, rw_, tb, pf⟩ := h
      have hpl : ps.length ≤ N.length := by have := congrArg List.length S.pre; rw [List.length_take] at this; omega
      refine ⟨ro, Hv, clr H, _, ω, SR.begin (N := N) le nr r rw_ tb (by rw [r.length, hl]; exact hpl), ?_⟩
      unfold bodyF at pf
      revert pf
      cases e : d (startS N.length qs) ω with
      | bad => exact id
      | exn t p ω1 => exact fun pf H' d k r' t' ex => pf H' d (keep_clr k) r' t' (by rw [← plus_clr]; exact ex)
      | ok z ω1 =>
        obtain ⟨fl, ρ1⟩ := z
        cases fl with
        | nx => exact fun pf σ' H' J _ => pf H' .non (keep_clr J.keep) J.row J.tabs (by simp [Rep])
        | brk => exact fun pf => pf.elim
        | cnt => exact fun pf => pf.elim
        | ret p => exact fun pf H' v k r' t' rep => pf H' v (keep_clr k) r' t' (by rw [← plus_clr]; exact rep)
def endI : R (Fl × Sto) → R PV
  | .ok (.nx, ρ) ω => match ρ[0]? with
    | some (Sl.ow p) => .ok p ω
    | _ => .bad
  | .exn t p ω => .exn t p ω
  | _ => .bad
def startI (n t : Nat) (ps : List PV) : Sto := .ow (.obj t []) :: (ps.map .sh ++ List.replicate (n - (ps.length + 1)) .no)
def bodyI (n t : Nat) (d : MS) : Fn := fun ps ω => endI (d (startI n t ps) ω)
theorem init_body {t : Nat} (F : FunD G.K x qual params body scope dvs kws f fd) (S : FnScope N ps scope) (hW : 1000 ∉ W)
    (hb : ∀ cd X Ex, BX G k ⟨cd, qual ++ ".<locals>.", false⟩ N scope X Ex → DSs X G Ex body W d) : FnOk G.P G.w G.K G.mg G.base (L2.CX G.P G.w) (k + 1) f fd ps (spI G t ps.length (bodyI N.length t d)) := by
  refine F.ok S (fun vs H Q E h => ?_) (fun cdv A outer s H vs Q E hr h => ⟨_, hb cdv _ E ⟨⟨⟨rfl, rfl, rfl, rfl, rfl, rfl, S.nd, hr⟩, rfl, rfl, ?_, rfl, rfl, fun z => by cases z⟩, ?_, ?_, ?_, S.kind⟩, ?_⟩)
  · obtain ⟨ro, Hv, qs, ω, x, dx, as, rfl, _, _, _, _, _, r, hl, _⟩ := h
    rw [List.length_cons, r.length]; exact hl
  · exact passes_call (W := fun cls d _ H => E cls d H) (takes_of rfl rfl rfl rfl) (fun _ _ _ _ h => h)
  · exact takes_of rfl rfl rfl rfl
  · exact passes_of rfl
  · exact fun _ => rfl
  · obtain ⟨ro, Hv, qs, ω, x, dx, as, rfl, hx, hvx, hrx, le, nr, r, hl, rw_, tb, pf⟩ := h
    have hpl : ps.length ≤ N.length := by have := congrArg List.length S.pre; rw [List.length_take] at this; omega
    have e0 : (fun a => if a = x then none else H a) = less x H := rfl
    rw [e0] at pf
    have own : ∀ S a, Owned (startI N.length t qs) (L2.start N (.ref x :: as)) S a → a = x := by
      rintro S a ⟨i, v, _, e1, e2⟩
      cases i with
      | zero => simp only [L2.start, List.map_cons, List.cons_append, List.getElem?_cons_zero, Option.some.injEq, V.ref.injEq] at e2; exact e2.symm
      | succ i =>
        have e1' : (startS (N.length - 1) qs)[i]? = some (.ow v) := by
          simp only [startI, List.getElem?_cons_succ] at e1
          unfold startS
          rw [show N.length - 1 - qs.length = N.length - (qs.length + 1) by omega]
          exact e1
        rcases startS_at e1' with ⟨p, _, z⟩ | z <;> cases z
    have I : SR G ro Hv (clr (less x H)) (startI N.length t qs) ω (L2.start N (.ref x :: as)) H := by
      refine ⟨⟨fun b u e n rr => less_sub b u (of_clr e).1 n, fun b e => by
        rw [clr_clr]
        unfold clr less
        split
        · rfl
        · exact e⟩, fun b ps e => (of_clr e).2 ps rfl, fun b u e n => clr_some (o := u) ?_ n, ?_, ?_, ?_, ?_, rw_, tb⟩
      · unfold less
        rw [if_neg (fun z => by rw [z, hvx] at e; cases e)]
        exact le b u e n
      · unfold startI L2.start
        simp [r.length]
      · intro i s y e1 e2
        cases i with
        | zero =>
          simp only [startI, List.getElem?_cons_zero, Option.some.injEq] at e1
          simp only [L2.start, List.map_cons, List.cons_append, List.getElem?_cons_zero, Option.some.injEq] at e2
          subst e1; subst e2
          exact ⟨x, _, rfl, hx, dx, [], rfl, rfl, .nil⟩
        | succ i =>
          have e1' : (startS (N.length - 1) qs)[i]? = some s := by
            simp only [startI, List.getElem?_cons_succ] at e1
            unfold startS
            rw [show N.length - 1 - qs.length = N.length - (qs.length + 1) by omega]
            exact e1
          rcases startS_at e1' with ⟨p, h1, rfl⟩ | rfl
          · rcases start_at e2 with ⟨v, h2, rfl⟩ | ⟨h2, _⟩
            · refine ⟨v, rfl, ?_⟩
              obtain ⟨v', h3, h4⟩ := r.get h1
              rw [List.getElem?_cons_succ, h3] at h2; cases h2
              refine h4.mono fun b u e n => vw_mk (fun z => by rw [nr b z] at e; cases e) (fun z => by rw [own _ _ z, hvx] at e; cases e) ?_
              have hbx : b ≠ x := fun z => by rw [z, hvx] at e; cases e
              have hl2 : less x H b = some u := by unfold less; rw [if_neg hbx]; exact le b u e n
              rw [clr_some hl2 n, if_neg (by simp)]
              exact e
            · exfalso
              have := (List.getElem?_eq_some_iff.mp h1).1
              rw [List.length_cons, r.length] at h2; omega
          · trivial
      · intro i v a e1 e2
        rw [own [] a ⟨i, v, by simp, e1, e2⟩]
        exact ⟨clr_none (by unfold less; rw [if_pos rfl]), hrx⟩
      · intro i j v u a e1 e2 e3 e4
        have z : ∀ {i : Nat} {v : PV}, (startI N.length t qs)[i]? = some (.ow v) → i = 0 := fun {i v} e => by
          cases i with
          | zero => rfl
          | succ i =>
            have e1' : (startS (N.length - 1) qs)[i]? = some (.ow v) := by
              simp only [startI, List.getElem?_cons_succ] at e
              unfold startS
              rw [show N.length - 1 - qs.length = N.length - (qs.length + 1) by omega]
              exact e
            rcases startS_at e1' with ⟨p, _, z⟩ | z <;> cases z
        rw [z e1, z e2]
    refine ⟨ro, Hv, clr (less x H), _, ω, I, ?_⟩
    unfold bodyI at pf
    revert pf
    cases e : d (startI N.length t qs) ω with
    | bad => exact id
    | exn t p ω1 => exact fun pf H' d k r' t' ex => pf H' d (keep_clr k) r' t' (by rw [← plus_clr]; exact ex)
    | ok z ω1 =>
      obtain ⟨fl, ρ1⟩ := z
      cases fl with
      | brk => exact fun pf => pf.elim
      | cnt => exact fun pf => pf.elim
      | ret p => exact fun pf => pf.elim
      | nx =>
        intro pf σ' H' J fr
        have h0 := fr.st 0 (by simpa using hW)
        have h0' : σ'[0]? = some (some (.ref x)) := by rw [h0]; rfl
        show Q .non H'
        have pf' : PostF G E ro Hv (less x H) (fun v H' => v = .ref x → Q .non H') (match ρ1[0]? with
          | some (Sl.ow p) => .ok p ω1
          | _ => .bad) := by
          have := pf
          revert this
          unfold endI
          simp only
          cases ρ1[0]? with
          | none => exact fun h => h.elim
          | some s => cases s with
            | no => exact fun h => h.elim
            | sh _ => exact fun h => h.elim
            | ow p => exact id
        revert pf'
        cases hq : ρ1[0]? with
        | none => exact fun h => h.elim
        | some s =>
          cases s with
          | no => exact fun h => h.elim
          | sh _ => exact fun h => h.elim
          | ow p =>
            intro pf'
            obtain ⟨o, ho, r0⟩ := ow_at J hq h0'
            refine pf' H' (.ref x) (keep_clr J.keep) J.row J.tabs (RepO.rep (o := o) ?_ (r0.mono (by rw [← plus_clr]; exact J.vw_plus))) rfl
            unfold plus
            rw [clr_none (by unfold less; rw [if_pos rfl])]; exact ho
end
end GP
-- GVr
set_option maxRecDepth 100000
set_option maxHeartbeats 4000000
namespace GP
open PySem PySem.Spec PyProof.Rows L2
def isMt : PV → Bool
  | .dic false [] [] => true
  | _ => false
def pdE : PV → PyData
  | .dic false [] [] => .dict []
  | p => pd p
def okP (p : PV) : Bool := okn 50 p && (pd p).showable && !(pd p).hasDict
def isSc : PV → Bool
  | .non => true
  | .bl _ => true
  | .int i => decide (i.natAbs.log2 < 1920)
  | .str _ => true
  | _ => false
def okS (p : PV) : Bool := isMt p || isSc p
def reprP : List PV → Option PV
  | [.tup ps] => if ((ps.all okP || ps.all okS) && fits (PyData.shown (.tuple (ps.map pdE))).length) = true then some (.str (PyData.shown (.tuple (ps.map pdE)))) else none
  | _ => none
section
variable {X : Cx} {G : Pg} {k : Nat} {pins : List (Addr × Obj)} {σ : L2.St} {H Hv : Hp} {s : Shared} {ro : Option Addr}
theorem readsS (le : Le Hv H) (I : Inv X pins σ H s) {p : PV} {x : V} {u : Value} (ok : okS p = true) (r : Rep G ro Hv x p) (ru : RelV x u) : ∃ as, Reads s.heap u (pdE p) as ∧ sysModules ∉ as ∧ (pdE p).showable = true ∧ (pdE p).depth ≤ 50 := by
  unfold okS at ok
  cases hm : isMt p with
  | true =>
    have e : p = .dic false [] [] := by
      unfold isMt at hm
      split at hm
      · rfl
      · cases hm
    subst e
    simp only [Rep] at r
    obtain ⟨a, kvs, rfl, h1, h2, h3⟩ := r
    simp only [keysOf, Option.some.injEq] at h2
    have hk : kvs = [] := by
      cases kvs with
      | nil => rfl
      | cons a b => simp at h2
    subst hk
    cases (show u = Value.ref a from ru)
    obtain ⟨_, hsy, vs, rel, o, es, ep, g1, g2, g3, g4, g5, _⟩ := dk_of I.hok (le _ _ h1 (nt_dK _))
    have hvs : vs = [] := by
      cases rel; rfl
    subst hvs
    have hes : es.toList = [] := by
      cases he : es.toList with
      | nil => rfl
      | cons a b => rw [he] at g5; cases g5
    have rd : Reads s.heap (.ref a) (.dict []) (a :: [] ++ []) := Reads.dict g1 g2.1 g3 (by rw [hes]; exact .nil) (by rw [hes]; exact .nil)
    refine ⟨_, rd, fun hm => ?_, rfl, by simp [pdE, PyData.depth, PyData.depthKv]⟩
    simp only [List.append_nil, List.mem_singleton] at hm
    rw [← hm] at hsy
    simp at hsy
  | false =>
    rw [hm] at ok
    cases p <;> simp only [isSc, Bool.false_or] at ok <;> (try cases ok)
    · simp only [Rep] at r; subst r; cases (show u = Value.none from ru); exact ⟨_, Reads.none, by simp, rfl, by simp [pdE, pd, PyData.depth]⟩
    · simp only [Rep] at r; subst r; cases (show u = Value.bool _ from ru); exact ⟨_, Reads.bool _, by simp, rfl, by simp [pdE, pd, PyData.depth]⟩
    · simp only [Rep] at r; subst r
      obtain ⟨t, rfl⟩ := ru
      exact ⟨_, Reads.int _ t, by simp, by simpa [pdE, pd, PyData.showable] using ok, by simp [pdE, pd, PyData.depth]⟩
    · simp only [Rep] at r; subst r
      obtain ⟨t, rfl⟩ := ru
      exact ⟨_, Reads.str _ t, by simp, rfl, by simp [pdE, pd, PyData.depth]⟩
theorem readsSL (le : Le Hv H) (I : Inv X pins σ H s) : ∀ {ps : List PV} {xs : List V} {us : List Value}, ps.all okS = true → RepL G ro Hv xs ps → Vals xs us → ∃ as, ReadsAll s.heap us (ps.map pdE) as ∧ sysModules ∉ as ∧ PyData.showableAll (ps.map pdE) = true ∧ PyData.depthAll (ps.map pdE) ≤ 50
  | [], xs, us, _, r, ru => by
    simp only [RepL] at r
    subst r
    cases ru
    exact ⟨[], .nil, by simp, rfl, by simp [PyData.depthAll]⟩
  | p :: ps, xs, us, ok, r, ru => by
    simp only [List.all_cons, Bool.and_eq_true] at ok
    simp only [RepL] at r
    obtain ⟨y, ys, rfl, r1, r2⟩ := r
    cases ru with
    | cons ry rt =>
      obtain ⟨as, a1, a2, a3, a4⟩ := readsS le I ok.1 r1 ry
      obtain ⟨bs, b1, b2, b3, b4⟩ := readsSL le I ok.2 r2 rt
      exact ⟨as ++ bs, .cons a1 b1, by simp [a2, b2], by simp only [List.map_cons, PyData.showableAll, a3, b3, Bool.and_self], by simp only [List.map_cons, PyData.depthAll]; omega⟩
theorem pdE_pd {p : PV} (h : isMt p = false) : pdE p = pd p := by
  unfold pdE
  split
  · simp [isMt] at h
  · rfl
theorem mt_ok {p : PV} {n : Nat} (h : okn n p = true) : isMt p = false := by
  unfold isMt
  split
  · simp [okn] at h
  · rfl
theorem readsPL (hK : X.K = G.K) (le : Le Hv H) (I : Inv X pins σ H s) : ∀ {ps : List PV} {xs : List V} {us : List Value}, ps.all okP = true → RepL G ro Hv xs ps → Vals xs us → ∃ as, ReadsAll s.heap us (ps.map pdE) as ∧ PyData.hasDictAll (ps.map pdE) = false ∧ PyData.showableAll (ps.map pdE) = true ∧ PyData.depthAll (ps.map pdE) ≤ 50
  | [], xs, us, _, r, ru => by
    simp only [RepL] at r
    subst r
    cases ru
    exact ⟨[], .nil, rfl, rfl, by simp [PyData.depthAll]⟩
  | p :: ps, xs, us, ok, r, ru => by
    simp only [List.all_cons, Bool.and_eq_true] at ok
    simp only [RepL] at r
    obtain ⟨y, ys, rfl, r1, r2⟩ := r
    cases ru with
    | cons ry rt =>
      have o := ok.1
      simp only [okP, Bool.and_eq_true, Bool.not_eq_true'] at o
      obtain ⟨⟨o1, o2⟩, o3⟩ := o
      have e := pdE_pd (mt_ok o1)
      obtain ⟨as, a1⟩ := Dp.reads I (pd p) y _ (hK ▸ Rep.dp _ _ o1 (r1.mono le)) ry
      obtain ⟨bs, b1, b2, b3, b4⟩ := readsPL hK le I ok.2 r2 rt
      have d := okn_dep 50 p o1
      refine ⟨as ++ bs, .cons (by rw [e]; exact a1) b1, by simp only [List.map_cons, PyData.hasDictAll, e, o3, b2, Bool.or_self], by simp only [List.map_cons, PyData.showableAll, e, o2, b3, Bool.and_self], by simp only [List.map_cons, PyData.depthAll, e]; omega⟩
theorem cr_reprP (hX : XG G k X) (hg : X.A.guards = some []) : CallR X (.builtin "repr") (rPL G reprP) := by
  rintro pins s σ H xs us Q I r ⟨ro, Hv, ps, z, le, hp, e, res⟩
  unfold reprP at e
  split at e
  · rename_i qs
    split at e
    · rename_i hc
      cases e
      simp only [Bool.and_eq_true, Bool.or_eq_true] at hc
      obtain ⟨x, rfl, h⟩ := rep1 hp
      simp only [Rep] at h
      obtain ⟨a, ys, rfl, h1, h2⟩ := h
      obtain ⟨u, rfl, ru⟩ := vals1 r
      cases (show u = Value.ref a from ru)
      obtain ⟨its, rv, ⟨o, ho, hcl, n, hd⟩, _⟩ := I.tuple (hX.K ▸ le.sqT h1 : SqT X.K H a ys)
      have key : ∃ as, ReadsAll s.heap its (qs.map pdE) as ∧ (PyData.hasDictAll (qs.map pdE) = true → sysModules ∉ as) ∧ PyData.showableAll (qs.map pdE) = true ∧ PyData.depthAll (qs.map pdE) ≤ 50 := by
        rcases hc.1 with c | c
        · obtain ⟨as, b1, b2, b3, b4⟩ := readsPL hX.K le I c h2 rv
          exact ⟨as, b1, fun z => (by rw [b2] at z; cases z), b3, b4⟩
        · obtain ⟨as, b1, b2, b3, b4⟩ := readsSL le I c h2 rv
          exact ⟨as, b1, fun _ => b2, b3, b4⟩
      obtain ⟨as, b1, b2, b3, b4⟩ := key
      have un := hX.room.un
      refine repr_of_reads' (d := .tuple (qs.map pdE)) (Reads.tuple ho hcl hd (by simpa using b1)) (by simpa only [PyData.showable] using b3) (by simpa only [PyData.hasDict] using b2) hg (by simp only [PyData.depth]; omega) (fun _ _ e => e) (fun h' u tk k => ?_) (fits_ok hc.2)
      exact ⟨.str _, H, I.kept k, ⟨u, rfl⟩, res.flat rfl⟩
    · cases e
  · cases e
end
end GP
-- GW
set_option maxRecDepth 100000
set_option maxHeartbeats 4000000
namespace GP
open PySem PySem.Spec PyProof.Rows L2
inductive Bi where
  | len | list | tuple | sum | max | min | all | any | int | range | sorted | dict | repr
  deriving DecidableEq
inductive Bm where
  | index
  deriving DecidableEq
inductive E where
  | var (i : Nat) | int (n : Int) | bl (b : Bool) | non | str (s : Str) | gl (j : Nat)
  | op (o : Operator) (a b : E) | cmp (o : CmpOp) (a b : E) | ch (o o2 : CmpOp) (a b c : E) | neg (a : E) | not (a : E)
  | and (r : E) | or (r : E) | a1 (a : E) | ac (a r : E) | o1 (a : E) | oc (a r : E)
  | ite (c a b : E) | idx (a b : E) | slc (a lo hi : E) | no | so (a : E)
  | nil | cons (a r : E) | tup (r : E) | lst (r : E) | dic (b : Bool)
  | ext (j : Nat) | callv (i : Nat) (r : E) | call (f : Nat) (r : E) | make (f t : Nat) (r : E) | meth (f t : Nat) (a r : E) | fld (f : Str) (a : E)
  | bi (b : Bi) (r : E) | bm (b : Bm) (a r : E)
  | isi (c : Cn) (a : E) | isi2 (c c2 : Cn) (a : E)
  | comp (it tst e : E) (tg : Tg) (vs : List Nat) | yes | tst (a : E)
  | sq (a : E) | en (r : E) | zp (r : E)
inductive Ob where
  | e (x : Expr) | es (l : List Expr) | an (l : List Expr) | orr (l : List Expr) | it (tg x : Expr) | oe (o : Option Expr) | ts (l : List Expr)
structure Sg where
  fn : List (Str × Nat)
  mks : List (Str × Nat × Nat)
  me : List (Str × Nat × Nat)
  cl : List (Str × Nat)
  er : List (Str × Nat)
  gl : List (Str × PV)
  rp : Bool := false
  xm : Nat → Scope → Expr → Bool := fun _ _ _ => false
  xs : Nat → Scope → Stmt → Bool := fun _ _ _ => false
structure Gam where
  fn : List Fn
  mks : List Fn
  me : List Fn
  xd : Nat → List Nat × (Sto → M PV) := fun _ => ([], fun _ _ => .bad)
  xs : Nat → List Nat × MS := fun _ => ([], fun _ _ => .bad)
def badF : Fn := fun _ _ => .bad
def biN : Bi → Str
  | .len => "len" | .list => "list" | .tuple => "tuple" | .sum => "sum" | .max => "max" | .min => "min" | .all => "all" | .any => "any" | .int => "int" | .range => "range" | .sorted => "sorted" | .dict => "dict" | .repr => "repr"
def bmN : Bm → Str
  | .index => "index"
def nst : Expr → Bool
  | .Starred _ _ => false
  | _ => true
def nsup : Expr → Bool
  | .Call _ [] _ _ => false
  | _ => true
def nsl : Expr → Bool
  | .Slice _ _ _ _ => false
  | _ => true
def nset : Expr → Bool
  | .Set _ _ _ => false
  | _ => true
def visB (sc : Scope) (x : Str) : Bool := match sc.names.lookup x with
  | some .local => true | some .cell => true | some .free => true
  | _ => false
def locB (sc : Scope) (x : Str) : Bool := match sc.names.lookup x with
  | some .local => true | some .cell => true
  | _ => false
def glB (sc : Scope) (x : Str) : Bool := match sc.names.lookup x with
  | some .globalImplicit => true
  | _ => false
def dbgB (x : Str) : Bool := !(x == ("__debug__" : Str))
def plainN (x : Str) : Bool := !(x == ("__debug__" : Str)) && !(x == ("__classdict__" : Str))
def ownN (N : List Str) (vs : List Nat) : List (Str × Nat) := vs.map fun i => (N.getD i "", i)
def namesM (N : List Str) (ok : Str → Bool) : List Nat → List Expr → Bool
  | [], [] => true
  | i :: is, .Name x _ :: es => (N[i]? == some x) && ok x && namesM N ok is es
  | _, _ => false
def plainE : Expr → Bool
  | .UnaryOp .Not _ _ => false
  | .BoolOp _ _ _ => false
  | .IfExp _ _ _ _ => false
  | .Compare _ _ _ _ => false
  | .ListComp _ _ _ _ => false
  | .SetComp _ _ _ _ => false
  | .DictComp _ _ _ _ _ => false
  | _ => true
def tgM (N : List Str) (ok : Str → Bool) : Tg → Expr → Bool
  | .nm i, .Name x _ => (N[i]? == some x) && ok x
  | .tup is, .Tuple es _ _ => namesM N ok is es
  | _, _ => false
def blkB (scope sc : Scope) (x : Str) : Bool := locB (relS scope sc) x && (match scope.names.lookup x with
  | some .cell => true
  | _ => match (relS scope sc).names.lookup x with
    | some .local => true
    | _ => false)
def cnM (sg : Sg) (sc : Scope) : Cn → Expr → Bool
  | .bt n, .Name x _ => bNames.contains n && (x == Str.ofString n) && glB sc x
  | .own t, .Name x _ => sg.cl.contains (x, t) && glB sc x && dbgB x
  | _, _ => false
def isTup : Tg → Bool
  | .tup _ => true
  | _ => false
def freeN : List Str := ["len", "list", "tuple", "sum", "max", "min", "all", "any", "int", "range", "sorted", "dict", "isinstance", "enumerate", "zip", "bool", "str", "repr"]
def fresh : E → Bool
  | .lst _ => true
  | .dic _ => true
  | .comp _ _ _ _ _ => true
  | .bi .list _ => true
  | .bi .dict _ => true
  | _ => false
def hasT : E → Bool
  | .ite _ _ _ => false
  | _ => true
def cntE : E → Nat
  | .cons _ r => cntE r + 1
  | _ => 0
def m (N : List Str) (sg : Sg) : E → Scope → Ob → Bool
  | .var i, sc, x => match x with
    | .e (.Name y _) => (N[i]? == some y) && visB sc y && plainN y
    | _ => false
  | .int n, _, x => match x with
    | .e (.Constant (.int k) _ _) => k == n
    | _ => false
  | .bl b, _, x => match x with
    | .e (.Constant (.bool k) _ _) => k == b
    | _ => false
  | .non, _, x => match x with
    | .e (.Constant .none _ _) => true
    | _ => false
  | .str s, _, x => match x with
    | .e (.Constant (.str k) _ _) => k == s
    | _ => false
  | .gl j, sc, x => match x with
    | .e (.Name y _) => (match sg.gl[j]? with
      | some g => g.1 == y
      | none => false) && glB sc y && dbgB y
    | _ => false
  | .op o a b, sc, x => match x with
    | .e (.BinOp l o' r _) => (o == o') && m N sg a sc (.e l) && m N sg b sc (.e r)
    | _ => false
  | .cmp o a b, sc, x => match x with
    | .e (.Compare l [o'] [r] _) => (o == o') && m N sg a sc (.e l) && m N sg b sc (.e r) && !behindInMarks o' r
    | _ => false
  | .ch o o2 a b c, sc, x => match x with
    | .e (.Compare l [o', o2'] [r, r2] _) => (o == o') && (o2 == o2') && m N sg a sc (.e l) && m N sg b sc (.e r) && m N sg c sc (.e r2) && !lastMarks [o', o2'] [r, r2]
    | _ => false
  | .neg a, sc, x => match x with
    | .e (.UnaryOp .USub l _) => m N sg a sc (.e l)
    | _ => false
  | .not a, sc, x => match x with
    | .e (.UnaryOp .Not l _) => hasT a && m N sg a sc (.e l)
    | _ => false
  | .and r, sc, x => match x with
    | .e (.BoolOp .And l _) => m N sg r sc (.an l)
    | _ => false
  | .or r, sc, x => match x with
    | .e (.BoolOp .Or l _) => m N sg r sc (.orr l)
    | _ => false
  | .a1 a, sc, x => match x with
    | .an [l] => hasT a && m N sg a sc (.e l)
    | _ => false
  | .ac a r, sc, x => match x with
    | .an (l :: l2 :: ls) => hasT a && m N sg a sc (.e l) && m N sg r sc (.an (l2 :: ls))
    | _ => false
  | .o1 a, sc, x => match x with
    | .orr [l] => hasT a && m N sg a sc (.e l)
    | _ => false
  | .oc a r, sc, x => match x with
    | .orr (l :: l2 :: ls) => hasT a && m N sg a sc (.e l) && m N sg r sc (.orr (l2 :: ls))
    | _ => false
  | .ite c a b, sc, x => match x with
    | .e (.IfExp t p q _) => hasT c && m N sg c sc (.e t) && m N sg a sc (.e p) && m N sg b sc (.e q)
    | _ => false
  | .idx a b, sc, x => match x with
    | .e (.Subscript l r _) => m N sg a sc (.e l) && m N sg b sc (.e r) && nsl r
    | _ => false
  | .slc a lo hi, sc, x => match x with
    | .e (.Subscript l (.Slice p q none _) _) => m N sg a sc (.e l) && m N sg lo sc (.oe p) && m N sg hi sc (.oe q)
    | _ => false
  | .no, _, x => match x with
    | .oe none => true
    | _ => false
  | .so a, sc, x => match x with
    | .oe (some l) => m N sg a sc (.e l)
    | _ => false
  | .nil, _, x => match x with
    | .es [] => true
    | _ => false
  | .cons a r, sc, x => match x with
    | .es (l :: ls) => m N sg a sc (.e l) && nst l && m N sg r sc (.es ls)
    | _ => false
  | .tup r, sc, x => match x with
    | .e (.Tuple l _ _) => m N sg r sc (.es l)
    | _ => false
  | .lst r, sc, x => match x with
    | .e (.List l _) => m N sg r sc (.es l)
    | _ => false
  | .dic _, _, x => match x with
    | .e (.Dict [] [] _) => true
    | _ => false
  | .ext j, sc, x => match x with
    | .e y => sg.xm j sc y && plainE y
    | _ => false
  | .callv i r, sc, x => match x with
    | .e (.Call (.Name y _) (l :: ls) [] _) => (N[i]? == some y) && visB sc y && plainN y && m N sg r sc (.es (l :: ls))
    | _ => false
  | .call f r, sc, x => match x with
    | .e (.Call (.Name y _) l [] _) => (sg.fn[f]? == some (y, l.length)) && glB sc y && dbgB y && m N sg r sc (.es l)
    | _ => false
  | .make f t r, sc, x => match x with
    | .e (.Call (.Name y _) (l :: ls) [] _) => (sg.mks[f]? == some (y, t, ls.length + 1)) && glB sc y && dbgB y && m N sg r sc (.es (l :: ls))
    | _ => false
  | .meth f t a r, sc, x => match x with
    | .e (.Call (.Attribute o y p) (l :: ls) [] p2) => (sg.me[f]? == some (y, t, ls.length + 2)) && (p.endLine == p2.line) && decide (ls.length < 20) && nsup o && m N sg a sc (.e o) && m N sg r sc (.es (l :: ls))
    | _ => false
  | .fld f a, sc, x => match x with
    | .e (.Attribute o y _) => (y == f) && nsup o && m N sg a sc (.e o)
    | _ => false
  | .bi b r, sc, x => match x with
    | .e (.Call (.Name y _) (l :: ls) [] _) => (y == biN b) && (sg.rp || !(b == .repr)) && glB sc y && m N sg r sc (.es (l :: ls))
    | _ => false
  | .bm b a r, sc, x => match x with
    | .e (.Call (.Attribute o y p) [l] [] p2) => (y == bmN b) && nsup o && (p.endLine == p2.line) && m N sg a sc (.e o) && m N sg r sc (.es [l])
    | _ => false
  | .isi c a, sc, x => match x with
    | .e (.Call (.Name y _) [l, k] [] _) => (y == ("isinstance" : Str)) && glB sc y && m N sg a sc (.e l) && nst l && cnM sg sc c k
    | _ => false
  | .isi2 c c2 a, sc, x => match x with
    | .e (.Call (.Name y _) [l, .Tuple [k, k2] _ _] [] _) => (y == ("isinstance" : Str)) && glB sc y && m N sg a sc (.e l) && nst l && cnM sg sc c k && cnM sg sc c2 k2
    | _ => false
  | .comp it ts e tg vs, sc, x => match x with
    | .e (.ListComp elt [c] scope _) => (c.is_async == 0) && m N sg it sc (.it c.target c.iter) && nset c.iter && blkC N sc scope (ownN N vs) && tgM N (blkB scope sc) tg c.target && (tgIs tg).all (fun i => vs.contains i) && m N sg ts (relS scope sc) (.ts c.ifs) && m N sg e (relS scope sc) (.e elt)
    | _ => false
  | .yes, _, x => match x with
    | .ts [] => true
    | _ => false
  | .tst a, sc, x => match x with
    | .ts [l] => hasT a && m N sg a sc (.e l)
    | _ => false
  | .sq a, sc, x => match x with
    | .it _ l => m N sg a sc (.e l)
    | _ => false
  | .en r, sc, x => match x with
    | .it (.Tuple _ _ _) (.Call (.Name y _) [l] [] _) => (y == ("enumerate" : Str)) && glB sc y && m N sg r sc (.es [l])
    | _ => false
  | .zp r, sc, x => match x with
    | .it (.Tuple _ _ _) (.Call (.Name y _) [l, l2] [] _) => (y == ("zip" : Str)) && glB sc y && m N sg r sc (.es [l, l2])
    | _ => false
structure Dn where
  S : List Nat
  v : Sto → M PV
  t : Sto → M Bool
  l : Sto → M (List PV)
  p : Option (Sto → M PV)
def badV : Sto → M PV := fun _ _ => .bad
def badT : Sto → M Bool := fun _ _ => .bad
def badL : Sto → M (List PV) := fun _ _ => .bad
def dv (S : List Nat) (v : Sto → M PV) : Dn := ⟨S, v, dTru v, badL, none⟩
def biP : Bi → List PV → Option PV
  | .len => lenP | .list => listP | .tuple => tupleP | .sum => sumP | .max => maxP | .min => minP | .all => allP | .any => anyP | .int => intP | .range => rangeP | .sorted => sortedP | .dict => dictP | .repr => reprP
def idxE (p : PV) : List PV → Option Nat
  | [] => none
  | q :: qs => if PyData.eqv (pd q) (pd p) = true then some 0 else (idxE p qs).map (· + 1)
def indexP : PV → List PV → Option PV
  | .lst ps, [p] => if (okn 50 p && oknL 50 ps) = true then (idxE p ps).map fun j => .int (j : Nat) else none
  | _, _ => none
def bmP : Bm → PV → List PV → Option PV
  | .index => indexP
def isLst : PV → Bool
  | .lst _ => true
  | _ => false
def bmC : Bm → PV → Bool
  | .index => isLst
def dBm (c : PV → Bool) (f : PV → List PV → Option PV) (a : Sto → M PV) (r : Sto → M (List PV)) : Sto → M PV := fun ρ => bnd (a ρ) fun p => if c p = true then bnd (r ρ) fun ps => opt (f p ps) else fun _ => .bad
def dCallN (F : Fn) (r : Sto → M (List PV)) : Sto → M PV := fun ρ => bnd (r ρ) F
def fnV (sg : Sg) (Γ : Gam) (n : Nat) : Option PV → Option Fn
  | some (.fn nm) => (sg.fn.findIdx? fun q => q == (nm, n)).map fun f => Γ.fn.getD f badF
  | _ => none
def dCallV (sg : Sg) (Γ : Gam) (i n : Nat) (r : Sto → M (List PV)) : Sto → M PV := fun ρ => bnd (opt (fnV sg Γ n (slV ρ[i]?))) fun F => bnd (r ρ) F
def dMethN (F : Fn) (t : Nat) (a : Sto → M PV) (r : Sto → M (List PV)) : Sto → M PV := fun ρ => bnd (a ρ) fun o => match o with
  | .obj t' fs => if t' = t then bnd (r ρ) fun ps => F (.obj t' fs :: ps) else fun _ => .bad
  | _ => fun _ => .bad
def den (G : Pg) (Γ : Gam) (sg : Sg) : E → Dn
  | .var i => dv [i] (dVar i)
  | .int n => dv [] (dC (.int n))
  | .bl b => dv [] (dC (.bl b))
  | .non => dv [] (dC .non)
  | .str s => dv [] (dC (.str s))
  | .gl j => dv [] (match sg.gl[j]? with
    | some g => dC g.2
    | none => badV)
  | .op o a b => dv ((den G Γ sg a).S ++ (den G Γ sg b).S) (d2 (binP o) (den G Γ sg a).v (den G Γ sg b).v)
  | .cmp o a b => ⟨(den G Γ sg a).S ++ (den G Γ sg b).S, d2 (cmpP o) (den G Γ sg a).v (den G Γ sg b).v, dAsB (d2 (cmpP o) (den G Γ sg a).v (den G Γ sg b).v), badL, none⟩
  | .ch o o2 a b c => ⟨(den G Γ sg a).S ++ ((den G Γ sg b).S ++ (den G Γ sg c).S), dCh (cmpP o) (cmpP o2) (den G Γ sg a).v (den G Γ sg b).v (den G Γ sg c).v, dAsB (dCh (cmpP o) (cmpP o2) (den G Γ sg a).v (den G Γ sg b).v (den G Γ sg c).v), badL, none⟩
  | .neg a => dv (den G Γ sg a).S (d1 negP (den G Γ sg a).v)
  | .not a => ⟨(den G Γ sg a).S, dNot (den G Γ sg a).v, tNot' (den G Γ sg a).t, badL, none⟩
  | .and r => ⟨(den G Γ sg r).S, (den G Γ sg r).v, (den G Γ sg r).t, badL, none⟩
  | .or r => ⟨(den G Γ sg r).S, (den G Γ sg r).v, (den G Γ sg r).t, badL, none⟩
  | .a1 a => ⟨(den G Γ sg a).S, (den G Γ sg a).v, (den G Γ sg a).t, badL, none⟩
  | .ac a r => ⟨(den G Γ sg a).S ++ (den G Γ sg r).S, dAnd (den G Γ sg a).v (den G Γ sg r).v, tAnd' (den G Γ sg a).t (den G Γ sg r).t, badL, none⟩
  | .o1 a => ⟨(den G Γ sg a).S, (den G Γ sg a).v, (den G Γ sg a).t, badL, none⟩
  | .oc a r => ⟨(den G Γ sg a).S ++ (den G Γ sg r).S, dOr (den G Γ sg a).v (den G Γ sg r).v, tOr' (den G Γ sg a).t (den G Γ sg r).t, badL, none⟩
  | .ite c a b => ⟨(den G Γ sg c).S ++ ((den G Γ sg a).S ++ (den G Γ sg b).S), dIte (den G Γ sg c).t (den G Γ sg a).v (den G Γ sg b).v, badT, badL, none⟩
  | .idx a b => dv ((den G Γ sg a).S ++ (den G Γ sg b).S) (d2 idxP (den G Γ sg a).v (den G Γ sg b).v)
  | .slc a lo hi => dv ((den G Γ sg a).S ++ ((den G Γ sg lo).S ++ (den G Γ sg hi).S)) (dSlc (den G Γ sg a).v (den G Γ sg lo).p (den G Γ sg hi).p)
  | .no => ⟨[], badV, badT, badL, none⟩
  | .so a => ⟨(den G Γ sg a).S, badV, badT, badL, some (den G Γ sg a).v⟩
  | .nil => ⟨[], badV, badT, dNil, none⟩
  | .cons a r => ⟨(den G Γ sg a).S ++ (den G Γ sg r).S, badV, badT, dCons (den G Γ sg a).v (den G Γ sg r).l, none⟩
  | .tup r => dv (den G Γ sg r).S (dL mkTup (den G Γ sg r).l)
  | .lst r => dv (den G Γ sg r).S (dL mkLst (den G Γ sg r).l)
  | .dic b => dv [] (dC (.dic b [] []))
  | .ext j => dv (Γ.xd j).1 (Γ.xd j).2
  | .callv i r => dv (den G Γ sg r).S (dCallV sg Γ i (cntE r) (den G Γ sg r).l)
  | .call f r => dv (den G Γ sg r).S (dCallN (Γ.fn.getD f badF) (den G Γ sg r).l)
  | .make f _ r => dv (den G Γ sg r).S (dCallN (Γ.mks.getD f badF) (den G Γ sg r).l)
  | .meth f t a r => dv ((den G Γ sg a).S ++ (den G Γ sg r).S) (dMethN (Γ.me.getD f badF) t (den G Γ sg a).v (den G Γ sg r).l)
  | .fld f a => dv (den G Γ sg a).S (d1 (fldP G f) (den G Γ sg a).v)
  | .bi b r => dv (den G Γ sg r).S (dL (biP b) (den G Γ sg r).l)
  | .bm b a r => dv ((den G Γ sg a).S ++ (den G Γ sg r).S) (dBm (bmC b) (bmP b) (den G Γ sg a).v (den G Γ sg r).l)
  | .isi c a => dv (den G Γ sg a).S (d1 (isiP G c) (den G Γ sg a).v)
  | .isi2 c c2 a => dv (den G Γ sg a).S (d1 (isiP2 G [c, c2]) (den G Γ sg a).v)
  | .comp it ts e tg vs => dv ((den G Γ sg it).S ++ (vs ++ ((den G Γ sg ts).S ++ (den G Γ sg e).S)))
    (dComp ((den G Γ sg it).S ++ (vs ++ ((den G Γ sg ts).S ++ (den G Γ sg e).S))) (den G Γ sg it).l (den G Γ sg ts).t (den G Γ sg e).v tg vs)
  | .yes => ⟨[], badV, dYes, badL, none⟩
  | .tst a => ⟨(den G Γ sg a).S, badV, (den G Γ sg a).t, badL, none⟩
  | .sq a => ⟨(den G Γ sg a).S, badV, badT, dSeq (den G Γ sg a).v, none⟩
  | .en r => ⟨(den G Γ sg r).S, badV, badT, dEnum (den G Γ sg r).l, none⟩
  | .zp r => ⟨(den G Γ sg r).S, badV, badT, dZip (den G Γ sg r).l, none⟩
end GP
-- GX
set_option maxRecDepth 100000
set_option maxHeartbeats 4000000
namespace GP
open PySem PySem.Spec PyProof.Rows L2
structure HX (G : Pg) (k : Nat) (dc : Dc) (N : List Str) (sg : Sg) (Γ : Gam) : Prop where
  fre : ∀ x ∈ freeN, G.mg x = none
  cls : ClsF G
  isi : IsiOk G
  fn : ∀ f nm n, sg.fn[f]? = some (nm, n) → FnE G dc.gd k ⟨nm, n, Γ.fn.getD f badF⟩
  mks : ∀ f nm t n, sg.mks[f]? = some (nm, t, n) → ∃ k', k = k' + 1 ∧ MkE G k' t ⟨nm, n, Γ.mks.getD f badF⟩
  me : ∀ f nm t n, sg.me[f]? = some (nm, t, n) → MeE G k t ⟨nm, n, Γ.me.getD f badF⟩
  cl : ∀ x t, sg.cl.contains (x, t) = true → G.mg x = some (.ref (G.cl t))
  er : ∀ x t, sg.er.contains (x, t) = true → ∃ k', k = k' + 1 ∧ ErrC G k' t x
  rp : sg.rp = true → dc.gd = true
  xt : ∀ j sc X Ex x, EX G k dc N sc X Ex → sg.xm j sc x = true → DE X G Ex x (Γ.xd j).1 (Γ.xd j).2
  xs : ∀ j sc X Ex x, BX G k dc N sc X Ex → sg.xs j sc x = true → DS X G Ex x (Γ.xs j).1 (Γ.xs j).2
  gl : ∀ (j : Nat) g, sg.gl[j]? = some g → ∃ v u, G.mg g.1 = some u ∧ RelV v u ∧ ∀ ro Hv, Rep G ro Hv v g.2
section
variable {env : Env} {sc : Scope} {x : Str} {e : Expr} {es : List Expr}
theorem vis_of (h : visB sc x = true) : Vis sc x := by
  unfold visB at h
  unfold Vis
  split at h
  · rename_i q; exact .inl q
  · rename_i q; exact .inr (.inl q)
  · rename_i q; exact .inr (.inr q)
  · cases h
theorem loc_of (h : locB sc x = true) : L2.Loc sc x := by
  unfold locB at h
  unfold L2.Loc
  split at h
  · rename_i q; exact .inl q
  · rename_i q; exact .inr q
  · cases h
theorem gl_of {X : Cx} (hs : X.env.scope = sc) (h : glB sc x = true) : Gl X x := by
  unfold glB at h
  split at h
  · rename_i q; show X.env.scope.names.lookup x = _; rw [hs]; exact q
  · cases h
theorem dbg_of (h : dbgB x = true) : (x == ("__debug__" : Str)) = false := by simpa [dbgB] using h
theorem plain_of (h : plainN x = true) : (x == ("__debug__" : Str)) = false ∧ (x == ("__classdict__" : Str)) = false := by simpa [plainN] using h
theorem star_of (h : nst e = true) : starEach (e :: es) env = (false, eval e env) :: starEach es env := by
  cases e <;> first | rfl | (simp [nst] at h)
theorem sup_of {f : Str} (h : nsup e = true) : attributeBase e f env (eval e env) = eval e env := by
  cases e <;> try rfl
  rename_i fn args kw pos
  cases args with
  | nil => simp [nsup] at h
  | cons a as => cases fn <;> rfl
theorem sl_of (h : nsl e = true) : PlainIx e := by
  intro o i
  cases e <;> first | rfl | (simp [nsl] at h)
theorem set_of (h : nset e = true) : ∀ y, foldedSetIterable e env y = pure y := by
  intro y
  cases e <;> first | rfl | (simp [nset] at h)
end
def nocomp : Expr → Bool
  | .ListComp _ _ _ _ => false
  | .SetComp _ _ _ _ => false
  | .DictComp _ _ _ _ _ => false
  | _ => true
theorem true_of {e : Expr} {env : Env} (h : plainE e = true) : ∀ whole, isTrue e env whole = (do let v ← whole; standAt e.pos; holding [v] (truthy v)) := by
  intro w
  cases e <;> first | rfl | (simp [plainE] at h; done) | skip
  rename_i o a p
  cases o <;> first | rfl | (simp [plainE] at h)
theorem comp_of {e : Expr} (h : nocomp e = true) (tg : Option Expr) (l : Nat) (env : Env) : swapsWith e tg l env = pure false := by
  cases e <;> first | rfl | (simp [nocomp] at h)
theorem nocomp_of {e : Expr} (h : plainE e = true) : nocomp e = true := by
  cases e <;> first | rfl | (simp [plainE] at h)
structure Snd (G : Pg) (k : Nat) (dc : Dc) (N : List Str) (sg : Sg) (Γ : Gam) (q : E) : Prop where
  e : ∀ sc X Ex x, EX G k dc N sc X Ex → m N sg q sc (.e x) = true → DE X G Ex x (den G Γ sg q).S (den G Γ sg q).v
  t : ∀ sc X Ex x, EX G k dc N sc X Ex → hasT q = true → m N sg q sc (.e x) = true → DT X G Ex x (den G Γ sg q).S (den G Γ sg q).t
  fr : ∀ sc X Ex x, EX G k dc N sc X Ex → fresh q = true → m N sg q sc (.e x) = true → DX X G Ex true x (den G Γ sg q).S (den G Γ sg q).v
  as : ∀ sc X Ex x, EX G k dc N sc X Ex → m N sg q sc (.e x) = true → ∀ fr, (fr = true → fresh q = true) → ∀ i y p2 pos, X.N[i]? = some y → L2.Loc X.env.scope y → (∀ x, X.fn x = true) →
    PS X (.Assign [.Name y p2] x pos) (tAsg (tDX G Ex fr (den G Γ sg q).S (den G Γ sg q).v) (gName i))
  es : ∀ sc X Ex l, EX G k dc N sc X Ex → m N sg q sc (.es l) = true → DL X G Ex l (den G Γ sg q).S (den G Γ sg q).l
  an : ∀ sc X Ex l pos, EX G k dc N sc X Ex → m N sg q sc (.an l) = true → DE X G Ex (.BoolOp .And l pos) (den G Γ sg q).S (den G Γ sg q).v ∧ DW X G Ex (.BoolOp .And l pos) (den G Γ sg q).S (den G Γ sg q).t
  orr : ∀ sc X Ex l pos, EX G k dc N sc X Ex → m N sg q sc (.orr l) = true → DE X G Ex (.BoolOp .Or l pos) (den G Γ sg q).S (den G Γ sg q).v ∧ DW X G Ex (.BoolOp .Or l pos) (den G Γ sg q).S (den G Γ sg q).t
  it : ∀ sc X Ex tg x, EX G k dc N sc X Ex → m N sg q sc (.it tg x) = true → DI X G Ex tg x (den G Γ sg q).S (den G Γ sg q).l
  oe : ∀ sc X Ex o, EX G k dc N sc X Ex → m N sg q sc (.oe o) = true → PO X o (tDO G Ex (den G Γ sg q).S (dPart (den G Γ sg q).p))
  ts : ∀ sc X Ex l, EX G k dc N sc X Ex → m N sg q sc (.ts l) = true → PTs X l (tDT G Ex (den G Γ sg q).S (den G Γ sg q).t)
section
variable {G : Pg} {k : Nat} {dc : Dc} {N : List Str} {sg : Sg} {Γ : Gam} {t : E}
theorem as_of {X : Cx} {Ex : XK} {x : Expr} {fr : Bool} {S : List Nat} {v : Sto → M PV} (nd : X.N.Nodup) (hx : nocomp x = true) (h : DX X G Ex fr x S v) {i : Nat} {y : Str} {p2 pos : Pos} (hi : X.N[i]? = some y) (hl : L2.Loc X.env.scope y) (hf : ∀ x, X.fn x = true) :
    PS X (.Assign [.Name y p2] x pos) (tAsg (tDX G Ex fr S v) (gName i)) := ps_set nd hi hl h (comp_of hx _ _ _) (.inl (hf y))
theorem Snd.ofE (vac : ∀ sc x, (∀ y, x ≠ .e y) → m N sg t sc x = false) (nc : ∀ sc x, m N sg t sc (.e x) = true → nocomp x = true)
    (he : ∀ sc X Ex x, EX G k dc N sc X Ex → m N sg t sc (.e x) = true → DE X G Ex x (den G Γ sg t).S (den G Γ sg t).v)
    (ht : ∀ sc X Ex x, EX G k dc N sc X Ex → hasT t = true → m N sg t sc (.e x) = true → DT X G Ex x (den G Γ sg t).S (den G Γ sg t).t)
    (hf : ∀ sc X Ex x, EX G k dc N sc X Ex → fresh t = true → m N sg t sc (.e x) = true → DX X G Ex true x (den G Γ sg t).S (den G Γ sg t).v) : Snd G k dc N sg Γ t where
  e := he
  t := ht
  fr := hf
  as := fun sc X Ex x hX h fr hfr i y p2 pos hi hl hfn => as_of hX.xg.nd (nc sc x h) (by
    cases fr with
    | false => exact dx_sh (he sc X Ex x hX h)
    | true => exact hf sc X Ex x hX (hfr rfl) h) hi hl hfn
  es := fun sc X Ex l _ h => by rw [vac _ _ (by intro y z; cases z)] at h; cases h
  an := fun sc X Ex l _ _ h => by rw [vac _ _ (by intro y z; cases z)] at h; cases h
  orr := fun sc X Ex l _ _ h => by rw [vac _ _ (by intro y z; cases z)] at h; cases h
  it := fun sc X Ex l _ _ h => by rw [vac _ _ (by intro y z; cases z)] at h; cases h
  oe := fun sc X Ex l _ h => by rw [vac _ _ (by intro y z; cases z)] at h; cases h
  ts := fun sc X Ex l _ h => by rw [vac _ _ (by intro y z; cases z)] at h; cases h
theorem Snd.ofV {S : List Nat} {v : Sto → M PV} (hd : den G Γ sg t = dv S v) (vac : ∀ sc x, (∀ y, x ≠ .e y) → m N sg t sc x = false) (nc : ∀ sc x, m N sg t sc (.e x) = true → plainE x = true)
    (he : ∀ sc X Ex x, EX G k dc N sc X Ex → m N sg t sc (.e x) = true → DE X G Ex x S v)
    (hf : ∀ sc X Ex x, EX G k dc N sc X Ex → fresh t = true → m N sg t sc (.e x) = true → DX X G Ex true x S v) : Snd G k dc N sg Γ t :=
  Snd.ofE vac (fun sc x h => nocomp_of (nc sc x h)) (by rw [hd]; exact he) (fun sc X Ex x hX _ h => by
    rw [hd]; exact dt_tru hX.xg (he sc X Ex x hX h) (true_of (nc sc x h))) (by rw [hd]; exact hf)
theorem Snd.ofO (vac : ∀ sc x, m N sg t sc (.e x) = false)
    (es : ∀ sc X Ex l, EX G k dc N sc X Ex → m N sg t sc (.es l) = true → DL X G Ex l (den G Γ sg t).S (den G Γ sg t).l)
    (an : ∀ sc X Ex l pos, EX G k dc N sc X Ex → m N sg t sc (.an l) = true → DE X G Ex (.BoolOp .And l pos) (den G Γ sg t).S (den G Γ sg t).v ∧ DW X G Ex (.BoolOp .And l pos) (den G Γ sg t).S (den G Γ sg t).t)
    (orr : ∀ sc X Ex l pos, EX G k dc N sc X Ex → m N sg t sc (.orr l) = true → DE X G Ex (.BoolOp .Or l pos) (den G Γ sg t).S (den G Γ sg t).v ∧ DW X G Ex (.BoolOp .Or l pos) (den G Γ sg t).S (den G Γ sg t).t)
    (it : ∀ sc X Ex tg x, EX G k dc N sc X Ex → m N sg t sc (.it tg x) = true → DI X G Ex tg x (den G Γ sg t).S (den G Γ sg t).l)
    (oe : ∀ sc X Ex o, EX G k dc N sc X Ex → m N sg t sc (.oe o) = true → PO X o (tDO G Ex (den G Γ sg t).S (dPart (den G Γ sg t).p)))
    (ts : ∀ sc X Ex l, EX G k dc N sc X Ex → m N sg t sc (.ts l) = true → PTs X l (tDT G Ex (den G Γ sg t).S (den G Γ sg t).t)) : Snd G k dc N sg Γ t where
  e := fun sc X Ex x _ h => by rw [vac] at h; cases h
  t := fun sc X Ex x _ _ h => by rw [vac] at h; cases h
  fr := fun sc X Ex x _ _ h => by rw [vac] at h; cases h
  as := fun sc X Ex x _ h => by rw [vac] at h; cases h
  es := es
  an := an
  orr := orr
  it := it
  oe := oe
  ts := ts
end
section
variable {G : Pg} {k : Nat} {dc : Dc} {N : List Str} {sg : Sg} {Γ : Gam}
theorem snd_var (i : Nat) : Snd G k dc N sg Γ (.var i) := by
  have inv : ∀ sc x, m N sg (.var i) sc (.e x) = true → ∃ y p, x = .Name y p ∧ N[i]? = some y ∧ visB sc y = true ∧ plainN y = true := fun sc x h => by
    cases x <;> simp only [m] at h <;> (try cases h)
    simp only [Bool.and_eq_true, beq_iff_eq] at h
    exact ⟨_, _, rfl, h.1.1, h.1.2, h.2⟩
  refine Snd.ofV (S := [i]) (v := dVar i) rfl (by (intro sc x hx; cases x <;> first | rfl | exact absurd rfl (hx _))) (fun sc x h => ?_) (fun sc X Ex x hX h => ?_) (fun _ _ _ _ _ h => by cases h)
  · obtain ⟨y, p, rfl, _⟩ := inv sc x h; rfl
  · obtain ⟨y, p, rfl, h1, h2, h3⟩ := inv sc x h
    exact de_var (by rw [hX.n]; exact h1) (hX.sc ▸ vis_of h2) (plain_of h3).1 (plain_of h3).2
theorem snd_int (n : Int) : Snd G k dc N sg Γ (.int n) := by
  have inv : ∀ sc x, m N sg (.int n) sc (.e x) = true → ∃ j p, x = .Constant (.int n) j p := fun sc x h => by
    simp only [m] at h
    split at h
    · rename_i e
      simp only [beq_iff_eq] at h
      subst h
      injection e with e
      exact ⟨_, _, e⟩
    · cases h
  refine Snd.ofV (S := []) (v := dC (.int n)) rfl (by (intro sc x hx; cases x <;> first | rfl | exact absurd rfl (hx _))) (fun sc x h => ?_) (fun sc X Ex x hX h => ?_) (fun _ _ _ _ _ h => by cases h)
  · obtain ⟨j, p, rfl⟩ := inv sc x h; rfl
  · obtain ⟨j, p, rfl⟩ := inv sc x h
    exact de_int
theorem snd_bl (n : Bool) : Snd G k dc N sg Γ (.bl n) := by
  have inv : ∀ sc x, m N sg (.bl n) sc (.e x) = true → ∃ j p, x = .Constant (.bool n) j p := fun sc x h => by
    simp only [m] at h
    split at h
    · rename_i e
      simp only [beq_iff_eq] at h
      subst h
      injection e with e
      exact ⟨_, _, e⟩
    · cases h
  refine Snd.ofV (S := []) (v := dC (.bl n)) rfl (by (intro sc x hx; cases x <;> first | rfl | exact absurd rfl (hx _))) (fun sc x h => ?_) (fun sc X Ex x hX h => ?_) (fun _ _ _ _ _ h => by cases h)
  · obtain ⟨j, p, rfl⟩ := inv sc x h; rfl
  · obtain ⟨j, p, rfl⟩ := inv sc x h
    exact de_bl
theorem snd_non : Snd G k dc N sg Γ .non := by
  have inv : ∀ sc x, m N sg .non sc (.e x) = true → ∃ j p, x = .Constant .none j p := fun sc x h => by
    simp only [m] at h
    split at h
    · rename_i e
      injection e with e
      exact ⟨_, _, e⟩
    · cases h
  refine Snd.ofV (S := []) (v := dC .non) rfl (by (intro sc x hx; cases x <;> first | rfl | exact absurd rfl (hx _))) (fun sc x h => ?_) (fun sc X Ex x hX h => ?_) (fun _ _ _ _ _ h => by cases h)
  · obtain ⟨j, p, rfl⟩ := inv sc x h; rfl
  · obtain ⟨j, p, rfl⟩ := inv sc x h
    exact de_non
theorem snd_str (n : Str) : Snd G k dc N sg Γ (.str n) := by
  have inv : ∀ sc x, m N sg (.str n) sc (.e x) = true → ∃ j p, x = .Constant (.str n) j p := fun sc x h => by
    simp only [m] at h
    split at h
    · rename_i e
      simp only [beq_iff_eq] at h
      subst h
      injection e with e
      exact ⟨_, _, e⟩
    · cases h
  refine Snd.ofV (S := []) (v := dC (.str n)) rfl (by (intro sc x hx; cases x <;> first | rfl | exact absurd rfl (hx _))) (fun sc x h => ?_) (fun sc X Ex x hX h => ?_) (fun _ _ _ _ _ h => by cases h)
  · obtain ⟨j, p, rfl⟩ := inv sc x h; rfl
  · obtain ⟨j, p, rfl⟩ := inv sc x h
    exact de_str
theorem snd_gl (H : HX G k dc N sg Γ) (j : Nat) : Snd G k dc N sg Γ (.gl j) := by
  have inv : ∀ sc x, m N sg (.gl j) sc (.e x) = true → ∃ g p, sg.gl[j]? = some g ∧ x = .Name g.1 p ∧ glB sc g.1 = true ∧ dbgB g.1 = true := fun sc x h => by
    simp only [m] at h
    split at h
    · rename_i e
      injection e with e
      simp only [Bool.and_eq_true] at h
      obtain ⟨⟨h1, h2⟩, h3⟩ := h
      split at h1
      · rename_i g hg
        simp only [beq_iff_eq] at h1
        subst h1
        exact ⟨g, _, hg, e, h2, h3⟩
      · cases h1
    · cases h
  cases hg : sg.gl[j]? with
  | none =>
    refine Snd.ofV (S := []) (v := badV) (by unfold den; rw [hg]) (by (intro sc x hx; cases x <;> first | rfl | exact absurd rfl (hx _))) (fun sc x h => ?_) (fun sc X Ex x hX h => ?_) (fun _ _ _ _ _ h => by cases h) <;>
    · obtain ⟨g, p, h1, _⟩ := inv sc x h
      rw [hg] at h1; cases h1
  | some g0 =>
    refine Snd.ofV (S := []) (v := dC g0.2) (by unfold den; rw [hg]) (by (intro sc x hx; cases x <;> first | rfl | exact absurd rfl (hx _))) (fun sc x h => ?_) (fun sc X Ex x hX h => ?_) (fun _ _ _ _ _ h => by cases h)
    · obtain ⟨g, p, h1, rfl, _⟩ := inv sc x h; rfl
    · obtain ⟨g, p, h1, rfl, h2, h3⟩ := inv sc x h
      rw [hg] at h1; cases h1
      obtain ⟨v, u, g1, g2, g3⟩ := H.gl j g0 hg
      exact de_glob (gl_of hX.sc h2) (hX.xg.mg ▸ g1) g2 g3 (dbg_of h3)
variable {a b c r : E}
theorem snd_op (o : Operator) (ha : Snd G k dc N sg Γ a) (hb : Snd G k dc N sg Γ b) : Snd G k dc N sg Γ (.op o a b) := by
  have inv : ∀ sc x, m N sg (.op o a b) sc (.e x) = true → ∃ l r p, x = .BinOp l o r p ∧ m N sg a sc (.e l) = true ∧ m N sg b sc (.e r) = true := fun sc x h => by
    simp only [m] at h
    split at h
    · rename_i e
      injection e with e
      simp only [Bool.and_eq_true, beq_iff_eq] at h
      obtain ⟨⟨h1, h2⟩, h3⟩ := h
      subst h1
      exact ⟨_, _, _, e, h2, h3⟩
    · cases h
  refine Snd.ofV rfl (by (intro sc x hx; cases x <;> first | rfl | exact absurd rfl (hx _))) (fun sc x h => ?_) (fun sc X Ex x hX h => ?_) (fun _ _ _ _ _ h => by cases h)
  · obtain ⟨l, r, p, rfl, _⟩ := inv sc x h; rfl
  · obtain ⟨l, r, p, rfl, h1, h2⟩ := inv sc x h
    exact de_op (op_binP hX.xg o) (ha.e sc X Ex l hX h1) (hb.e sc X Ex r hX h2)
theorem snd_cmp (o : CmpOp) (ha : Snd G k dc N sg Γ a) (hb : Snd G k dc N sg Γ b) : Snd G k dc N sg Γ (.cmp o a b) := by
  have inv : ∀ sc x, m N sg (.cmp o a b) sc (.e x) = true → ∃ l r p, x = .Compare l [o] [r] p ∧ m N sg a sc (.e l) = true ∧ m N sg b sc (.e r) = true ∧ behindInMarks o r = false := fun sc x h => by
    simp only [m] at h
    split at h
    · rename_i e
      injection e with e
      simp only [Bool.and_eq_true, beq_iff_eq, Bool.not_eq_true'] at h
      obtain ⟨⟨⟨h1, h2⟩, h3⟩, h4⟩ := h
      subst h1
      exact ⟨_, _, _, e, h2, h3, h4⟩
    · cases h
  refine Snd.ofE (by (intro sc x hx; cases x <;> first | rfl | exact absurd rfl (hx _))) (fun sc x h => ?_) (fun sc X Ex x hX h => ?_) (fun sc X Ex x hX _ h => ?_) (fun _ _ _ _ _ h => by cases h)
  · obtain ⟨l, r, p, rfl, _⟩ := inv sc x h; rfl
  · obtain ⟨l, r, p, rfl, h1, h2, h3⟩ := inv sc x h
    exact de_cmp (op_cmpP hX.xg o) (ha.e sc X Ex l hX h1) (hb.e sc X Ex r hX h2) h3
  · obtain ⟨l, r, p, rfl, h1, h2, h3⟩ := inv sc x h
    exact dt_cmp hX.xg (ha.e sc X Ex l hX h1) (hb.e sc X Ex r hX h2) h3
theorem snd_ch (o o2 : CmpOp) (ha : Snd G k dc N sg Γ a) (hb : Snd G k dc N sg Γ b) (hc : Snd G k dc N sg Γ c) : Snd G k dc N sg Γ (.ch o o2 a b c) := by
  have inv : ∀ sc x, m N sg (.ch o o2 a b c) sc (.e x) = true → ∃ l r r2 p, x = .Compare l [o, o2] [r, r2] p ∧ m N sg a sc (.e l) = true ∧ m N sg b sc (.e r) = true ∧ m N sg c sc (.e r2) = true ∧ lastMarks [o, o2] [r, r2] = false := fun sc x h => by
    simp only [m] at h
    split at h
    · rename_i e
      injection e with e
      simp only [Bool.and_eq_true, beq_iff_eq, Bool.not_eq_true'] at h
      obtain ⟨⟨⟨⟨⟨h1, h0⟩, h2⟩, h3⟩, h4⟩, h5⟩ := h
      subst h1; subst h0
      exact ⟨_, _, _, _, e, h2, h3, h4, h5⟩
    · cases h
  refine Snd.ofE (by (intro sc x hx; cases x <;> first | rfl | exact absurd rfl (hx _))) (fun sc x h => ?_) (fun sc X Ex x hX h => ?_) (fun sc X Ex x hX _ h => ?_) (fun _ _ _ _ _ h => by cases h)
  · obtain ⟨l, r, r2, p, rfl, _⟩ := inv sc x h; rfl
  · obtain ⟨l, r, r2, p, rfl, h1, h2, h3, h4⟩ := inv sc x h
    exact de_ch hX.xg (ha.e sc X Ex l hX h1) (hb.e sc X Ex r hX h2) (hc.e sc X Ex r2 hX h3) h4
  · obtain ⟨l, r, r2, p, rfl, h1, h2, h3, h4⟩ := inv sc x h
    exact dt_ch hX.xg (ha.e sc X Ex l hX h1) (hb.e sc X Ex r hX h2) (hc.e sc X Ex r2 hX h3) h4
theorem snd_neg (ha : Snd G k dc N sg Γ a) : Snd G k dc N sg Γ (.neg a) := by
  have inv : ∀ sc x, m N sg (.neg a) sc (.e x) = true → ∃ l p, x = .UnaryOp .USub l p ∧ m N sg a sc (.e l) = true := fun sc x h => by
    simp only [m] at h
    split at h
    · rename_i e
      injection e with e
      exact ⟨_, _, e, h⟩
    · cases h
  refine Snd.ofV rfl (by (intro sc x hx; cases x <;> first | rfl | exact absurd rfl (hx _))) (fun sc x h => ?_) (fun sc X Ex x hX h => ?_) (fun _ _ _ _ _ h => by cases h)
  · obtain ⟨l, p, rfl, _⟩ := inv sc x h; rfl
  · obtain ⟨l, p, rfl, h1⟩ := inv sc x h
    exact de_un un_negP (ha.e sc X Ex l hX h1)
theorem snd_not (ha : Snd G k dc N sg Γ a) : Snd G k dc N sg Γ (.not a) := by
  have inv : ∀ sc x, m N sg (.not a) sc (.e x) = true → ∃ l p, x = .UnaryOp .Not l p ∧ hasT a = true ∧ m N sg a sc (.e l) = true := fun sc x h => by
    simp only [m] at h
    split at h
    · rename_i e
      injection e with e
      simp only [Bool.and_eq_true] at h
      exact ⟨_, _, e, h.1, h.2⟩
    · cases h
  refine Snd.ofE (by (intro sc x hx; cases x <;> first | rfl | exact absurd rfl (hx _))) (fun sc x h => ?_) (fun sc X Ex x hX h => ?_) (fun sc X Ex x hX _ h => ?_) (fun _ _ _ _ _ h => by cases h)
  · obtain ⟨l, p, rfl, _⟩ := inv sc x h; rfl
  · obtain ⟨l, p, rfl, _, h1⟩ := inv sc x h
    exact de_not (ha.e sc X Ex l hX h1)
  · obtain ⟨l, p, rfl, h0, h1⟩ := inv sc x h
    exact dt_not (ha.t sc X Ex l hX h0 h1)
theorem snd_and (ha : Snd G k dc N sg Γ r) : Snd G k dc N sg Γ (.and r) := by
  have inv : ∀ sc x, m N sg (.and r) sc (.e x) = true → ∃ l p, x = .BoolOp .And l p ∧ m N sg r sc (.an l) = true := fun sc x h => by
    simp only [m] at h
    split at h
    · rename_i e
      injection e with e
      exact ⟨_, _, e, h⟩
    · cases h
  refine Snd.ofE (by (intro sc x hx; cases x <;> first | rfl | exact absurd rfl (hx _))) (fun sc x h => ?_) (fun sc X Ex x hX h => ?_) (fun sc X Ex x hX _ h => ?_) (fun _ _ _ _ _ h => by cases h)
  · obtain ⟨l, p, rfl, _⟩ := inv sc x h; rfl
  · obtain ⟨l, p, rfl, h1⟩ := inv sc x h
    exact (ha.an sc X Ex l p hX h1).1
  · obtain ⟨l, p, rfl, h1⟩ := inv sc x h
    exact (ha.an sc X Ex l p hX h1).2.pt
theorem snd_or (ha : Snd G k dc N sg Γ r) : Snd G k dc N sg Γ (.or r) := by
  have inv : ∀ sc x, m N sg (.or r) sc (.e x) = true → ∃ l p, x = .BoolOp .Or l p ∧ m N sg r sc (.orr l) = true := fun sc x h => by
    simp only [m] at h
    split at h
    · rename_i e
      injection e with e
      exact ⟨_, _, e, h⟩
    · cases h
  refine Snd.ofE (by (intro sc x hx; cases x <;> first | rfl | exact absurd rfl (hx _))) (fun sc x h => ?_) (fun sc X Ex x hX h => ?_) (fun sc X Ex x hX _ h => ?_) (fun _ _ _ _ _ h => by cases h)
  · obtain ⟨l, p, rfl, _⟩ := inv sc x h; rfl
  · obtain ⟨l, p, rfl, h1⟩ := inv sc x h
    exact (ha.orr sc X Ex l p hX h1).1
  · obtain ⟨l, p, rfl, h1⟩ := inv sc x h
    exact (ha.orr sc X Ex l p hX h1).2.pt
end
section
variable {G : Pg} {k : Nat} {dc : Dc} {N : List Str} {sg : Sg} {Γ : Gam} {a b c r : E}
theorem snd_a1 (ha : Snd G k dc N sg Γ a) : Snd G k dc N sg Γ (.a1 a) := by
  refine Snd.ofO (fun sc x => rfl) (by (first | (intro sc X Ex l pos hX h; cases h; done) | (intro sc X Ex l hX h; cases h; done))) (fun sc X Ex l pos hX h => ?_) (by (first | (intro sc X Ex l pos hX h; cases h; done) | (intro sc X Ex l hX h; cases h; done))) (by (first | (intro sc X Ex l pos hX h; cases h; done) | (intro sc X Ex l hX h; cases h; done))) (by (first | (intro sc X Ex l pos hX h; cases h; done) | (intro sc X Ex l hX h; cases h; done))) (by (first | (intro sc X Ex l pos hX h; cases h; done) | (intro sc X Ex l hX h; cases h; done)))
  simp only [m] at h
  split at h
  · rename_i e
    injection e with e
    subst e
    simp only [Bool.and_eq_true] at h
    exact ⟨pe_one (ha.e sc X Ex _ hX h.2), pw_and1 (ha.t sc X Ex _ hX h.1 h.2)⟩
  · cases h
theorem snd_ac (ha : Snd G k dc N sg Γ a) (hr : Snd G k dc N sg Γ r) : Snd G k dc N sg Γ (.ac a r) := by
  refine Snd.ofO (fun sc x => rfl) (by (first | (intro sc X Ex l pos hX h; cases h; done) | (intro sc X Ex l hX h; cases h; done))) (fun sc X Ex l pos hX h => ?_) (by (first | (intro sc X Ex l pos hX h; cases h; done) | (intro sc X Ex l hX h; cases h; done))) (by (first | (intro sc X Ex l pos hX h; cases h; done) | (intro sc X Ex l hX h; cases h; done))) (by (first | (intro sc X Ex l pos hX h; cases h; done) | (intro sc X Ex l hX h; cases h; done))) (by (first | (intro sc X Ex l pos hX h; cases h; done) | (intro sc X Ex l hX h; cases h; done)))
  simp only [m] at h
  split at h
  · rename_i e
    injection e with e
    subst e
    simp only [Bool.and_eq_true] at h
    obtain ⟨⟨h1, h2⟩, h3⟩ := h
    obtain ⟨r1, r2⟩ := hr.an sc X Ex _ pos hX h3
    exact ⟨de_and (ha.e sc X Ex _ hX h2) r1, dw_and (ha.t sc X Ex _ hX h1 h2) r2⟩
  · cases h
theorem snd_o1 (ha : Snd G k dc N sg Γ a) : Snd G k dc N sg Γ (.o1 a) := by
  refine Snd.ofO (fun sc x => rfl) (by (first | (intro sc X Ex l pos hX h; cases h; done) | (intro sc X Ex l hX h; cases h; done))) (by (first | (intro sc X Ex l pos hX h; cases h; done) | (intro sc X Ex l hX h; cases h; done))) (fun sc X Ex l pos hX h => ?_) (by (first | (intro sc X Ex l pos hX h; cases h; done) | (intro sc X Ex l hX h; cases h; done))) (by (first | (intro sc X Ex l pos hX h; cases h; done) | (intro sc X Ex l hX h; cases h; done))) (by (first | (intro sc X Ex l pos hX h; cases h; done) | (intro sc X Ex l hX h; cases h; done)))
  simp only [m] at h
  split at h
  · rename_i e
    injection e with e
    subst e
    simp only [Bool.and_eq_true] at h
    exact ⟨pe_one (ha.e sc X Ex _ hX h.2), pw_or1 (ha.t sc X Ex _ hX h.1 h.2)⟩
  · cases h
theorem snd_oc (ha : Snd G k dc N sg Γ a) (hr : Snd G k dc N sg Γ r) : Snd G k dc N sg Γ (.oc a r) := by
  refine Snd.ofO (fun sc x => rfl) (by (first | (intro sc X Ex l pos hX h; cases h; done) | (intro sc X Ex l hX h; cases h; done))) (by (first | (intro sc X Ex l pos hX h; cases h; done) | (intro sc X Ex l hX h; cases h; done))) (fun sc X Ex l pos hX h => ?_) (by (first | (intro sc X Ex l pos hX h; cases h; done) | (intro sc X Ex l hX h; cases h; done))) (by (first | (intro sc X Ex l pos hX h; cases h; done) | (intro sc X Ex l hX h; cases h; done))) (by (first | (intro sc X Ex l pos hX h; cases h; done) | (intro sc X Ex l hX h; cases h; done)))
  simp only [m] at h
  split at h
  · rename_i e
    injection e with e
    subst e
    simp only [Bool.and_eq_true] at h
    obtain ⟨⟨h1, h2⟩, h3⟩ := h
    obtain ⟨r1, r2⟩ := hr.orr sc X Ex _ pos hX h3
    exact ⟨de_or (ha.e sc X Ex _ hX h2) r1, dw_or (ha.t sc X Ex _ hX h1 h2) r2⟩
  · cases h
end
end GP
-- GY
set_option maxRecDepth 100000
set_option maxHeartbeats 4000000
namespace GP
open PySem PySem.Spec PyProof.Rows L2
section
variable {G : Pg} {k : Nat} {dc : Dc} {N : List Str} {sg : Sg} {Γ : Gam} {a b c r lo hi : E}
theorem snd_ite (hc : Snd G k dc N sg Γ c) (ha : Snd G k dc N sg Γ a) (hb : Snd G k dc N sg Γ b) : Snd G k dc N sg Γ (.ite c a b) := by
  have inv : ∀ sc x, m N sg (.ite c a b) sc (.e x) = true → ∃ t p q z, x = .IfExp t p q z ∧ hasT c = true ∧ m N sg c sc (.e t) = true ∧ m N sg a sc (.e p) = true ∧ m N sg b sc (.e q) = true := fun sc x h => by
    simp only [m] at h
    split at h
    · rename_i e
      injection e with e
      simp only [Bool.and_eq_true] at h
      obtain ⟨⟨⟨h1, h2⟩, h3⟩, h4⟩ := h
      exact ⟨_, _, _, _, e, h1, h2, h3, h4⟩
    · cases h
  refine Snd.ofE (by (intro sc x hx; cases x <;> first | rfl | exact absurd rfl (hx _))) (fun sc x h => ?_) (fun sc X Ex x hX h => ?_) (fun sc X Ex x hX h _ => by cases h) (fun _ _ _ _ _ h => by cases h)
  · obtain ⟨t, p, q, z, rfl, _⟩ := inv sc x h; rfl
  · obtain ⟨t, p, q, z, rfl, h1, h2, h3, h4⟩ := inv sc x h
    exact de_ite (hc.t sc X Ex t hX h1 h2) (ha.e sc X Ex p hX h3) (hb.e sc X Ex q hX h4)
theorem snd_idx (ha : Snd G k dc N sg Γ a) (hb : Snd G k dc N sg Γ b) : Snd G k dc N sg Γ (.idx a b) := by
  have inv : ∀ sc x, m N sg (.idx a b) sc (.e x) = true → ∃ l r p, x = .Subscript l r p ∧ m N sg a sc (.e l) = true ∧ m N sg b sc (.e r) = true ∧ nsl r = true := fun sc x h => by
    simp only [m] at h
    split at h
    · rename_i e
      injection e with e
      simp only [Bool.and_eq_true] at h
      obtain ⟨⟨h1, h2⟩, h3⟩ := h
      exact ⟨_, _, _, e, h1, h2, h3⟩
    · cases h
  refine Snd.ofV rfl (by (intro sc x hx; cases x <;> first | rfl | exact absurd rfl (hx _))) (fun sc x h => ?_) (fun sc X Ex x hX h => ?_) (fun _ _ _ _ _ h => by cases h)
  · obtain ⟨l, r, p, rfl, _⟩ := inv sc x h; rfl
  · obtain ⟨l, r, p, rfl, h1, h2, h3⟩ := inv sc x h
    exact de_idx hX.xg (ha.e sc X Ex l hX h1) (hb.e sc X Ex r hX h2) (sl_of h3)
theorem snd_slc (ha : Snd G k dc N sg Γ a) (hl : Snd G k dc N sg Γ lo) (hh : Snd G k dc N sg Γ hi) : Snd G k dc N sg Γ (.slc a lo hi) := by
  have inv : ∀ sc x, m N sg (.slc a lo hi) sc (.e x) = true → ∃ l p q z1 z2, x = .Subscript l (.Slice p q none z1) z2 ∧ m N sg a sc (.e l) = true ∧ m N sg lo sc (.oe p) = true ∧ m N sg hi sc (.oe q) = true := fun sc x h => by
    simp only [m] at h
    split at h
    · rename_i e
      injection e with e
      simp only [Bool.and_eq_true] at h
      obtain ⟨⟨h1, h2⟩, h3⟩ := h
      exact ⟨_, _, _, _, _, e, h1, h2, h3⟩
    · cases h
  refine Snd.ofV rfl (by (intro sc x hx; cases x <;> first | rfl | exact absurd rfl (hx _))) (fun sc x h => ?_) (fun sc X Ex x hX h => ?_) (fun _ _ _ _ _ h => by cases h)
  · obtain ⟨l, p, q, z1, z2, rfl, _⟩ := inv sc x h; rfl
  · obtain ⟨l, p, q, z1, z2, rfl, h1, h2, h3⟩ := inv sc x h
    exact de_slc hX.xg (ha.e sc X Ex l hX h1) (hl.oe sc X Ex p hX h2) (hh.oe sc X Ex q hX h3)
theorem snd_no : Snd G k dc N sg Γ .no := by
  refine Snd.ofO (fun sc x => rfl) (by (first | (intro sc X Ex l pos hX h; cases h; done) | (intro sc X Ex l hX h; cases h; done))) (by (first | (intro sc X Ex l pos hX h; cases h; done) | (intro sc X Ex l hX h; cases h; done))) (by (first | (intro sc X Ex l pos hX h; cases h; done) | (intro sc X Ex l hX h; cases h; done))) (by (first | (intro sc X Ex l pos hX h; cases h; done) | (intro sc X Ex l hX h; cases h; done))) (fun sc X Ex o hX h => ?_) (by (first | (intro sc X Ex l pos hX h; cases h; done) | (intro sc X Ex l hX h; cases h; done)))
  simp only [m] at h
  split at h
  · rename_i e
    injection e with e
    subst e
    exact do_none
  · cases h
theorem snd_so (ha : Snd G k dc N sg Γ a) : Snd G k dc N sg Γ (.so a) := by
  refine Snd.ofO (fun sc x => rfl) (by (first | (intro sc X Ex l pos hX h; cases h; done) | (intro sc X Ex l hX h; cases h; done))) (by (first | (intro sc X Ex l pos hX h; cases h; done) | (intro sc X Ex l hX h; cases h; done))) (by (first | (intro sc X Ex l pos hX h; cases h; done) | (intro sc X Ex l hX h; cases h; done))) (by (first | (intro sc X Ex l pos hX h; cases h; done) | (intro sc X Ex l hX h; cases h; done))) (fun sc X Ex o hX h => ?_) (by (first | (intro sc X Ex l pos hX h; cases h; done) | (intro sc X Ex l hX h; cases h; done)))
  simp only [m] at h
  split at h
  · rename_i e
    injection e with e
    subst e
    exact do_some (ha.e sc X Ex _ hX h)
  · cases h
theorem snd_nil : Snd G k dc N sg Γ .nil := by
  refine Snd.ofO (fun sc x => rfl) (fun sc X Ex l hX h => ?_) (by (first | (intro sc X Ex l pos hX h; cases h; done) | (intro sc X Ex l hX h; cases h; done))) (by (first | (intro sc X Ex l pos hX h; cases h; done) | (intro sc X Ex l hX h; cases h; done))) (by (first | (intro sc X Ex l pos hX h; cases h; done) | (intro sc X Ex l hX h; cases h; done))) (by (first | (intro sc X Ex l pos hX h; cases h; done) | (intro sc X Ex l hX h; cases h; done))) (by (first | (intro sc X Ex l pos hX h; cases h; done) | (intro sc X Ex l hX h; cases h; done)))
  simp only [m] at h
  split at h
  · rename_i e
    injection e with e
    subst e
    exact dl_nil
  · cases h
theorem snd_cons (ha : Snd G k dc N sg Γ a) (hr : Snd G k dc N sg Γ r) : Snd G k dc N sg Γ (.cons a r) := by
  refine Snd.ofO (fun sc x => rfl) (fun sc X Ex l hX h => ?_) (by (first | (intro sc X Ex l pos hX h; cases h; done) | (intro sc X Ex l hX h; cases h; done))) (by (first | (intro sc X Ex l pos hX h; cases h; done) | (intro sc X Ex l hX h; cases h; done))) (by (first | (intro sc X Ex l pos hX h; cases h; done) | (intro sc X Ex l hX h; cases h; done))) (by (first | (intro sc X Ex l pos hX h; cases h; done) | (intro sc X Ex l hX h; cases h; done))) (by (first | (intro sc X Ex l pos hX h; cases h; done) | (intro sc X Ex l hX h; cases h; done)))
  simp only [m] at h
  split at h
  · rename_i e
    injection e with e
    subst e
    simp only [Bool.and_eq_true] at h
    obtain ⟨⟨h1, h2⟩, h3⟩ := h
    exact dl_cons (ha.e sc X Ex _ hX h1) (hr.es sc X Ex _ hX h3) (star_of h2)
  · cases h
theorem snd_tup (hr : Snd G k dc N sg Γ r) : Snd G k dc N sg Γ (.tup r) := by
  have inv : ∀ sc x, m N sg (.tup r) sc (.e x) = true → ∃ l j p, x = .Tuple l j p ∧ m N sg r sc (.es l) = true := fun sc x h => by
    simp only [m] at h
    split at h
    · rename_i e
      injection e with e
      exact ⟨_, _, _, e, h⟩
    · cases h
  refine Snd.ofV rfl (by (intro sc x hx; cases x <;> first | rfl | exact absurd rfl (hx _))) (fun sc x h => ?_) (fun sc X Ex x hX h => ?_) (fun _ _ _ _ _ h => by cases h)
  · obtain ⟨l, j, p, rfl, _⟩ := inv sc x h; rfl
  · obtain ⟨l, j, p, rfl, h1⟩ := inv sc x h
    exact de_tup (hr.es sc X Ex l hX h1)
theorem snd_lst (hr : Snd G k dc N sg Γ r) : Snd G k dc N sg Γ (.lst r) := by
  have inv : ∀ sc x, m N sg (.lst r) sc (.e x) = true → ∃ l p, x = .List l p ∧ m N sg r sc (.es l) = true := fun sc x h => by
    simp only [m] at h
    split at h
    · rename_i e
      injection e with e
      exact ⟨_, _, e, h⟩
    · cases h
  refine Snd.ofV rfl (by (intro sc x hx; cases x <;> first | rfl | exact absurd rfl (hx _))) (fun sc x h => ?_) (fun sc X Ex x hX h => ?_) (fun sc X Ex x hX _ h => ?_)
  · obtain ⟨l, p, rfl, _⟩ := inv sc x h; rfl
  · obtain ⟨l, p, rfl, h1⟩ := inv sc x h
    exact de_lst (hr.es sc X Ex l hX h1)
  · obtain ⟨l, p, rfl, h1⟩ := inv sc x h
    exact dx_lst (hr.es sc X Ex l hX h1)
theorem snd_dic (b : Bool) : Snd G k dc N sg Γ (.dic b) := by
  have inv : ∀ sc x, m N sg (.dic b) sc (.e x) = true → ∃ p, x = .Dict [] [] p := fun sc x h => by
    simp only [m] at h
    split at h
    · rename_i e
      injection e with e
      exact ⟨_, e⟩
    · cases h
  refine Snd.ofV rfl (by (intro sc x hx; cases x <;> first | rfl | exact absurd rfl (hx _))) (fun sc x h => ?_) (fun sc X Ex x hX h => ?_) (fun sc X Ex x hX _ h => ?_)
  · obtain ⟨p, rfl⟩ := inv sc x h; rfl
  · obtain ⟨p, rfl⟩ := inv sc x h
    cases b with
    | false => exact de_dicK
    | true => exact de_dicT
  · obtain ⟨p, rfl⟩ := inv sc x h
    cases b with
    | false => exact dx_dicK
    | true => exact dx_dicT
theorem any_nil {pos : Pos} {env : Env} : ∀ {l : List Expr}, l.all nst = true → (backTo pos (starEach l env)).any (·.1) = false
  | [], _ => rfl
  | e :: l, h => by
    simp only [List.all_cons, Bool.and_eq_true] at h
    rw [star_of h.1]
    show (false || (backTo pos (starEach l env)).any (·.1)) = false
    rw [any_nil h.2]; rfl
theorem es_nst : ∀ (r : E) (sc : Scope) (l : List Expr), m N sg r sc (.es l) = true → l.all nst = true ∧ l.length = cntE r ∧ ∀ (ρ : Sto) (ω : Rw) ps ω', (den G Γ sg r).l ρ ω = .ok ps ω' → ps.length = cntE r := by
  intro r
  induction r with
  | nil =>
    intro sc l h
    simp only [m] at h
    split at h
    · rename_i e
      injection e with e
      subst e
      exact ⟨rfl, rfl, fun ρ ω ps ω' q => by simp only [den, dNil, ret, R.ok.injEq] at q; rw [← q.1]; rfl⟩
    · cases h
  | cons a r _ ih =>
    intro sc l h
    simp only [m] at h
    split at h
    · rename_i e
      injection e with e
      subst e
      simp only [Bool.and_eq_true] at h
      obtain ⟨⟨h1, h2⟩, h3⟩ := h
      obtain ⟨i1, i2, i3⟩ := ih sc _ h3
      refine ⟨by simp [h2, i1], by simp [i2, cntE], fun ρ ω ps ω' q => ?_⟩
      simp only [den, dCons, bnd] at q
      split at q
      · split at q
        · rename_i e2
          simp only [ret, R.ok.injEq] at q
          rw [← q.1, List.length_cons, i3 _ _ _ _ e2]; rfl
        · cases q
        · cases q
      · cases q
      · cases q
    · cases h
  | _ => intro sc l h; cases h
theorem call_n {F : Fn} {dl : Sto → M (List PV)} {n : Nat} {nm : Str} (h : ∀ ρ ω ps ω', dl ρ ω = .ok ps ω' → ps.length = n) : dCallN F dl = dCall ⟨nm, n, F⟩ dl := by
  funext ρ ω
  unfold dCallN dCall bnd
  cases e : dl ρ ω with
  | bad => rfl
  | exn t p w => rfl
  | ok ps w =>
    show F ps w = callF ⟨nm, n, F⟩ ps w
    unfold callF
    rw [if_pos (h ρ ω ps w e)]
theorem snd_call (H : HX G k dc N sg Γ) (f : Nat) (hr : Snd G k dc N sg Γ r) : Snd G k dc N sg Γ (.call f r) := by
  have inv : ∀ sc x, m N sg (.call f r) sc (.e x) = true → ∃ y p l p2, x = .Call (.Name y p) l [] p2 ∧ sg.fn[f]? = some (y, l.length) ∧ glB sc y = true ∧ dbgB y = true ∧ m N sg r sc (.es l) = true := fun sc x h => by
    simp only [m] at h
    split at h
    · rename_i e
      injection e with e
      simp only [Bool.and_eq_true, beq_iff_eq] at h
      obtain ⟨⟨⟨h1, h2⟩, h3⟩, h4⟩ := h
      exact ⟨_, _, _, _, e, h1, h2, h3, h4⟩
    · cases h
  refine Snd.ofV rfl (by (intro sc x hx; cases x <;> first | rfl | exact absurd rfl (hx _))) (fun sc x h => ?_) (fun sc X Ex x hX h => ?_) (fun _ _ _ _ _ h => by cases h)
  · obtain ⟨y, p, l, p2, rfl, _⟩ := inv sc x h; rfl
  · obtain ⟨y, p, l, p2, rfl, h1, h2, h3, h4⟩ := inv sc x h
    obtain ⟨i1, i2, i3⟩ := es_nst (G := G) (Γ := Γ) r sc l h4
    have hF := H.fn f y l.length h1
    rw [call_n (nm := y) (n := l.length) (by rw [i2]; exact i3)]
    cases l with
    | nil =>
      have hl := hr.es sc X Ex [] hX h4
      have e0 : (den G Γ sg r).S = [] ∧ (den G Γ sg r).l = dNil := by
        revert h4
        clear hl i3 i2
        cases r <;> intro h4 <;> first | exact ⟨rfl, rfl⟩ | cases h4
      rw [e0.1, e0.2]
      exact de_call0 hX.xg hF hX.gu hX.pass (gl_of hX.sc h2) (dbg_of h3)
    | cons e es =>
      simp only [List.all_cons, Bool.and_eq_true] at i1
      exact de_call hX.xg hF hX.gu hX.pass (gl_of hX.sc h2) (dbg_of h3) (hr.es sc X Ex _ hX h4) (star_of i1.1) (any_nil i1.2)
theorem XG.lower {k j : Nat} {X : Cx} (h : XG G k X) (hj : j ≤ k) : XG G j X := ⟨h.prog, h.w, h.K, h.mg, h.base, h.calm, h.nd, h.room.mono hj⟩
theorem snd_make (H : HX G k dc N sg Γ) (f t : Nat) (hr : Snd G k dc N sg Γ r) : Snd G k dc N sg Γ (.make f t r) := by
  have inv : ∀ sc x, m N sg (.make f t r) sc (.e x) = true → ∃ y p e es p2, x = .Call (.Name y p) (e :: es) [] p2 ∧ sg.mks[f]? = some (y, t, es.length + 1) ∧ glB sc y = true ∧ dbgB y = true ∧ m N sg r sc (.es (e :: es)) = true := fun sc x h => by
    simp only [m] at h
    split at h
    · rename_i e
      injection e with e
      simp only [Bool.and_eq_true, beq_iff_eq] at h
      obtain ⟨⟨⟨h1, h2⟩, h3⟩, h4⟩ := h
      exact ⟨_, _, _, _, _, e, h1, h2, h3, h4⟩
    · cases h
  refine Snd.ofV rfl (by (intro sc x hx; cases x <;> first | rfl | exact absurd rfl (hx _))) (fun sc x h => ?_) (fun sc X Ex x hX h => ?_) (fun _ _ _ _ _ h => by cases h)
  · obtain ⟨y, p, e, es, p2, rfl, _⟩ := inv sc x h; rfl
  · obtain ⟨y, p, e, es, p2, rfl, h1, h2, h3, h4⟩ := inv sc x h
    obtain ⟨i1, i2, i3⟩ := es_nst (G := G) (Γ := Γ) r sc _ h4
    obtain ⟨k', rfl, hF⟩ := H.mks f y t _ h1
    rw [call_n (nm := y) (n := es.length + 1) (by rw [← List.length_cons (a := e), i2]; exact i3)]
    simp only [List.all_cons, Bool.and_eq_true] at i1
    exact de_make hX.xg hF hX.pass (gl_of hX.sc h2) (dbg_of h3) (hr.es sc X Ex _ hX h4) (star_of i1.1) (any_nil i1.2)
theorem meth_n {F : Fn} {t : Nat} {da : Sto → M PV} {dl : Sto → M (List PV)} {n : Nat} {nm : Str} (h : ∀ ρ ω ps ω', dl ρ ω = .ok ps ω' → ps.length + 1 = n) : dMethN F t da dl = dMeth ⟨nm, n, F⟩ t da dl := by
  funext ρ ω
  unfold dMethN dMeth bnd
  cases e : da ρ ω with
  | bad => rfl
  | exn t p w => rfl
  | ok o w =>
    cases o <;> try rfl
    rename_i t' fs
    show (if t' = t then bnd (dl ρ) fun ps => F (.obj t' fs :: ps) else fun _ => .bad) w = (if t' = t then bnd (dl ρ) fun ps => callF ⟨nm, n, F⟩ (.obj t' fs :: ps) else fun _ => .bad) w
    split
    · unfold bnd
      cases e2 : dl ρ w with
      | bad => rfl
      | exn t p w => rfl
      | ok ps w2 =>
        show F (.obj t' fs :: ps) w2 = callF ⟨nm, n, F⟩ (.obj t' fs :: ps) w2
        unfold callF
        rw [if_pos (by rw [List.length_cons]; exact h _ _ _ _ e2)]
    · rfl
theorem all_nst {pos : Pos} {env : Env} : ∀ {l : List Expr}, l.all nst = true → (backTo pos (starEach l env)).all (fun x => !x.1) = true
  | [], _ => rfl
  | e :: l, h => by
    simp only [List.all_cons, Bool.and_eq_true] at h
    rw [star_of h.1]
    show (true && (backTo pos (starEach l env)).all (fun x => !x.1)) = true
    rw [all_nst h.2]; rfl
theorem meth_form {o e : Expr} {es : List Expr} {y : Str} {p p2 : Pos} {env : Env} (ho : nsup o = true) (ha : (e :: es).all nst = true) (hl : (p.endLine == p2.line) = true) (hn : es.length < 20) :
    eval (.Call (.Attribute o y p) (e :: es) [] p2) env = (do
      let ov ← eval o env
      standAt p.atName
      let (f, first) ← holding [ov] (getMethod ov y (do return (← importBound o env).getD true))
      callWith p2 f first (backTo p2 (starEach (e :: es) env)) (backToKw p2 (keywordEach [] env))) := by
  rw [arm_eval_Call, sup_of ho]
  have hform : methodCallForm ((e :: es).length + ([] : List Keyword).length) (backTo p2 (starEach (e :: es) env)) (backToKw p2 (keywordEach [] env)) = true := by
    unfold methodCallForm
    rw [all_nst ha]
    simp [keywordEach, backToKw]
    omega
  unfold methodCall
  rw [hform]
  unfold calleeOf methodCallPos
  simp [hl]
theorem snd_meth (H : HX G k dc N sg Γ) (f t : Nat) (ha : Snd G k dc N sg Γ a) (hr : Snd G k dc N sg Γ r) : Snd G k dc N sg Γ (.meth f t a r) := by
  have inv : ∀ sc x, m N sg (.meth f t a r) sc (.e x) = true → ∃ o y p e es p2, x = .Call (.Attribute o y p) (e :: es) [] p2 ∧ sg.me[f]? = some (y, t, es.length + 2) ∧ (p.endLine == p2.line) = true ∧ es.length < 20 ∧ nsup o = true ∧ m N sg a sc (.e o) = true ∧ m N sg r sc (.es (e :: es)) = true := fun sc x h => by
    simp only [m] at h
    split at h
    · rename_i e
      injection e with e
      simp only [Bool.and_eq_true, decide_eq_true_eq] at h
      obtain ⟨⟨⟨⟨⟨h1, h5⟩, h6⟩, h2⟩, h3⟩, h4⟩ := h
      exact ⟨_, _, _, _, _, _, e, by simpa using h1, h5, h6, h2, h3, h4⟩
    · cases h
  refine Snd.ofV rfl (by (intro sc x hx; cases x <;> first | rfl | exact absurd rfl (hx _))) (fun sc x h => ?_) (fun sc X Ex x hX h => ?_) (fun _ _ _ _ _ h => by cases h)
  · obtain ⟨o, y, p, e, es, p2, rfl, _⟩ := inv sc x h; rfl
  · obtain ⟨o, y, p, e, es, p2, rfl, h1, h5, h6, h2, h3, h4⟩ := inv sc x h
    obtain ⟨i1, i2, i3⟩ := es_nst (G := G) (Γ := Γ) r sc _ h4
    have hF := H.me f y t _ h1
    rw [meth_n (nm := y) (n := es.length + 2) (fun ρ ω ps ω' q => by have := i3 ρ ω ps ω' q; rw [← i2, List.length_cons] at this; omega)]
    have i1' := i1
    simp only [List.all_cons, Bool.and_eq_true] at i1
    exact de_meth hX.xg hF hX.pass (ha.e sc X Ex o hX h3) (hr.es sc X Ex _ hX h4) (star_of i1.1) (any_nil i1.2) (meth_form h2 i1' h5 h6)
theorem snd_fld (H : HX G k dc N sg Γ) (f : Str) (ha : Snd G k dc N sg Γ a) : Snd G k dc N sg Γ (.fld f a) := by
  have inv : ∀ sc x, m N sg (.fld f a) sc (.e x) = true → ∃ o p, x = .Attribute o f p ∧ nsup o = true ∧ m N sg a sc (.e o) = true := fun sc x h => by
    simp only [m] at h
    split at h
    · rename_i e
      injection e with e
      simp only [Bool.and_eq_true, beq_iff_eq] at h
      obtain ⟨⟨h1, h2⟩, h3⟩ := h
      subst h1
      exact ⟨_, _, e, h2, h3⟩
    · cases h
  refine Snd.ofV rfl (by (intro sc x hx; cases x <;> first | rfl | exact absurd rfl (hx _))) (fun sc x h => ?_) (fun sc X Ex x hX h => ?_) (fun _ _ _ _ _ h => by cases h)
  · obtain ⟨o, p, rfl, _⟩ := inv sc x h; rfl
  · obtain ⟨o, p, rfl, h1, h2⟩ := inv sc x h
    exact de_fld hX.xg H.cls (ha.e sc X Ex o hX h2) (sup_of h1)
theorem boot_bi : ∀ b : Bi, bootBuiltins (biN b) = some (match b with
  | .len => .builtin "len" | .list => .type "list" | .tuple => .type "tuple" | .sum => .builtin "sum" | .max => .builtin "max" | .min => .builtin "min" | .all => .builtin "all" | .any => .builtin "any" | .int => .type "int" | .range => .type "range" | .sorted => .builtin "sorted" | .dict => .type "dict" | .repr => .builtin "repr") := by
  intro b
  cases b <;> decide +kernel
theorem bi_plain : ∀ b : Bi, biN b ≠ "__name__" ∧ (biN b == ("__debug__" : Str)) = false ∧ biN b ∈ freeN := by
  intro b
  cases b <;> decide +kernel
theorem snd_bi (H : HX G k dc N sg Γ) (b : Bi) (hr : Snd G k dc N sg Γ r) : Snd G k dc N sg Γ (.bi b r) := by
  have inv : ∀ sc x, m N sg (.bi b r) sc (.e x) = true → ∃ p e es p2, x = .Call (.Name (biN b) p) (e :: es) [] p2 ∧ (sg.rp || !(b == .repr)) = true ∧ glB sc (biN b) = true ∧ m N sg r sc (.es (e :: es)) = true := fun sc x h => by
    simp only [m] at h
    split at h
    · rename_i e
      injection e with e
      simp only [Bool.and_eq_true] at h
      obtain ⟨⟨⟨h1, h0⟩, h2⟩, h3⟩ := h
      simp only [beq_iff_eq] at h1
      subst h1
      exact ⟨_, _, _, _, e, h0, h2, h3⟩
    · cases h
  obtain ⟨n1, n2, n3⟩ := bi_plain b
  have hb := boot_bi b
  refine Snd.ofV rfl (by (intro sc x hx; cases x <;> first | rfl | exact absurd rfl (hx _))) (fun sc x h => ?_) (fun sc X Ex x hX h => ?_) (fun sc X Ex x hX hf h => ?_)
  · obtain ⟨p, e, es, p2, rfl, _⟩ := inv sc x h; rfl
  · obtain ⟨p, e, es, p2, rfl, h0, h1, h2⟩ := inv sc x h
    obtain ⟨i1, _, _⟩ := es_nst (G := G) (Γ := Γ) r sc _ h2
    simp only [List.all_cons, Bool.and_eq_true] at i1
    have hg := gl_of hX.sc h1
    have hm : X.mg (biN b) = none := hX.xg.mg ▸ H.fre _ n3
    have ha := hr.es sc X Ex _ hX h2
    refine de_args ?_
    cases b with
    | len => exact pe_callB (cr_lenP hX.xg) hg hm hb ha n1 n2 (star_of i1.1) (any_nil i1.2)
    | list => exact pe_callTy (cr_listP hX.xg) hg hm hb ha n1 n2 (star_of i1.1) (any_nil i1.2)
    | tuple => exact pe_callTy (cr_tupleP hX.xg) hg hm hb ha n1 n2 (star_of i1.1) (any_nil i1.2)
    | sum => exact pe_callB (cr_sumP hX.xg) hg hm hb ha n1 n2 (star_of i1.1) (any_nil i1.2)
    | max => exact pe_callB (cr_maxP hX.xg) hg hm hb ha n1 n2 (star_of i1.1) (any_nil i1.2)
    | min => exact pe_callB (cr_minP hX.xg) hg hm hb ha n1 n2 (star_of i1.1) (any_nil i1.2)
    | all => exact pe_callB (cr_allP hX.xg) hg hm hb ha n1 n2 (star_of i1.1) (any_nil i1.2)
    | any => exact pe_callB (cr_anyP hX.xg) hg hm hb ha n1 n2 (star_of i1.1) (any_nil i1.2)
    | int => exact pe_callTy cr_intP hg hm hb ha n1 n2 (star_of i1.1) (any_nil i1.2)
    | range => exact pe_callTy cr_rangeP hg hm hb ha n1 n2 (star_of i1.1) (any_nil i1.2)
    | sorted => exact pe_callB (cr_sortedP' hX.xg) hg hm hb ha n1 n2 (star_of i1.1) (any_nil i1.2)
    | dict => exact pe_callTy (cr_dictP hX.xg) hg hm hb ha n1 n2 (star_of i1.1) (any_nil i1.2)
    | repr => exact pe_callB (cr_reprP hX.xg (hX.gu (H.rp (by simpa using h0)))) hg hm hb ha n1 n2 (star_of i1.1) (any_nil i1.2)
  · obtain ⟨p, e, es, p2, rfl, h0, h1, h2⟩ := inv sc x h
    obtain ⟨i1, _, _⟩ := es_nst (G := G) (Γ := Γ) r sc _ h2
    simp only [List.all_cons, Bool.and_eq_true] at i1
    have hg := gl_of hX.sc h1
    have hm : X.mg (biN b) = none := hX.xg.mg ▸ H.fre _ n3
    have ha := hr.es sc X Ex _ hX h2
    refine dx_args ?_
    cases b with
    | list => exact pe_callTy (cr_listN hX.xg) hg hm hb ha n1 n2 (star_of i1.1) (any_nil i1.2)
    | dict => exact pe_callTy (cr_dictN hX.xg) hg hm hb ha n1 n2 (star_of i1.1) (any_nil i1.2)
    | _ => cases hf
end
end GP
-- GZ
set_option maxRecDepth 100000
set_option maxHeartbeats 4000000
namespace GP
open PySem PySem.Spec PyProof.Rows L2
theorem pdL_at : ∀ (ps : List PV) (i : Nat), (pdL ps)[i]? = (ps[i]?).map pd
  | [], i => by simp [pdL]
  | p :: ps, 0 => by simp [pdL]
  | p :: ps, i + 1 => by simp only [pdL, List.getElem?_cons_succ]; exact pdL_at ps i
theorem idxE_ok {p : PV} : ∀ {ps : List PV} {j : Nat}, idxE p ps = some j → ∃ q, ps[j]? = some q ∧ PyData.eqv (pd q) (pd p) = true ∧ ∀ (i : Nat) z, i < j → ps[i]? = some z → PyData.eqv (pd z) (pd p) = false
  | [], j, h => by cases h
  | q :: ps, j, h => by
    simp only [idxE] at h
    split at h
    · rename_i c
      cases h
      exact ⟨q, rfl, c, fun i z hi => by omega⟩
    · rename_i c
      obtain ⟨j', h1, rfl⟩ := Option.map_eq_some_iff.mp h
      obtain ⟨z, h2, h3, h4⟩ := idxE_ok h1
      refine ⟨z, by simpa using h2, h3, fun i y hi hy => ?_⟩
      cases i with
      | zero => simp at hy; subst hy; simpa using c
      | succ i => exact h4 i y (by omega) (by simpa using hy)
section
variable {X : Cx} {G : Pg} {k : Nat} {Ex : XK} {o e : Expr} {S S' : List Nat} {da : Sto → M PV} {dl : Sto → M (List PV)} {pos apos cpos : Pos}
theorem de_index (hX : XG G k X) (ho : DE X G Ex o S da) (ha : DL X G Ex [e] S' dl) (b : BmC X o e "index" apos cpos) :
    DE X G Ex (.Call (.Attribute o "index" apos) [e] [] cpos) (S ++ S') (dBm isLst indexP da dl) := by
  refine PE.imp (pe_bm PySem.F.plainAttrs_list PySem.F.slot_list_index PySem.F.type_list_index (mt_indexD (Room.u65 hX.room)) ho ha b.base b.few b.line b.star rfl) fun σ H Q ⟨ro, V0, H0, ρ, ω, I, h⟩ => ?_
  refine ⟨ro, V0, H0, ρ, ω, I, post_bnd (by simp +contextual) h fun p ω1 H1 x e1 k1 I1 c h1 => ?_⟩
  by_cases hc : isLst p = true
  rotate_left
  · rw [if_neg hc] at h1; exact h1.elim
  rw [if_pos hc] at h1
  cases p <;> simp only [isLst] at hc <;> (try cases hc)
  rename_i ps
  have c1 : Rep G ro (vw ro V0 H0 ρ σ H1 S) x (.lst ps) := c
  have c0 := c1
  simp only [Rep] at c0
  obtain ⟨a, xs, rfl, q1, q2⟩ := c0
  have s1 := I1.vw_le _ _ q1 (nt_lst _)
  refine ⟨.inl ⟨rfl, xs, SqL.of s1⟩, ro, V0, H0, ρ, ω1, I1, post_bnd (by simp +contextual) h1 fun qs ω2 H2 ys e2 k2 I2 c2 h2 => ?_⟩
  obtain ⟨z, ez, h3⟩ := post_opt h2
  unfold indexP at ez
  split at ez
  · rename_i ps' p' heq
    cases heq
    split at ez
    · rename_i hk
      simp only [Bool.and_eq_true] at hk
      obtain ⟨j, ej, rfl⟩ := Option.map_eq_some_iff.mp ez
      obtain ⟨z, z1, z2, z3⟩ := idxE_ok ej
      obtain ⟨y, rfl, ry⟩ := rep1 c2
      have hd : Rep G ro H2 (.ref a) (.lst ps) := Rep.mono ((vw_grow k2).trans I2.vw_le) _ c1
      have h60 : okn 60 (.lst ps) = true := by
        simp only [okn, Bool.and_eq_true]
        exact ⟨rfl, oknL_mono (by decide) ps hk.2⟩
      have h60' : okn 60 p' = true := okn_mono (by decide) p' hk.1
      have D1 := Rep.dp (G := G) 60 (.lst ps) h60 hd
      have D2 := Rep.dp (G := G) 60 p' h60' (Rep.mono I2.vw_le _ ry)
      simp only [pd] at D1
      refine ⟨a, y, pd p', pdL ps, j, pd z, rfl, rfl, hX.K ▸ D1, hX.K ▸ D2, okn_shaped h60, okn_shaped h60', by rw [pdL_at, z1]; rfl, z2, fun i w hi hw => ?_, (post_res I2 h3).flat rfl⟩
      rw [pdL_at] at hw
      obtain ⟨w', w1, rfl⟩ := Option.map_eq_some_iff.mp hw
      exact z3 i w' hi w1
    · cases ez
  · cases ez
end
section
variable {G : Pg} {k : Nat} {dc : Dc} {N : List Str} {sg : Sg} {Γ : Gam} {a b c r : E}
theorem bmc_of {X : Cx} {o e : Expr} {y : Str} {p p2 : Pos} (ho : nsup o = true) (he : nst e = true) (hl : (p.endLine == p2.line) = true) : BmC X o e y p p2 := by
  refine ⟨sup_of ho, ?_, hl, star_of he⟩
  rw [star_of he]
  rfl
theorem snd_bm (b : Bm) (ha : Snd G k dc N sg Γ a) (hr : Snd G k dc N sg Γ r) : Snd G k dc N sg Γ (.bm b a r) := by
  have inv : ∀ sc x, m N sg (.bm b a r) sc (.e x) = true → ∃ o p l p2, x = .Call (.Attribute o (bmN b) p) [l] [] p2 ∧ nsup o = true ∧ (p.endLine == p2.line) = true ∧ m N sg a sc (.e o) = true ∧ m N sg r sc (.es [l]) = true := fun sc x h => by
    simp only [m] at h
    split at h
    · rename_i e
      injection e with e
      simp only [Bool.and_eq_true] at h
      obtain ⟨⟨⟨⟨h1, h2⟩, h3⟩, h4⟩, h5⟩ := h
      simp only [beq_iff_eq] at h1
      subst h1
      exact ⟨_, _, _, _, e, h2, h3, h4, h5⟩
    · cases h
  refine Snd.ofV rfl (by (intro sc x hx; cases x <;> first | rfl | exact absurd rfl (hx _))) (fun sc x h => ?_) (fun sc X Ex x hX h => ?_) (fun _ _ _ _ _ h => by cases h)
  · obtain ⟨o, p, l, p2, rfl, _⟩ := inv sc x h; rfl
  · obtain ⟨o, p, l, p2, rfl, h1, h2, h3, h4⟩ := inv sc x h
    obtain ⟨i1, _, _⟩ := es_nst (G := G) (Γ := Γ) r sc _ h4
    simp only [List.all_cons, Bool.and_eq_true] at i1
    cases b with
    | index => exact de_index hX.xg (ha.e sc X Ex o hX h3) (hr.es sc X Ex _ hX h4) (bmc_of h1 i1.1 h2)
theorem bt_boot : ∀ n ∈ bNames, bootBuiltins (Str.ofString n) = some (.type n) ∧ Str.ofString n ≠ ("__name__" : Str) ∧ (Str.ofString n == ("__debug__" : Str)) = false ∧ Str.ofString n ∈ freeN := by decide +kernel
theorem pcn_of (H : HX G k dc N sg Γ) {sc : Scope} {X : Cx} {Ex : XK} (hX : EX G k dc N sc X Ex) : ∀ {c : Cn} {x : Expr}, cnM sg sc c x = true → PCn X G x c ∧ nst x = true
  | .bt n, .Name x p, h => by
    simp only [cnM, Bool.and_eq_true, beq_iff_eq] at h
    obtain ⟨⟨h1, rfl⟩, h3⟩ := h
    obtain ⟨b1, b2, b3, b4⟩ := bt_boot n (by simpa using h1)
    exact ⟨pe_bltn (gl_of hX.sc h3) (hX.xg.mg ▸ H.fre _ b4) b1 (by rfl) b2 b3, rfl⟩
  | .own t, .Name x p, h => by
    simp only [cnM, Bool.and_eq_true] at h
    obtain ⟨⟨h1, h2⟩, h3⟩ := h
    exact ⟨pe_glob (gl_of hX.sc h2) (hX.xg.mg ▸ H.cl x t h1) (by rfl) (dbg_of h3), rfl⟩
theorem snd_isi (H : HX G k dc N sg Γ) (c : Cn) (ha : Snd G k dc N sg Γ a) : Snd G k dc N sg Γ (.isi c a) := by
  have inv : ∀ sc x, m N sg (.isi c a) sc (.e x) = true → ∃ p l z p2, x = .Call (.Name "isinstance" p) [l, z] [] p2 ∧ glB sc "isinstance" = true ∧ m N sg a sc (.e l) = true ∧ nst l = true ∧ cnM sg sc c z = true := fun sc x h => by
    simp only [m] at h
    split at h
    · rename_i e
      injection e with e
      simp only [Bool.and_eq_true] at h
      obtain ⟨⟨⟨⟨h1, h2⟩, h3⟩, h4⟩, h5⟩ := h
      simp only [beq_iff_eq] at h1
      subst h1
      exact ⟨_, _, _, _, e, h2, h3, h4, h5⟩
    · cases h
  refine Snd.ofV rfl (by (intro sc x hx; cases x <;> first | rfl | exact absurd rfl (hx _))) (fun sc x h => ?_) (fun sc X Ex x hX h => ?_) (fun _ _ _ _ _ h => by cases h)
  · obtain ⟨p, l, z, p2, rfl, _⟩ := inv sc x h; rfl
  · obtain ⟨p, l, z, p2, rfl, h1, h2, h3, h4⟩ := inv sc x h
    obtain ⟨c1, c2⟩ := pcn_of H hX h4
    exact de_isi hX.xg H.isi (gl_of hX.sc h1) (hX.xg.mg ▸ H.fre _ (by decide +kernel)) (ha.e sc X Ex l hX h2) c1 (star_of h3) (star_of c2) (any_nil (by simp [c2]))
theorem snd_isi2 (H : HX G k dc N sg Γ) (c c2 : Cn) (ha : Snd G k dc N sg Γ a) : Snd G k dc N sg Γ (.isi2 c c2 a) := by
  have inv : ∀ sc x, m N sg (.isi2 c c2 a) sc (.e x) = true → ∃ p l z z2 q1 q2 p2, x = .Call (.Name "isinstance" p) [l, .Tuple [z, z2] q1 q2] [] p2 ∧ glB sc "isinstance" = true ∧ m N sg a sc (.e l) = true ∧ nst l = true ∧ cnM sg sc c z = true ∧ cnM sg sc c2 z2 = true := fun sc x h => by
    simp only [m] at h
    split at h
    · rename_i e
      injection e with e
      simp only [Bool.and_eq_true] at h
      obtain ⟨⟨⟨⟨⟨h1, h2⟩, h3⟩, h4⟩, h5⟩, h6⟩ := h
      simp only [beq_iff_eq] at h1
      subst h1
      exact ⟨_, _, _, _, _, _, _, e, h2, h3, h4, h5, h6⟩
    · cases h
  refine Snd.ofV rfl (by (intro sc x hx; cases x <;> first | rfl | exact absurd rfl (hx _))) (fun sc x h => ?_) (fun sc X Ex x hX h => ?_) (fun _ _ _ _ _ h => by cases h)
  · obtain ⟨p, l, z, z2, q1, q2, p2, rfl, _⟩ := inv sc x h; rfl
  · obtain ⟨p, l, z, z2, q1, q2, p2, rfl, h1, h2, h3, h4, h5⟩ := inv sc x h
    obtain ⟨c1, d1⟩ := pcn_of H hX h4
    obtain ⟨c2, d2⟩ := pcn_of H hX h5
    exact de_isi2 hX.xg H.isi (gl_of hX.sc h1) (hX.xg.mg ▸ H.fre _ (by decide +kernel)) (ha.e sc X Ex l hX h2) c1 c2 (star_of h3) (star_of d1) (star_of d2)
theorem snd_yes : Snd G k dc N sg Γ .yes := by
  refine Snd.ofO (fun sc x => rfl) (by (first | (intro sc X Ex l pos hX h; cases h; done) | (intro sc X Ex l hX h; cases h; done))) (by (first | (intro sc X Ex l pos hX h; cases h; done) | (intro sc X Ex l hX h; cases h; done))) (by (first | (intro sc X Ex l pos hX h; cases h; done) | (intro sc X Ex l hX h; cases h; done))) (by (first | (intro sc X Ex l pos hX h; cases h; done) | (intro sc X Ex l hX h; cases h; done))) (by (first | (intro sc X Ex l pos hX h; cases h; done) | (intro sc X Ex l hX h; cases h; done))) (fun sc X Ex l hX h => ?_)
  simp only [m] at h
  split at h
  · rename_i e
    injection e with e
    subst e
    refine ⟨fun pins s σ H Q I q => pts_nil.run pins s σ H Q I ?_⟩
    obtain ⟨ro, V0, H0, ρ, ω, J, q⟩ := q
    exact post_ret (C := CB) (x := true) J q rfl
  · cases h
theorem snd_tst (ha : Snd G k dc N sg Γ a) : Snd G k dc N sg Γ (.tst a) := by
  refine Snd.ofO (fun sc x => rfl) (by (first | (intro sc X Ex l pos hX h; cases h; done) | (intro sc X Ex l hX h; cases h; done))) (by (first | (intro sc X Ex l pos hX h; cases h; done) | (intro sc X Ex l hX h; cases h; done))) (by (first | (intro sc X Ex l pos hX h; cases h; done) | (intro sc X Ex l hX h; cases h; done))) (by (first | (intro sc X Ex l pos hX h; cases h; done) | (intro sc X Ex l hX h; cases h; done))) (by (first | (intro sc X Ex l pos hX h; cases h; done) | (intro sc X Ex l hX h; cases h; done))) (fun sc X Ex l hX h => ?_)
  simp only [m] at h
  split at h
  · rename_i e
    injection e with e
    subst e
    simp only [Bool.and_eq_true] at h
    exact pts_one (ha.t sc X Ex _ hX h.1 h.2)
  · cases h
theorem snd_sq (ha : Snd G k dc N sg Γ a) : Snd G k dc N sg Γ (.sq a) :=
  Snd.ofO (fun sc x => rfl) (by (first | (intro sc X Ex l pos hX h; cases h; done) | (intro sc X Ex l hX h; cases h; done))) (by (first | (intro sc X Ex l pos hX h; cases h; done) | (intro sc X Ex l hX h; cases h; done))) (by (first | (intro sc X Ex l pos hX h; cases h; done) | (intro sc X Ex l hX h; cases h; done))) (fun sc X Ex tg x hX h => di_seq hX.xg (ha.e sc X Ex x hX h)) (by (first | (intro sc X Ex l pos hX h; cases h; done) | (intro sc X Ex l hX h; cases h; done))) (by (first | (intro sc X Ex l pos hX h; cases h; done) | (intro sc X Ex l hX h; cases h; done)))
theorem snd_en (H : HX G k dc N sg Γ) (hr : Snd G k dc N sg Γ r) : Snd G k dc N sg Γ (.en r) := by
  refine Snd.ofO (fun sc x => rfl) (by (first | (intro sc X Ex l pos hX h; cases h; done) | (intro sc X Ex l hX h; cases h; done))) (by (first | (intro sc X Ex l pos hX h; cases h; done) | (intro sc X Ex l hX h; cases h; done))) (by (first | (intro sc X Ex l pos hX h; cases h; done) | (intro sc X Ex l hX h; cases h; done))) (fun sc X Ex tg x hX h => ?_) (by (first | (intro sc X Ex l pos hX h; cases h; done) | (intro sc X Ex l hX h; cases h; done))) (by (first | (intro sc X Ex l pos hX h; cases h; done) | (intro sc X Ex l hX h; cases h; done)))
  simp only [m] at h
  split at h
  · rename_i e
    injection e with e1 e2
    subst e1; subst e2
    simp only [Bool.and_eq_true, beq_iff_eq] at h
    obtain ⟨⟨rfl, h2⟩, h3⟩ := h
    obtain ⟨i1, _, _⟩ := es_nst (G := G) (Γ := Γ) r sc _ h3
    simp only [List.all_cons, Bool.and_eq_true] at i1
    exact di_enum hX.xg (gl_of hX.sc h2) (hX.xg.mg ▸ H.fre _ (by decide +kernel)) (hr.es sc X Ex _ hX h3) (star_of i1.1)
  · cases h
theorem snd_zp (H : HX G k dc N sg Γ) (hr : Snd G k dc N sg Γ r) : Snd G k dc N sg Γ (.zp r) := by
  refine Snd.ofO (fun sc x => rfl) (by (first | (intro sc X Ex l pos hX h; cases h; done) | (intro sc X Ex l hX h; cases h; done))) (by (first | (intro sc X Ex l pos hX h; cases h; done) | (intro sc X Ex l hX h; cases h; done))) (by (first | (intro sc X Ex l pos hX h; cases h; done) | (intro sc X Ex l hX h; cases h; done))) (fun sc X Ex tg x hX h => ?_) (by (first | (intro sc X Ex l pos hX h; cases h; done) | (intro sc X Ex l hX h; cases h; done))) (by (first | (intro sc X Ex l pos hX h; cases h; done) | (intro sc X Ex l hX h; cases h; done)))
  simp only [m] at h
  split at h
  · rename_i e
    injection e with e1 e2
    subst e1; subst e2
    simp only [Bool.and_eq_true, beq_iff_eq] at h
    obtain ⟨⟨rfl, h2⟩, h3⟩ := h
    obtain ⟨i1, _, _⟩ := es_nst (G := G) (Γ := Γ) r sc _ h3
    simp only [List.all_cons, Bool.and_eq_true] at i1
    exact di_zip hX.xg (gl_of hX.sc h2) (hX.xg.mg ▸ H.fre _ (by decide +kernel)) (hr.es sc X Ex _ hX h3) (star_of i1.1) (any_nil (by simp [i1.2.1]))
  · cases h
theorem names_ok {X : Cx} {ok : Str → Bool} (hN : X.N = N) (nd : X.N.Nodup) (hok : ∀ x, ok x = true → L2.Loc X.env.scope x ∧ (X.fn x = true ∨ X.env.scope.names.lookup x = some .local)) : ∀ {is : List Nat} {es : List Expr}, namesM N ok is es = true →
    PGs X es (gNames is) ∧ (assignEach es X.env).length = is.length ∧ (assignEach es X.env).findIdx? (·.1) = none
  | [], [], _ => ⟨pgs_nil, rfl, rfl⟩
  | i :: is, .Name x p :: es, h => by
    simp only [namesM, Bool.and_eq_true, beq_iff_eq] at h
    obtain ⟨⟨h1, h2⟩, h3⟩ := h
    obtain ⟨i1, i2, i3⟩ := names_ok hN nd hok h3
    obtain ⟨l1, l2⟩ := hok x h2
    refine ⟨pgs_cons (pg_name nd (by rw [hN]; exact h1) l1 l2) i1 rfl, ?_, ?_⟩
    · show (assignEach es X.env).length + 1 = is.length + 1
      rw [i2]
    · show List.findIdx? _ ((false, assign (.Name x p) X.env) :: assignEach es X.env) = none
      rw [List.findIdx?_cons]
      simp only [Bool.false_eq_true, if_false]
      rw [i3]; rfl
theorem tg_pg {X : Cx} {ok : Str → Bool} (hN : X.N = N) (nd : X.N.Nodup) (hc : X.calm = true) (hok : ∀ x, ok x = true → L2.Loc X.env.scope x ∧ (X.fn x = true ∨ X.env.scope.names.lookup x = some .local)) : ∀ {tg : Tg} {e : Expr}, tgM N ok tg e = true → PG X e (gT X.K tg)
  | .nm i, .Name x p, h => by
    simp only [tgM, Bool.and_eq_true, beq_iff_eq] at h
    obtain ⟨l1, l2⟩ := hok x h.2
    exact pg_name nd (by rw [hN]; exact h.1) l1 l2
  | .tup is, .Tuple es j p, h => by
    simp only [tgM] at h
    obtain ⟨i1, i2, i3⟩ := names_ok hN nd hok h
    exact pg_tup hc i1 i2 i3
theorem blk_ex {sc scope : Scope} {X : Cx} {Ex : XK} (hX : EX G k dc N sc X Ex) (s : Shared) (H : Hp) (C : Addr) (cl : List (Str × Addr)) (fp : List Addr) : EX G k dc N (relS scope sc) (X.blk s H scope (compEnvC scope cl C X.env) fp) E0 :=
  ⟨⟨hX.xg.prog, hX.xg.w, hX.xg.K, hX.xg.mg, hX.xg.base, hX.xg.calm, hX.xg.nd, hX.xg.room⟩, hX.n, by show relS scope X.env.scope = _; rw [hX.sc], pass_E0 _, hX.code, hX.qual, hX.gu⟩
theorem own_snd : ∀ vs : List Nat, (ownN N vs).map (·.2) = vs
  | [] => rfl
  | v :: vs => by
    show v :: (ownN N vs).map (·.2) = _
    rw [own_snd vs]
theorem snd_comp (it ts e : E) (tg : Tg) (vs : List Nat) (hi : Snd G k dc N sg Γ it) (ht : Snd G k dc N sg Γ ts) (he : Snd G k dc N sg Γ e) : Snd G k dc N sg Γ (.comp it ts e tg vs) := by
  have inv : ∀ sc x, m N sg (.comp it ts e tg vs) sc (.e x) = true → ∃ elt tgE iter ifs scope p, x = .ListComp elt [⟨tgE, iter, ifs, 0⟩] scope p ∧ m N sg it sc (.it tgE iter) = true ∧ nset iter = true ∧ blkC N sc scope (ownN N vs) = true ∧ tgM N (blkB scope sc) tg tgE = true ∧ (∀ i ∈ tgIs tg, i ∈ vs) ∧
      m N sg ts (relS scope sc) (.ts ifs) = true ∧ m N sg e (relS scope sc) (.e elt) = true := fun sc x h => by
    simp only [m] at h
    split at h
    · rename_i elt c scope p e0
      injection e0 with e0
      simp only [Bool.and_eq_true, beq_iff_eq, List.all_eq_true] at h
      obtain ⟨⟨⟨⟨⟨⟨⟨h0, h1⟩, h2⟩, h3⟩, h4⟩, h5⟩, h6⟩, h7⟩ := h
      obtain ⟨tgE, iter, ifs, as⟩ := c
      simp only at h0 h1 h2 h4 h6
      subst h0
      exact ⟨elt, tgE, iter, ifs, scope, p, e0, h1, h2, h3, h4, fun i hi => by simpa using h5 i hi, h6, h7⟩
    · cases h
  -- all parts together
  have parts : ∀ sc (X : Cx) Ex x, EX G k dc N sc X Ex → m N sg (.comp it ts e tg vs) sc (.e x) = true → ∃ elt tgE iter ifs scope p, x = .ListComp elt [⟨tgE, iter, ifs, 0⟩] scope p ∧ PI X tgE iter (tDI G Ex (den G Γ sg it).S (den G Γ sg it).l) ∧ BlkOk X.N X.env.scope scope (ownN N vs) ∧
      (∀ (s : Shared) (H : Hp) (C : Addr) (cl : List (Str × Addr)) (fp : List Addr), PG (X.blk s H scope (compEnvC scope cl C X.env) fp) tgE (gT X.K tg)) ∧
      (∀ (s : Shared) (H : Hp) (C : Addr) (cl : List (Str × Addr)) (fp : List Addr), PTs (X.blk s H scope (compEnvC scope cl C X.env) fp) ifs (tDT G E0 (den G Γ sg ts).S (den G Γ sg ts).t)) ∧
      (∀ (s : Shared) (H : Hp) (C : Addr) (cl : List (Str × Addr)) (fp : List Addr), PE (X.blk s H scope (compEnvC scope cl C X.env) fp) elt (tD G E0 (den G Γ sg e).S (den G Γ sg e).v)) ∧
      (∀ y, foldedSetIterable iter X.env y = pure y) ∧ ∀ i ∈ tgIs tg, i ∈ vs := fun sc X Ex x hX h => by
    obtain ⟨elt, tgE, iter, ifs, scope, p, rfl, h1, h2, h3, h4, h5, h6, h7⟩ := inv sc x h
    refine ⟨elt, tgE, iter, ifs, scope, p, rfl, hi.it sc X Ex tgE iter hX h1, blkOk_by (by rw [hX.n, hX.sc]; exact h3), fun s H C cl fp => ?_, fun s H C cl fp => ht.ts _ _ _ ifs (blk_ex hX s H C cl fp) h6, fun s H C cl fp => he.e _ _ _ elt (blk_ex hX s H C cl fp) h7, set_of h2, h5⟩
    have B := blk_ex (scope := scope) hX s H C cl fp
    refine tg_pg (X := X.blk s H scope (compEnvC scope cl C X.env) fp) B.n B.xg.nd B.xg.calm (fun x hx => ?_) h4
    unfold blkB at hx
    simp only [Bool.and_eq_true] at hx
    refine ⟨by rw [B.sc]; exact loc_of hx.1, ?_⟩
    have h2 := hx.2
    split at h2
    · rename_i q
      left
      show (scope.names.lookup x == some .cell) = true
      rw [q]; rfl
    · split at h2
      · rename_i q; right; rw [B.sc]; exact q
      · cases h2
  have tr : ∀ (X : Cx) Ex (fr : Bool), X.K = G.K → (∀ i ∈ tgIs tg, i ∈ vs) → ∀ σ H Q, tDX G Ex fr (den G Γ sg (.comp it ts e tg vs)).S (den G Γ sg (.comp it ts e tg vs)).v σ H Q → tLc (tDI G Ex (den G Γ sg it).S (den G Γ sg it).l) (gT X.K tg) (tDT G E0 (den G Γ sg ts).S (den G Γ sg ts).t) (tD G E0 (den G Γ sg e).S (den G Γ sg e).v) ((ownN N vs).map (·.2)) σ H Q := fun X Ex fr hK h5 σ H Q h => by
    rw [own_snd]
    exact tLc_okX fr hK h5 h
  have pe : ∀ sc X Ex x (fr : Bool), EX G k dc N sc X Ex → m N sg (.comp it ts e tg vs) sc (.e x) = true → DX X G Ex fr x (den G Γ sg (.comp it ts e tg vs)).S (den G Γ sg (.comp it ts e tg vs)).v := fun sc X Ex x fr hX h => by
    obtain ⟨elt, tgE, iter, ifs, scope, p, rfl, p1, p2, p3, p4, p5, p6, p7⟩ := parts sc X Ex x hX h
    exact PE.imp (pe_lc hX.xg.calm hX.xg.nd p1 p2 p3 p4 p5 p6) (tr X Ex fr hX.xg.K p7)
  have dx_de : ∀ {X : Cx} {Ex : XK} {x : Expr} {S : List Nat} {v : Sto → M PV}, DX X G Ex false x S v → DE X G Ex x S v := fun {X Ex x S v} h => PE.imp h fun σ H Q ⟨ro, V0, H0, ρ, ω, I, q⟩ => ⟨ro, V0, H0, ρ, ω, I, by
    revert q
    cases v ρ ω with
    | bad => exact id
    | ok p ω1 => exact id
    | exn t p ω1 => exact id⟩
  refine ⟨fun sc X Ex x hX h => dx_de (pe sc X Ex x false hX h), fun sc X Ex x hX _ h => ?_, fun sc X Ex x hX _ h => pe sc X Ex x true hX h, fun sc X Ex x hX h fr _ i y p2 pos hy hl hfn => ?_, by (first | (intro sc X Ex l pos hX h; cases h; done) | (intro sc X Ex l hX h; cases h; done)), by (first | (intro sc X Ex l pos hX h; cases h; done) | (intro sc X Ex l hX h; cases h; done)), by (first | (intro sc X Ex l pos hX h; cases h; done) | (intro sc X Ex l hX h; cases h; done)), by (first | (intro sc X Ex l pos hX h; cases h; done) | (intro sc X Ex l hX h; cases h; done)), by (first | (intro sc X Ex l pos hX h; cases h; done) | (intro sc X Ex l hX h; cases h; done)), by (first | (intro sc X Ex l pos hX h; cases h; done) | (intro sc X Ex l hX h; cases h; done))⟩
  · have d := dx_de (pe sc X Ex x false hX h)
    obtain ⟨elt, tgE, iter, ifs, scope, p, rfl, _⟩ := parts sc X Ex x hX h
    exact dt_tru hX.xg d fun _ => rfl
  · have d := pe sc X Ex x fr hX h
    obtain ⟨elt, tgE, iter, ifs, scope, p, rfl, q1, q2, q3, q4, q5, q6, q7⟩ := parts sc X Ex x hX h
    have hb : ∀ l, swapsWith (.ListComp elt [⟨tgE, iter, ifs, 0⟩] scope p) (some (.Name y p2)) l X.env = pure (X.env.blockKind == .function && X.env.kindOf y == some .local && p2.line == p.line && !(scope.names.any fun (n, k) => n == y && (k == .local || k == .cell))) := fun l => rfl
    cases hc : (X.env.blockKind == .function && X.env.kindOf y == some .local && p2.line == p.line && !(scope.names.any fun (n, k) => n == y && (k == .local || k == .cell))) with
    | false => exact ps_set hX.xg.nd hy hl d (by rw [hb, hc]) (.inl (hfn y))
    | true =>
      have hyl : X.env.scope.names.lookup y = some .local := by
        simp only [Bool.and_eq_true, beq_iff_eq] at hc
        exact hc.1.1.2
      exact PS.imp (ps_setLc hX.xg.calm hX.xg.nd hy hyl (by rw [hb, hc]) q1 q2 q3 q4 q5 q6) fun D σ H h => tr X Ex fr hX.xg.K q7 σ H _ h
theorem snd_ext (H : HX G k dc N sg Γ) (j : Nat) : Snd G k dc N sg Γ (.ext j) := by
  have inv : ∀ sc x, m N sg (.ext j) sc (.e x) = true → sg.xm j sc x = true ∧ plainE x = true := fun sc x h => by
    simp only [m, Bool.and_eq_true] at h
    exact h
  exact Snd.ofV rfl (by (intro sc x hx; cases x <;> first | rfl | exact absurd rfl (hx _))) (fun sc x h => (inv sc x h).2) (fun sc X Ex x hX h => H.xt j sc X Ex x hX (inv sc x h).1) (fun _ _ _ _ _ h => by cases h)
theorem post_opt' {α : Type} {o : Option α} {f : α → M PV} {Ex : XK} {ro : Option Addr} {V0 H0 : Hp} {ρ : Sto} {σ : L2.St} {S : List Nat} {H : Hp} {Q : VK} {ω : Rw} (h : Post G Ex ro V0 H0 ρ σ S (CE G ro) H Q (bnd (opt o) f ω)) : ∃ a, o = some a ∧ Post G Ex ro V0 H0 ρ σ S (CE G ro) H Q (f a ω) := by
  cases o with
  | none => exact h.elim
  | some a => exact ⟨a, rfl, h⟩
theorem fnBy_of {nm : Str} {n f : Nat} (h : (sg.fn.findIdx? fun q => q == (nm, n)) = some f) : sg.fn[f]? = some (nm, n) := by
  obtain ⟨h1, h2, _⟩ := List.findIdx?_eq_some_iff_getElem.mp h
  rw [List.getElem?_eq_getElem h1]
  exact congrArg some (by simpa using h2)
theorem snd_callv (H : HX G k dc N sg Γ) (i : Nat) (hr : Snd G k dc N sg Γ r) : Snd G k dc N sg Γ (.callv i r) := by
  have inv : ∀ sc x, m N sg (.callv i r) sc (.e x) = true → ∃ y p e es p2, x = .Call (.Name y p) (e :: es) [] p2 ∧ N[i]? = some y ∧ visB sc y = true ∧ plainN y = true ∧ m N sg r sc (.es (e :: es)) = true := fun sc x h => by
    simp only [m] at h
    split at h
    · rename_i e
      injection e with e
      simp only [Bool.and_eq_true] at h
      obtain ⟨⟨⟨h1, h2⟩, h3⟩, h4⟩ := h
      exact ⟨_, _, _, _, _, e, by simpa using h1, h2, h3, h4⟩
    · cases h
  refine Snd.ofV rfl (by (intro sc x hx; cases x <;> first | rfl | exact absurd rfl (hx _))) (fun sc x h => ?_) (fun sc X Ex x hX h => ?_) (fun _ _ _ _ _ h => by cases h)
  · obtain ⟨y, p, e, es, p2, rfl, _⟩ := inv sc x h; rfl
  · obtain ⟨y, p, e, es, p2, rfl, h1, h2, h3, h4⟩ := inv sc x h
    obtain ⟨i1, i2, i3⟩ := es_nst (G := G) (Γ := Γ) r sc _ h4
    simp only [List.all_cons, Bool.and_eq_true] at i1
    have hl := hr.es sc X Ex _ hX h4
    refine ⟨fun pins s σ H1 Q I hq => ?_⟩
    obtain ⟨ro, V0, H0, ρ, ω, J, hq⟩ := hq
    obtain ⟨F, hF, hq⟩ := post_opt' hq
    unfold fnV at hF
    split at hF
    rotate_left
    · cases hF
    rename_i nm hs
    obtain ⟨f, hf, rfl⟩ := Option.map_eq_some_iff.mp hF
    have hv : ∃ a, σ[i]? = some (some (.ref a)) ∧ G.mg nm = some (.ref a) := by
      cases hp : ρ[i]? with
      | none => rw [hp] at hs; cases hs
      | some sl =>
        have hi : i < σ.length := by rw [← J.len]; exact (List.getElem?_eq_some_iff.mp hp).1
        have hx : σ[i]? = some σ[i] := List.getElem?_eq_getElem hi
        have q := J.slot i sl _ hp hx
        rw [hp] at hs
        cases sl with
        | no => cases hs
        | sh p' =>
          cases hs
          obtain ⟨v, ev, rr⟩ := q
          simp only [Rep] at rr
          obtain ⟨a, rfl, ha⟩ := rr
          exact ⟨a, by rw [hx, ev], ha⟩
        | ow p' =>
          cases hs
          obtain ⟨_, _, _, _, rr⟩ := q
          exact rr.elim
    obtain ⟨a, ha, hm⟩ := hv
    obtain ⟨f0, fd, ps, g1, g2, g3, g4, g5⟩ := H.fn f nm _ (fnBy_of hf)
    have : f0 = a := by rw [hm] at g1; cases g1; rfl
    subst this
    have hd : tD G Ex (den G Γ sg r).S (dCallN (Γ.fn.getD f badF) (den G Γ sg r).l) σ H1 Q := ⟨ro, V0, H0, ρ, ω, J, hq⟩
    rw [call_n (nm := nm) (n := cntE r) i3] at hd
    exact (pe_callGL (fn_atG hX.xg g5) hX.gu hX.xg.room (by rw [hX.n]; exact h1) (hX.sc ▸ vis_of h2) (hX.xg.K ▸ g2) (hX.xg.K ▸ g3) hX.pass hl (plain_of h3).1 (plain_of h3).2 (star_of i1.1) (any_nil i1.2)).run pins s σ H1 Q I ⟨ha, call_t hd⟩
theorem snd_all (H : HX G k dc N sg Γ) : ∀ t : E, Snd G k dc N sg Γ t
  | .var i => snd_var i
  | .int n => snd_int n
  | .bl b => snd_bl b
  | .non => snd_non
  | .str s => snd_str s
  | .gl j => snd_gl H j
  | .op o a b => snd_op o (snd_all H a) (snd_all H b)
  | .cmp o a b => snd_cmp o (snd_all H a) (snd_all H b)
  | .ch o o2 a b c => snd_ch o o2 (snd_all H a) (snd_all H b) (snd_all H c)
  | .neg a => snd_neg (snd_all H a)
  | .not a => snd_not (snd_all H a)
  | .and r => snd_and (snd_all H r)
  | .or r => snd_or (snd_all H r)
  | .a1 a => snd_a1 (snd_all H a)
  | .ac a r => snd_ac (snd_all H a) (snd_all H r)
  | .o1 a => snd_o1 (snd_all H a)
  | .oc a r => snd_oc (snd_all H a) (snd_all H r)
  | .ite c a b => snd_ite (snd_all H c) (snd_all H a) (snd_all H b)
  | .idx a b => snd_idx (snd_all H a) (snd_all H b)
  | .slc a lo hi => snd_slc (snd_all H a) (snd_all H lo) (snd_all H hi)
  | .no => snd_no
  | .so a => snd_so (snd_all H a)
  | .nil => snd_nil
  | .cons a r => snd_cons (snd_all H a) (snd_all H r)
  | .tup r => snd_tup (snd_all H r)
  | .lst r => snd_lst (snd_all H r)
  | .dic b => snd_dic b
  | .ext j => snd_ext H j
  | .callv i r => snd_callv H i (snd_all H r)
  | .call f r => snd_call H f (snd_all H r)
  | .make f t r => snd_make H f t (snd_all H r)
  | .meth f t a r => snd_meth H f t (snd_all H a) (snd_all H r)
  | .fld f a => snd_fld H f (snd_all H a)
  | .bi b r => snd_bi H b (snd_all H r)
  | .bm b a r => snd_bm b (snd_all H a) (snd_all H r)
  | .isi c a => snd_isi H c (snd_all H a)
  | .isi2 c c2 a => snd_isi2 H c c2 (snd_all H a)
  | .comp it ts e tg vs => snd_comp it ts e tg vs (snd_all H it) (snd_all H ts) (snd_all H e)
  | .yes => snd_yes
  | .tst a => snd_tst (snd_all H a)
  | .sq a => snd_sq (snd_all H a)
  | .en r => snd_en H (snd_all H r)
  | .zp r => snd_zp H (snd_all H r)
end
end GP
-- HA
set_option maxRecDepth 100000
set_option maxHeartbeats 4000000
namespace GP
open PySem PySem.Spec PyProof.Rows L2
inductive St where
  | nil | cons (a r : St) | pass | doc | brk | cnt | ret (e : E) | retN | drop (e : E) | iff (c : E) (a b : St)
  | set (fr : Bool) (i : Nat) (e : E) | tgt (tg : Tg) (e : E) | par2 (f1 : Bool) (i1 : Nat) (e1 : E) (f2 : Bool) (i2 : Nat) (e2 : E)
  | par3 (f1 : Bool) (i1 : Nat) (e1 : E) (f2 : Bool) (i2 : Nat) (e2 : E) (f3 : Bool) (i3 : Nat) (e3 : E)
  | app (i : Nat) (e : E) | ext (i : Nat) (e : E) | dput (b : Bool) (i : Nat) (k v : E) | lput (i : Nat) (k v : E) | fput (f : Str) (i : Nat) (v : E) | aug (o : Operator) (i : Nat) (e : E)
  | loop (nf : Bool) (it : E) (tg : Tg) (body : St) (kill : List Nat) | whil (c : E) (body : St) (kill : List Nat) | rais (t : Nat) (e : E) | xt (j : Nat)
inductive ObS where
  | st (x : Stmt) | sts (l : List Stmt)
def isTupE : E → Bool
  | .tup _ => true
  | _ => false
def frOk (fr : Bool) (e : E) : Bool := !fr || fresh e
def augF : Operator → Option (Int → Int → Int)
  | .Add => some fun i j => i + j
  | .Sub => some fun i j => i - j
  | _ => none
def swN (sc : Scope) : Expr → Expr → Bool
  | .Tuple ts _ _, .Tuple _ _ _ => ts.any fun t => match t with
    | .Name x _ => !(sc.names.lookup x == some .local)
    | _ => true
  | _, _ => true
def swP (sc : Scope) : Expr → Expr → Bool
  | .Tuple ts _ _, .Tuple vs _ _ => (ts.length == 2 || ts.length == 3) && (vs.length == ts.length) && vs.all nst && (ts.all fun t => match t with
    | .Name x p => (sc.names.lookup x == some .local) && (p.line == (ts.head?.map (·.pos.line)).getD 0)
    | _ => false) && !(vs.all (foldedForSure 8)) && !(vs.all (constantsAlone 8))
  | _, _ => false
def m1 (N : List Str) (sc : Scope) (i : Nat) (x : Str) : Bool := (N[i]? == some x) && locB sc x
def ms (N : List Str) (sg : Sg) (sc : Scope) : St → ObS → Bool
  | .nil, x => match x with
    | .sts [] => true
    | _ => false
  | .cons a r, x => match x with
    | .sts (s :: ss) => ms N sg sc a (.st s) && ms N sg sc r (.sts ss)
    | _ => false
  | .pass, x => match x with
    | .st (.Pass _) => true
    | _ => false
  | .doc, x => match x with
    | .st (.Expr (.Constant (.str _) _ _) _) => true
    | _ => false
  | .brk, x => match x with
    | .st (.Break _) => true
    | _ => false
  | .cnt, x => match x with
    | .st (.Continue _) => true
    | _ => false
  | .ret e, x => match x with
    | .st (.Return (some l) _) => m N sg e sc (.e l)
    | _ => false
  | .retN, x => match x with
    | .st (.Return none _) => true
    | _ => false
  | .drop e, x => match x with
    | .st (.Expr l _) => m N sg e sc (.e l) && nocomp l
    | _ => false
  | .iff c a b, x => match x with
    | .st (.If l p q _) => hasT c && m N sg c sc (.e l) && ms N sg sc a (.sts p) && ms N sg sc b (.sts q)
    | _ => false
  | .set fr i e, x => match x with
    | .st (.Assign [.Name y _] l _) => frOk fr e && m1 N sc i y && m N sg e sc (.e l)
    | _ => false
  | .tgt tg e, x => match x with
    | .st (.Assign [.Tuple ts j p] l _) => tgM N (locB sc) tg (.Tuple ts j p) && m N sg e sc (.e l) && swN sc (.Tuple ts j p) l
    | _ => false
  | .par2 f1 i1 e1 f2 i2 e2, x => match x with
    | .st (.Assign [.Tuple [.Name x1 p1, .Name x2 p2] j p] (.Tuple [l1, l2] j2 p3) _) => frOk f1 e1 && frOk f2 e2 && m1 N sc i1 x1 && m1 N sc i2 x2 && !(x1 == x2) && m N sg e1 sc (.e l1) && m N sg e2 sc (.e l2) && swP sc (.Tuple [.Name x1 p1, .Name x2 p2] j p) (.Tuple [l1, l2] j2 p3)
    | _ => false
  | .par3 f1 i1 e1 f2 i2 e2 f3 i3 e3, x => match x with
    | .st (.Assign [.Tuple [.Name x1 p1, .Name x2 p2, .Name x3 p3] j p] (.Tuple [l1, l2, l3] j2 p4) _) => frOk f1 e1 && frOk f2 e2 && frOk f3 e3 && m1 N sc i1 x1 && m1 N sc i2 x2 && m1 N sc i3 x3 && !(x1 == x2) && !(x1 == x3) && !(x2 == x3) && m N sg e1 sc (.e l1) && m N sg e2 sc (.e l2) && m N sg e3 sc (.e l3) &&
      swP sc (.Tuple [.Name x1 p1, .Name x2 p2, .Name x3 p3] j p) (.Tuple [l1, l2, l3] j2 p4)
    | _ => false
  | .app i e, x => match x with
    | .st (.Expr (.Call (.Attribute (.Name y _) z p) [l] [] p2) _) => (z == ("append" : Str)) && (N[i]? == some y) && visB sc y && plainN y && (p.endLine == p2.line) && nst l && m N sg e sc (.e l)
    | _ => false
  | .ext i e, x => match x with
    | .st (.Expr (.Call (.Attribute (.Name y _) z p) [l] [] p2) _) => (z == ("extend" : Str)) && (N[i]? == some y) && visB sc y && plainN y && (p.endLine == p2.line) && nst l && m N sg e sc (.e l)
    | _ => false
  | .dput b i k v, x => match x with
    | .st (.Assign [.Subscript (.Name y _) lk _] l _) => (N[i]? == some y) && visB sc y && plainN y && m N sg v sc (.e l) && m N sg k sc (.e lk) && (!b || isTupE k)
    | _ => false
  | .lput i k v, x => match x with
    | .st (.Assign [.Subscript (.Name y _) lk _] l _) => (N[i]? == some y) && visB sc y && plainN y && m N sg v sc (.e l) && m N sg k sc (.e lk) && nsl lk
    | _ => false
  | .fput f i v, x => match x with
    | .st (.Assign [.Attribute (.Name y _) g _] l _) => (g == f) && (N[i]? == some y) && visB sc y && plainN y && m N sg v sc (.e l)
    | _ => false
  | .aug o i e, x => match x with
    | .st (.AugAssign (.Name y _) o' l _) => (o == o') && (augF o).isSome && m1 N sc i y && m N sg e sc (.e l)
    | _ => false
  | .loop nf it tg body kill, x => match x with
    | .st (.For t i b [] _) => tgM N (locB sc) tg t && m N sg it sc (.it t i) && nset i && ms N sg sc body (.sts b)
    | _ => false
  | .whil c body kill, x => match x with
    | .st (.While l b [] _) => hasT c && m N sg c sc (.e l) && ms N sg sc body (.sts b)
    | _ => false
  | .rais t e, x => match x with
    | .st (.Raise (some (.Call (.Name y _) [l] [] _)) none _) => sg.er.contains (y, t) && glB sc y && dbgB y && nst l && m N sg e sc (.e l)
    | _ => false
  | .xt j, x => match x with
    | .st y => sg.xs j sc y
    | _ => false
structure DnS where
  W : List Nat
  s : MS
def badS : MS := fun _ _ => .bad
noncomputable def dens (G : Pg) (Γ : Gam) (sg : Sg) : St → DnS
  | .nil => ⟨[], sNx⟩
  | .cons a r => ⟨(dens G Γ sg a).W ++ (dens G Γ sg r).W, sSeq (dens G Γ sg a).s (dens G Γ sg r).s⟩
  | .pass => ⟨[], sNx⟩
  | .doc => ⟨[], sNx⟩
  | .brk => ⟨[], sBrk⟩
  | .cnt => ⟨[], sCnt⟩
  | .ret e => ⟨[], sRet (den G Γ sg e).v⟩
  | .retN => ⟨[], sRetN⟩
  | .drop e => ⟨[], sDrop (den G Γ sg e).v⟩
  | .iff c a b => ⟨(dens G Γ sg a).W ++ (dens G Γ sg b).W, sIf (den G Γ sg c).t (dens G Γ sg a).s (dens G Γ sg b).s⟩
  | .set fr i e => ⟨i :: (i + 1000) :: (den G Γ sg e).S, sSet fr (den G Γ sg e).S i (den G Γ sg e).v⟩
  | .tgt tg e => ⟨tgW tg ++ (den G Γ sg e).S, sTgt tg (den G Γ sg e).S (den G Γ sg e).v⟩
  | .par2 f1 i1 e1 f2 i2 e2 => ⟨parW [⟨f1, (den G Γ sg e1).S, i1, (den G Γ sg e1).v⟩, ⟨f2, (den G Γ sg e2).S, i2, (den G Γ sg e2).v⟩], sPar [⟨f1, (den G Γ sg e1).S, i1, (den G Γ sg e1).v⟩, ⟨f2, (den G Γ sg e2).S, i2, (den G Γ sg e2).v⟩]⟩
  | .par3 f1 i1 e1 f2 i2 e2 f3 i3 e3 => ⟨parW [⟨f1, (den G Γ sg e1).S, i1, (den G Γ sg e1).v⟩, ⟨f2, (den G Γ sg e2).S, i2, (den G Γ sg e2).v⟩, ⟨f3, (den G Γ sg e3).S, i3, (den G Γ sg e3).v⟩],
    sPar [⟨f1, (den G Γ sg e1).S, i1, (den G Γ sg e1).v⟩, ⟨f2, (den G Γ sg e2).S, i2, (den G Γ sg e2).v⟩, ⟨f3, (den G Γ sg e3).S, i3, (den G Γ sg e3).v⟩]⟩
  | .app i e => ⟨i :: (den G Γ sg e).S, sApp i (den G Γ sg e).S (den G Γ sg e).v⟩
  | .ext i e => ⟨i :: (den G Γ sg e).S, sExt i (den G Γ sg e).S (den G Γ sg e).v⟩
  | .dput b i k v => ⟨i :: ((den G Γ sg v).S ++ (den G Γ sg k).S), sDput b i (den G Γ sg v).S (den G Γ sg k).v (den G Γ sg v).v⟩
  | .lput i k v => ⟨i :: ((den G Γ sg v).S ++ (den G Γ sg k).S), sLput i (den G Γ sg v).S (den G Γ sg k).v (den G Γ sg v).v⟩
  | .fput f i v => ⟨i :: (den G Γ sg v).S, sFput G f i (den G Γ sg v).S (den G Γ sg v).v⟩
  | .aug o i e => match augF o with
    | some f => ⟨[i, i + 1000], sAug i f (den G Γ sg e).v⟩
    | none => ⟨[], badS⟩
  | .loop nf it tg body kill => ⟨(tgW tg ++ ((dens G Γ sg body).W ++ kill)) ++ (if nf = true then [] else (den G Γ sg it).S),
    if nf = true ∧ ((den G Γ sg it).S.any fun i => (tgW tg ++ ((dens G Γ sg body).W ++ kill)).contains i) = true then badS else sFor nf (den G Γ sg it).S (den G Γ sg it).l tg (dens G Γ sg body).s kill⟩
  | .whil c body kill => ⟨(dens G Γ sg body).W ++ kill, sWhile (den G Γ sg c).t (dens G Γ sg body).s kill⟩
  | .rais t e => ⟨[], sRaise t (den G Γ sg e).v⟩
  | .xt j => ⟨(Γ.xs j).1, (Γ.xs j).2⟩
end GP
-- HB
set_option maxRecDepth 100000
set_option maxHeartbeats 4000000
namespace GP
open PySem PySem.Spec PyProof.Rows L2
def nmO (env : Env) (line : Nat) : Expr → Option Str
  | .Name id pos => if (env.kindOf id == some .local && pos.line == line) = true then some id else none
  | _ => none
def noL (sc : Scope) : Expr → Bool
  | .Name x _ => !(sc.names.lookup x == some .local)
  | _ => true
theorem nmO_none {env : Env} {line : Nat} {x : Expr} (h : noL env.scope x = true) : nmO env line x = none := by
  cases x <;> try rfl
  rename_i id pos
  have : (env.kindOf id == some NameKind.local) = false := by
    show (env.scope.names.lookup id == some NameKind.local) = false
    simpa [noL] using h
  simp [nmO, this]
theorem nmO_few {env : Env} {line : Nat} : ∀ {ts : List Expr}, ts.any (noL env.scope) = true → (ts.filterMap (nmO env line)).length < ts.length
  | [], h => by simp at h
  | a :: ts, h => by
    simp only [List.any_cons, Bool.or_eq_true] at h
    have le := List.length_filterMap_le (nmO env line) ts
    by_cases ha : noL env.scope a = true
    · rw [List.filterMap_cons, nmO_none ha, List.length_cons]
      show (ts.filterMap (nmO env line)).length < _
      omega
    · have i1 := nmO_few (line := line) (h.resolve_left ha)
      rw [List.filterMap_cons, List.length_cons]
      split
      · omega
      · rw [List.length_cons]; omega
theorem sw_none {env : Env} {ts : List Expr} {j : Nat} {p : Pos} {l : Expr} (h : swN env.scope (.Tuple ts j p) l = true) : swappedStores [.Tuple ts j p] l env = pure none := by
  unfold swappedStores
  cases l with
  | Tuple vs j2 p2 =>
    have h2 : ts.any (noL env.scope) = true := h
    dsimp only
    split
    · rfl
    · split
      · rfl
      · have k1 := nmO_few (line := (ts.head?.map (·.pos.line)).getD 0) h2
        refine if_pos ?_
        simp only [Bool.or_eq_true, bne_iff_ne]
        exact .inl (Nat.ne_of_lt k1)
  | _ => rfl
def isSt : Expr → Bool
  | .Starred _ _ => true
  | _ => false
theorem st_no {l : Expr} (h : nst l = true) : isSt l = false := by
  cases l <;> first | rfl | (simp [nst] at h)
theorem nm_ok {env : Env} {line : Nat} {x : Str} {p : Pos} (h1 : env.kindOf x = some .local) (h2 : p.line = line) : nmO env line (.Name x p) = some x := by
  show (if (env.kindOf x == some .local && p.line == line) = true then some x else none) = some x
  rw [h1, h2]
  simp
theorem swapped {env : Env} {ts vs : List Expr} {j j2 : Nat} {p p2 : Pos} {names : List Str} (hk : env.scope.kind = .function) (h1 : ts.length = 2 ∨ ts.length = 3) (h2 : vs.length = ts.length) (h3 : vs.all nst = true)
    (hn : ts.filterMap (nmO env ((ts.head?.map (·.pos.line)).getD 0)) = names) (h4 : names.length = ts.length) (h5 : names.eraseDups.length = names.length) (f1 : vs.all (foldedForSure 8) = false) (f2 : vs.all (constantsAlone 8) = false) :
    swappedStores [.Tuple ts j p] (.Tuple vs j2 p2) env = pure (some names) := by
  have hb : env.blockKind = .function := by unfold Env.blockKind; rw [hk]; rfl
  unfold swappedStores
  dsimp only
  have c1 : ¬ ((!(ts.length == 2 || ts.length == 3) || vs.length != ts.length || env.blockKind != ScopeKind.function) = true) := by
    rw [hb, h2]
    rcases h1 with h | h <;> simp [h]
  rw [if_neg c1]
  have c2 : ¬ (vs.any isSt = true) := by
    intro h
    obtain ⟨x, hx, hy⟩ := List.any_eq_true.mp h
    rw [st_no (List.all_eq_true.mp h3 x hx)] at hy; cases hy
  refine (if_neg c2).trans ?_
  have c3 : ¬ (((ts.filterMap (nmO env ((ts.head?.map (·.pos.line)).getD 0))).length != ts.length || (ts.filterMap (nmO env ((ts.head?.map (·.pos.line)).getD 0))).eraseDups.length != (ts.filterMap (nmO env ((ts.head?.map (·.pos.line)).getD 0))).length) = true) := by
    rw [hn, h4, h5, h4]; simp
  refine (if_neg c3).trans ?_
  rw [f1, f2, ← hn]
  rfl
theorem ne_sy {a b : Str} (h : (a == b) = false) : (b == a) = false := by
  rw [beq_eq_false_iff_ne] at h ⊢
  exact fun z => h z.symm
theorem sw_two {env : Env} {x1 x2 : Str} {p1 p2 p p3 : Pos} {j j2 : Nat} {l1 l2 : Expr} (hk : env.scope.kind = .function) (hne : (x1 == x2) = false) (h : swP env.scope (.Tuple [.Name x1 p1, .Name x2 p2] j p) (.Tuple [l1, l2] j2 p3) = true) :
    swappedStores [.Tuple [.Name x1 p1, .Name x2 p2] j p] (.Tuple [l1, l2] j2 p3) env = pure (some [x1, x2]) := by
  simp only [swP, Bool.and_eq_true, Bool.not_eq_true'] at h
  obtain ⟨⟨⟨⟨⟨h1, h2⟩, h3⟩, h4⟩, h5⟩, h6⟩ := h
  simp only [List.all_cons, List.all_nil, Bool.and_eq_true, beq_iff_eq] at h4
  obtain ⟨⟨a1, a2⟩, ⟨b1, b2⟩, _⟩ := h4
  refine swapped hk (.inl rfl) rfl h3 ?_ rfl ?_ h5 h6
  · rw [List.filterMap_cons, nm_ok a1 a2, List.filterMap_cons, nm_ok b1 b2]; rfl
  · simp [List.eraseDups_cons, ne_sy hne]
theorem sw_three {env : Env} {x1 x2 x3 : Str} {p1 p2 p3 p p4 : Pos} {j j2 : Nat} {l1 l2 l3 : Expr} (hk : env.scope.kind = .function) (hne : (x1 == x2) = false) (hne2 : (x1 == x3) = false) (hne3 : (x2 == x3) = false) (h : swP env.scope (.Tuple [.Name x1 p1, .Name x2 p2, .Name x3 p3] j p) (.Tuple [l1, l2, l3] j2 p4) = true) :
    swappedStores [.Tuple [.Name x1 p1, .Name x2 p2, .Name x3 p3] j p] (.Tuple [l1, l2, l3] j2 p4) env = pure (some [x1, x2, x3]) := by
  simp only [swP, Bool.and_eq_true, Bool.not_eq_true'] at h
  obtain ⟨⟨⟨⟨⟨h1, h2⟩, h3⟩, h4⟩, h5⟩, h6⟩ := h
  simp only [List.all_cons, List.all_nil, Bool.and_eq_true, beq_iff_eq] at h4
  obtain ⟨⟨a1, a2⟩, ⟨b1, b2⟩, ⟨c1, c2⟩, _⟩ := h4
  refine swapped hk (.inr rfl) rfl h3 ?_ rfl ?_ h5 h6
  · rw [List.filterMap_cons, nm_ok a1 a2, List.filterMap_cons, nm_ok b1 b2, List.filterMap_cons, nm_ok c1 c2]; rfl
  · simp [List.eraseDups_cons, ne_sy hne, ne_sy hne2, ne_sy hne3]
section
variable {G : Pg} {k : Nat} {dc : Dc} {N : List Str} {sg : Sg} {Γ : Gam} {X : Cx} {Ex : XK} {sc : Scope}
theorem m1_of {i : Nat} {x : Str} (hX : EX G k dc N sc X Ex) (h : m1 N sc i x = true) : X.N[i]? = some x ∧ L2.Loc X.env.scope x := by
  simp only [m1, Bool.and_eq_true, beq_iff_eq] at h
  exact ⟨by rw [hX.n]; exact h.1, by rw [hX.sc]; exact loc_of h.2⟩
theorem dx_fr {e : E} {fr : Bool} {x : Expr} (hS : Snd G k dc N sg Γ e) (hX : EX G k dc N sc X Ex) (hf : frOk fr e = true) (h : m N sg e sc (.e x) = true) : DX X G Ex fr x (den G Γ sg e).S (den G Γ sg e).v := by
  cases fr with
  | false => exact dx_sh (hS.e sc X Ex x hX h)
  | true => exact hS.fr sc X Ex x hX (by simpa [frOk] using hf) h
theorem swS_of {t : Expr} {v : Expr} {l : Nat} {env : Env} (h : ∀ x p, t ≠ .Name x p) : swapsWith v (some t) l env = pure false := by
  cases v <;> cases t <;> first | rfl | exact absurd rfl (h _ _)
theorem swSS_of {t : Expr} {v : Expr} {l : Nat} {env : Env} (h : ∀ x p, t ≠ .Name x p) : swapsWithSole [t] v l env = pure false := swS_of h
theorem asgS_of {o i : Expr} {pos : Pos} {env : Env} (h : nsl i = true) : ∀ v, assign (.Subscript o i pos) env v = (do
      let ov ← holding [v] (eval o env)
      let iv ← holding [v, ov] (eval i env)
      standAt pos
      holding [v, ov, iv] (setItem ov iv v)
      release [v, ov, iv] []) := by
  intro v
  cases i <;> first | rfl | (simp [nsl] at h)
theorem dk_of {e : E} {b : Bool} {x : Expr} (hS : ∀ e, Snd G k dc N sg Γ e) (hX : EX G k dc N sc X Ex) (hb : (!b || isTupE e) = true) (h : m N sg e sc (.e x) = true) : DK X G Ex b x (den G Γ sg e).S (den G Γ sg e).v := by
  cases b with
  | false => exact (hS e).e sc X Ex x hX h
  | true =>
    cases e with
    | tup r =>
      simp only [m] at h
      split at h
      · rename_i e0
        injection e0 with e0
        subst e0
        exact dk_T ((hS r).es sc X Ex _ hX h)
      · cases h
    | _ => cases hb
theorem stmt_all (H : HX G k dc N sg Γ) : ∀ t : St, ∀ sc X Ex, BX G k dc N sc X Ex → (∀ st, ms N sg sc t (.st st) = true → DS X G Ex st (dens G Γ sg t).W (dens G Γ sg t).s) ∧ (∀ sts, ms N sg sc t (.sts sts) = true → DSs X G Ex sts (dens G Γ sg t).W (dens G Γ sg t).s) := by
  have S := fun e => snd_all (N := N) H e
  intro t
  induction t with
  | nil =>
    intro sc X Ex hX
    refine ⟨fun st h => (by cases h), fun sts h => ?_⟩
    simp only [ms] at h
    split at h
    · rename_i e; injection e with e; subst e; exact dss_nil
    · cases h
  | cons a r iha ihr =>
    intro sc X Ex hX
    refine ⟨fun st h => (by cases h), fun sts h => ?_⟩
    simp only [ms] at h
    split at h
    · rename_i e; injection e with e; subst e
      simp only [Bool.and_eq_true] at h
      exact dss_cons ((iha sc X Ex hX).1 _ h.1) ((ihr sc X Ex hX).2 _ h.2)
    · cases h
  | pass =>
    intro sc X Ex hX
    refine ⟨fun st h => ?_, fun sts h => (by cases h)⟩
    simp only [ms] at h
    split at h
    · rename_i e; injection e with e; subst e; exact ds_pass
    · cases h
  | doc =>
    intro sc X Ex hX
    refine ⟨fun st h => ?_, fun sts h => (by cases h)⟩
    simp only [ms] at h
    split at h
    · rename_i e; injection e with e; subst e; exact ds_doc
    · cases h
  | brk =>
    intro sc X Ex hX
    refine ⟨fun st h => ?_, fun sts h => (by cases h)⟩
    simp only [ms] at h
    split at h
    · rename_i e; injection e with e; subst e; exact ds_brk
    · cases h
  | cnt =>
    intro sc X Ex hX
    refine ⟨fun st h => ?_, fun sts h => (by cases h)⟩
    simp only [ms] at h
    split at h
    · rename_i e; injection e with e; subst e; exact ds_cnt
    · cases h
  | ret e =>
    intro sc X Ex hX
    refine ⟨fun st h => ?_, fun sts h => (by cases h)⟩
    simp only [ms] at h
    split at h
    · rename_i e0; injection e0 with e0; subst e0; exact ds_ret ((S e).e sc X Ex _ hX.toEX h)
    · cases h
  | retN =>
    intro sc X Ex hX
    refine ⟨fun st h => ?_, fun sts h => (by cases h)⟩
    simp only [ms] at h
    split at h
    · rename_i e; injection e with e; subst e; exact ds_retN
    · cases h
  | drop e =>
    intro sc X Ex hX
    refine ⟨fun st h => ?_, fun sts h => (by cases h)⟩
    simp only [ms] at h
    split at h
    · rename_i e0; injection e0 with e0; subst e0
      simp only [Bool.and_eq_true] at h
      exact ds_drop ((S e).e sc X Ex _ hX.toEX h.1) (comp_of h.2 _ _ _)
    · cases h
  | iff c a b iha ihb =>
    intro sc X Ex hX
    refine ⟨fun st h => ?_, fun sts h => (by cases h)⟩
    simp only [ms] at h
    split at h
    · rename_i e0; injection e0 with e0; subst e0
      simp only [Bool.and_eq_true] at h
      obtain ⟨⟨⟨h1, h2⟩, h3⟩, h4⟩ := h
      exact ds_if ((S c).t sc X Ex _ hX.toEX h1 h2) ((iha sc X Ex hX).2 _ h3) ((ihb sc X Ex hX).2 _ h4)
    · cases h
  | set fr i e =>
    intro sc X Ex hX
    refine ⟨fun st h => ?_, fun sts h => (by cases h)⟩
    simp only [ms] at h
    split at h
    · rename_i e0; injection e0 with e0; subst e0
      simp only [Bool.and_eq_true] at h
      obtain ⟨⟨h1, h2⟩, h3⟩ := h
      obtain ⟨n1, n2⟩ := m1_of hX.toEX h2
      exact PS.imp ((S e).as sc X Ex _ hX.toEX h3 fr (fun z => by subst z; simpa [frOk] using h1) i _ _ _ n1 n2 hX.fn) fun D σ H h => set_t h
    · cases h
  | tgt tg e =>
    intro sc X Ex hX
    refine ⟨fun st h => ?_, fun sts h => (by cases h)⟩
    simp only [ms] at h
    split at h
    · rename_i e0; injection e0 with e0; subst e0
      simp only [Bool.and_eq_true] at h
      obtain ⟨⟨h1, h2⟩, h3⟩ := h
      have pg := tg_pg hX.n hX.xg.nd hX.xg.calm (ok := locB sc) (fun x hx => ⟨by rw [hX.sc]; exact loc_of hx, .inl (hX.fn x)⟩) h1
      refine PS.imp (ps_asg ((S e).e sc X Ex _ hX.toEX h2) pg (swSS_of fun x p z => by cases z) (sw_none (by rw [hX.sc]; exact h3)) rfl) fun D σ H h => tgt_t hX.xg.K h
    · cases h
  | par2 f1 i1 e1 f2 i2 e2 =>
    intro sc X Ex hX
    refine ⟨fun st h => ?_, fun sts h => (by cases h)⟩
    simp only [ms] at h
    split at h
    · rename_i e0; injection e0 with e0; subst e0
      simp only [Bool.and_eq_true, Bool.not_eq_true'] at h
      obtain ⟨⟨⟨⟨⟨⟨⟨a1, a2⟩, a3⟩, a4⟩, a5⟩, a6⟩, a7⟩, a8⟩ := h
      obtain ⟨n1, _⟩ := m1_of hX.toEX a3
      obtain ⟨n2, _⟩ := m1_of hX.toEX a4
      have hp := a8
      simp only [swP, Bool.and_eq_true, List.all_cons, List.all_nil] at hp
      obtain ⟨⟨⟨⟨_, ⟨s1, s2, _⟩⟩, ⟨b1, b2, _⟩⟩, _⟩, _⟩ := hp
      have l1 := eq_of_beq b1.1
      rw [← hX.sc] at l1
      have l2 := eq_of_beq b2.1
      rw [← hX.sc] at l2
      have hij : i1 ≠ i2 := fun z => by
        subst z
        rw [n1] at n2; cases n2
        simp at a5
      exact PS.imp (ps_par hX.xg.calm hX.xg.nd n1 n2 hij l1 l2 (pa_cons (dx_fr (S e1) hX.toEX a1 a6) (pa_cons (dx_fr (S e2) hX.toEX a2 a7) pa_nil (star_of s2)) (star_of s1))
        (sw_two (hX.kd) a5 (by rw [hX.sc]; exact a8)) (swSS_of fun x p z => by cases z)) fun D σ H h => par2_t h
    · cases h
  | par3 f1 i1 e1 f2 i2 e2 f3 i3 e3 =>
    intro sc X Ex hX
    refine ⟨fun st h => ?_, fun sts h => (by cases h)⟩
    simp only [ms] at h
    split at h
    · rename_i e0; injection e0 with e0; subst e0
      simp only [Bool.and_eq_true, Bool.not_eq_true'] at h
      obtain ⟨⟨⟨⟨⟨⟨⟨⟨⟨⟨⟨⟨a1, a2⟩, a3⟩, a4⟩, a5⟩, a6⟩, a7⟩, a8⟩, a9⟩, c1⟩, c2⟩, c3⟩, c4⟩ := h
      obtain ⟨n1, _⟩ := m1_of hX.toEX a4
      obtain ⟨n2, _⟩ := m1_of hX.toEX a5
      obtain ⟨n3, _⟩ := m1_of hX.toEX a6
      have hp := c4
      simp only [swP, Bool.and_eq_true, List.all_cons, List.all_nil] at hp
      obtain ⟨⟨⟨⟨_, ⟨s1, s2, s3, _⟩⟩, ⟨b1, b2, b3, _⟩⟩, _⟩, _⟩ := hp
      have l1 := eq_of_beq b1.1
      rw [← hX.sc] at l1
      have l2 := eq_of_beq b2.1
      rw [← hX.sc] at l2
      have l3 := eq_of_beq b3.1
      rw [← hX.sc] at l3
      have ne : ∀ {i j : Nat} {x y : Str}, X.N[i]? = some x → X.N[j]? = some y → (x == y) = false → i ≠ j := fun {i j x y} n1 n2 h z => by
        subst z
        rw [n1] at n2; cases n2
        simp at h
      exact PS.imp (ps_par3 hX.xg.calm hX.xg.nd n1 n2 n3 (ne n1 n2 a7) (ne n1 n3 a8) (ne n2 n3 a9) l1 l2 l3 (pa_cons (dx_fr (S e1) hX.toEX a1 c1) (pa_cons (dx_fr (S e2) hX.toEX a2 c2) (pa_cons (dx_fr (S e3) hX.toEX a3 c3) pa_nil (star_of s3)) (star_of s2)) (star_of s1))
        (sw_three (hX.kd) a7 a8 a9 (by rw [hX.sc]; exact c4)) (swSS_of fun x p z => by cases z)) fun D σ H h => par3_t h
    · cases h
  | app i e =>
    intro sc X Ex hX
    refine ⟨fun st h => ?_, fun sts h => (by cases h)⟩
    simp only [ms] at h
    split at h
    · rename_i e0; injection e0 with e0; subst e0
      simp only [Bool.and_eq_true] at h
      obtain ⟨⟨⟨⟨⟨⟨h1, h2⟩, h3⟩, h4⟩, h5⟩, h6⟩, h7⟩ := h
      simp only [beq_iff_eq] at h1 h2
      subst h1
      exact ds_app (by rw [hX.n]; exact h2) (hX.sc ▸ vis_of h3) (plain_of h4).1 (plain_of h4).2 ((S e).e sc X Ex _ hX.toEX h7) (bmc_of rfl h6 h5)
    · cases h
  | ext i e =>
    intro sc X Ex hX
    refine ⟨fun st h => ?_, fun sts h => (by cases h)⟩
    simp only [ms] at h
    split at h
    · rename_i e0; injection e0 with e0; subst e0
      simp only [Bool.and_eq_true] at h
      obtain ⟨⟨⟨⟨⟨⟨h1, h2⟩, h3⟩, h4⟩, h5⟩, h6⟩, h7⟩ := h
      simp only [beq_iff_eq] at h1 h2
      subst h1
      exact ds_ext (by rw [hX.n]; exact h2) (hX.sc ▸ vis_of h3) (plain_of h4).1 (plain_of h4).2 ((S e).e sc X Ex _ hX.toEX h7) (bmc_of rfl h6 h5)
    · cases h
  | dput b i kk v =>
    intro sc X Ex hX
    refine ⟨fun st h => ?_, fun sts h => (by cases h)⟩
    simp only [ms] at h
    split at h
    · rename_i e0; injection e0 with e0; subst e0
      simp only [Bool.and_eq_true] at h
      obtain ⟨⟨⟨⟨⟨h1, h2⟩, h3⟩, h4⟩, h5⟩, h6⟩ := h
      simp only [beq_iff_eq] at h1
      exact ds_dput (u1 hX.xg.room) (by rw [hX.n]; exact h1) (hX.sc ▸ vis_of h2) (plain_of h3).1 (plain_of h3).2 ((S v).e sc X Ex _ hX.toEX h4) (dk_of S hX.toEX h6 h5) (swS_of fun x p z => by cases z)
    · cases h
  | lput i kk v =>
    intro sc X Ex hX
    refine ⟨fun st h => ?_, fun sts h => (by cases h)⟩
    simp only [ms] at h
    split at h
    · rename_i e0; injection e0 with e0; subst e0
      simp only [Bool.and_eq_true] at h
      obtain ⟨⟨⟨⟨⟨h1, h2⟩, h3⟩, h4⟩, h5⟩, h6⟩ := h
      simp only [beq_iff_eq] at h1
      exact ds_lput (by rw [hX.n]; exact h1) (hX.sc ▸ vis_of h2) (plain_of h3).1 (plain_of h3).2 ((S v).e sc X Ex _ hX.toEX h4) ((S kk).e sc X Ex _ hX.toEX h5) (asgS_of h6) (swSS_of fun x p z => by cases z) (by rename_i l _; cases l <;> rfl)
    · cases h
  | fput f i v =>
    intro sc X Ex hX
    refine ⟨fun st h => ?_, fun sts h => (by cases h)⟩
    simp only [ms] at h
    split at h
    · rename_i e0; injection e0 with e0; subst e0
      simp only [Bool.and_eq_true] at h
      obtain ⟨⟨⟨⟨h1, h2⟩, h3⟩, h4⟩, h5⟩ := h
      simp only [beq_iff_eq] at h1 h2
      subst h1
      exact ds_fput hX.xg H.cls (by rw [hX.n]; exact h2) (hX.sc ▸ vis_of h3) (plain_of h4).1 (plain_of h4).2 ((S v).e sc X Ex _ hX.toEX h5) (swS_of fun x p z => by cases z)
    · cases h
  | aug o i e =>
    intro sc X Ex hX
    refine ⟨fun st h => ?_, fun sts h => (by cases h)⟩
    simp only [ms] at h
    split at h
    · rename_i e0; injection e0 with e0; subst e0
      simp only [Bool.and_eq_true, beq_iff_eq] at h
      obtain ⟨⟨⟨rfl, h2⟩, h3⟩, h4⟩ := h
      obtain ⟨n1, n2⟩ := m1_of hX.toEX h3
      cases o <;> simp only [augF] at h2 <;> (try cases h2)
      · exact PS.imp (ps_aug hX.xg.nd n1 n2 ((S e).e sc X Ex _ hX.toEX h4) ip_add (.inl (hX.fn _))) fun D σ H h => aug_t h
      · exact PS.imp (ps_aug hX.xg.nd n1 n2 ((S e).e sc X Ex _ hX.toEX h4) ip_sub (.inl (hX.fn _))) fun D σ H h => aug_t h
    · cases h
  | loop nf it tg body kill ih =>
    intro sc X Ex hX
    refine ⟨fun st h => ?_, fun sts h => (by cases h)⟩
    simp only [ms] at h
    split at h
    · rename_i e0; injection e0 with e0; subst e0
      simp only [Bool.and_eq_true] at h
      obtain ⟨⟨⟨h1, h2⟩, h3⟩, h4⟩ := h
      have pg := tg_pg hX.n hX.xg.nd hX.xg.calm (ok := locB sc) (fun x hx => ⟨by rw [hX.sc]; exact loc_of hx, .inl (hX.fn x)⟩) h1
      refine PS.imp (ps_for hX.po hX.xg.calm ((S it).it sc X Ex _ _ hX.toEX h2) pg ((ih sc X Ex hX).2 _ h4) (set_of h3)) fun D σ H h => ?_
      by_cases hc : nf = true ∧ ((den G Γ sg it).S.any fun i => (tgW tg ++ ((dens G Γ sg body).W ++ kill)).contains i) = true
      · simp only [dens, if_pos hc] at h
        obtain ⟨_, _, _, _, _, _, h⟩ := h; exact h.elim
      · simp only [dens, if_neg hc] at h
        refine for_t hX.xg.K (fun _ _ _ h => h) (fun z i hi hm => hc ⟨z, ?_⟩) h
        rw [List.any_eq_true]
        exact ⟨i, hi, by simpa using hm⟩
    · cases h
  | whil c body kill ih =>
    intro sc X Ex hX
    refine ⟨fun st h => ?_, fun sts h => (by cases h)⟩
    simp only [ms] at h
    split at h
    · rename_i e0; injection e0 with e0; subst e0
      simp only [Bool.and_eq_true] at h
      obtain ⟨⟨h1, h2⟩, h3⟩ := h
      exact PS.imp (ps_while hX.po ((S c).t sc X Ex _ hX.toEX h1 h2) ((ih sc X Ex hX).2 _ h3)) fun D σ H h => while_t (fun _ _ _ h => h) h
    · cases h
  | rais t e =>
    intro sc X Ex hX
    refine ⟨fun st h => ?_, fun sts h => (by cases h)⟩
    simp only [ms] at h
    split at h
    · rename_i e0; injection e0 with e0; subst e0
      simp only [Bool.and_eq_true] at h
      obtain ⟨⟨⟨⟨h1, h2⟩, h3⟩, h4⟩, h5⟩ := h
      obtain ⟨k', rfl, ec⟩ := H.er _ _ h1
      exact ds_raise hX.xg hX.tk ec (gl_of hX.sc h2) (dbg_of h3) ((S e).e sc X Ex _ hX.toEX h5) (star_of h4)
    · cases h
  | xt j =>
    intro sc X Ex hX
    refine ⟨fun st h => ?_, fun sts h => (by cases h)⟩
    exact H.xs j sc X Ex st hX h
end
end GP
-- HC
set_option maxRecDepth 100000
set_option maxHeartbeats 4000000
namespace GP
open PySem PySem.Spec PyProof.Rows L2
abbrev Cl1 := Value × (Addr → Value → Option Addr → TS)
def offE (i : Nat) (D : Ends) : Ends := ⟨fun σ H => D.nx (σ.set i none) H, D.rt, fun σ H => D.bk (σ.set i none) H, fun σ H => D.ct (σ.set i none) H⟩
def wAsL (K : PySem.W.Frag) (i : Nat) (D : Ends) : List Cl1 → WX
  | [] => fun _ _ _ _ => False
  | c :: r => fun cls d σ H => ∃ b, PySem.W.exmOne K cls c.1 = some b ∧ (b = true → ∀ a, H a = none → c.2 a cls d (offE i D) (σ.set i (some (.ref a))) H) ∧ (b = false → wAsL K i D r cls d σ H)
inductive AsOk (X : Cx) (n : Str) : List ExceptHandler → List Cl1 → Prop
  | nil : AsOk X n [] []
  | cons {x : Str} {c : Value} {ts : Addr → Value → Option Addr → TS} {b₀ : Stmt} {suite : List Stmt} {np p : Pos} {hds : List ExceptHandler} {l : List Cl1} (hc : Names X x c)
      (hsu : ∀ (a : Addr) (oe : Obj) (cls : Value) (d : Option Addr) (pn : List (Addr × Obj)), Zc cls d oe → (∃ vs, oe.data = .fields vs) → PSs (X.suite a ((a, oe) :: pn)) (b₀ :: suite) (ts a cls d)) (r : AsOk X n hds l) :
      AsOk X n (.ExceptHandler (some (.Name x np)) (some n) (b₀ :: suite) p :: hds) ((c, ts) :: l)
section
variable {X : Cx} {n : Str} {i : Nat} {body : List Stmt} {h₀ : ExceptHandler} {hds : List ExceptHandler} {l : List Cl1} {pos : Pos} {tb : WX → TS}
theorem clauses_run {pins : List (Addr × Obj)} {σ : L2.St} {H : Hp} {D : Ends} {sI s' : Shared} {a : Addr} {B h3 : Heap} {cls : Value} {d : Option Addr} (hN : X.N.Nodup) (hi : X.N[i]? = some n) (hln : X.env.kindOf n = some .local)
    (ok : X.Ok) (J : Inv X pins σ H sI) (nb : ∀ b o, sI.heap.get? b = some o → b ∉ frs X.stack → B.get? b = some o) (os : s'.os = sI.os) (ag : AllBare s'.gens)
    (fl : HandSPX.FlyingZ B (X.env :: X.outer) a (Zc cls d) h3) (up : sI.heap.UpToSlots h3) (na : H a = none) (nL : a ≠ X.env.locals) (nF : a ∉ X.fs) : ∀ {hds : List ExceptHandler} {l : List Cl1}, AsOk X n hds l → wAsL X.K i D l cls d σ H →
    wpAny (model X.prog X.w) X.A (handleBy (.ref a) X.env hds) (SP X pins D) X.xe { s' with heap := h3 } := by
  intro hds l hk
  have J3 : Inv X pins σ H { s' with heap := h3 } := J.landed nb fl.1 up os ag
  obtain ⟨oe3, vs3, he3, hz3, hd3⟩ := fl.there
  have S3 := J3.suite he3 hd3 na nL nF
  induction hk with
  | nil => exact fun w => w.elim
  | @cons x c ts b₀ suite np p hd2 l2 hc hsu r ih =>
    rintro ⟨b, eb, yes, no⟩
    have ty : PySem.W.Looks (model X.prog X.w) h3 (typeOf (.ref a)) cls := fun A Q E s kp q => wpAny_typeOf_ref (kp _ _ he3) (by rw [hz3.1]; exact q)
    have mt := PySem.W.exm_one (M := model X.prog X.w) J3.kIn ty eb
    refine wpAny_handleBy_cons (codeAny_handlers_test ?_) (by intro q; cases q)
    have nm : ∀ {Q : Value → Shared → Prop} {E : Value → Shared → Prop}, Q c { s' with heap := h3 } → wpAny (model X.prog X.w) (X.A.mark (some (.ref a))) (eval (.Name x np) X.env) Q E { s' with heap := h3 } := by
      intro Q E q
      obtain ⟨g1, g2, g3 | ⟨g3, g4, g5⟩⟩ := hc
      · exact ld_glob (X := X.suite a ((a, oe3) :: (X.pn ++ pins))) S3 g1 g3 q g2
      · exact ld_blt (X := X.suite a ((a, oe3) :: (X.pn ++ pins))) S3 g1 g3 g4 q g5 g2
    refine nm (mt.here ?_)
    cases b with
    | false => exact ih (no rfl)
    | true =>
      refine codeAny_handlers_suite_as (HandSPX.lands_againZ fl fun h4 fl4 up4 => ?_)
      have J4 : Inv X pins σ H { s' with heap := h4 } := J.landed nb fl4.1 (up.trans up4) os ag
      obtain ⟨oe4, vs4, he4, hz4, hd4⟩ := fl4.there
      refine store_ok (X := X.suite a ((a, oe4) :: (X.pn ++ pins))) (v := .ref a) (J4.suite he4 hd4 na nL nF) hN hi (.inl hln) rfl (fun s5 S5 => ?_) (.inr hln)
      have go := (hsu a oe4 cls d (X.pn ++ pins) hz4 ⟨_, hd4⟩).run [] s5 _ H _ S5 (yes rfl a na)
      refine wpAny_mono go (fun f s6 q6 => ?_) (fun _ _ z => z.elim)
      have off : ∀ {τ : L2.St} {H6 : Hp} {Q : Shared → Prop}, Inv (X.suite a ((a, oe4) :: (X.pn ++ pins))) [] τ H6 s6 → (∀ s7, Inv X pins (τ.set i none) H6 s7 → Q s7) → wpAny (model X.prog X.w) X.A (do bindName X.env n .none; unbindBehindTheSuite X.env n p) (fun _ s7 => Q s7) X.xe s6 :=
        fun S6 hq => gone_ok (S6.unsuite ok) hN hi hln hq
      rcases f with _ | _ | _ | u
      · obtain ⟨τ, H6, S6, e6⟩ := q6
        exact off S6 fun s7 J7 => ⟨_, _, J7, e6⟩
      · obtain ⟨τ, H6, S6, e6⟩ := q6
        exact off S6 fun s7 J7 => ⟨_, _, J7, e6⟩
      · obtain ⟨τ, H6, S6, e6⟩ := q6
        exact off S6 fun s7 J7 => ⟨_, _, J7, e6⟩
      · obtain ⟨v6, τ, H6, S6, r6, e6⟩ := q6
        exact off S6 fun s7 J7 => ⟨_, _, _, J7, r6, e6⟩
theorem ps_try_asL (hs : X.stack = X.env :: X.outer) (hf : X.env.frame = some X.env.locals) (hN : X.N.Nodup) (hi : X.N[i]? = some n) (hln : X.env.kindOf n = some .local)
    (hb : ∀ (W : WX) (pn : List (Addr × Obj)) (xe : Value → Shared → Prop), Takes (X.tr pn xe) W → PSs (X.tr pn xe) body (tb W)) (hh : AsOk X n (h₀ :: hds) l) :
    PS X (.Try body (h₀ :: hds) [] [] pos) (fun D σ H => tb (wAsL X.K i D l) D σ H) := by
  constructor
  intro pins s σ H D I h
  have ok := I.ok
  refine wpAny_Try_except ?_
  have fr : X.A.frames = some (X.env :: X.outer) := by rw [ok.frames, hs]
  let xe : Value → Shared → Prop := fun e s₁ => wpAny (model X.prog X.w) X.A (noteFrame e X.env) (fun _ s₂ => wpAny (model X.prog X.w) X.A (setFlight e none) (fun _ s₃ =>
    wpAny (model X.prog X.w) X.A (handleBy e X.env (h₀ :: hds)) (SP X pins D) X.xe s₃) X.xe s₂) X.xe s₁
  have tk : Takes (X.tr (X.pn ++ pins) xe) (wAsL X.K i D l) := by
    rintro u s' ⟨a, B, sI, pins', σ', H', cls, d, rfl, J', nb, up, sky, na, os, ag, w⟩
    have J : Inv X pins σ' H' sI := J'.ofTry ok
    refine Sky.land Zc.steady fr hf (by rw [← hs]; exact sky) fun h3 fl3 up3 => ?_
    obtain ⟨oe3, vs3, he3, hz3, hd3⟩ := fl3.there
    have nfr : a ∉ frs (X.env :: X.outer) := fun hm => by
      obtain ⟨_, o', e', hnf⟩ := fl3.2.2.1.mem hm
      rw [he3] at e'; cases e'
      exact hnf _ hd3
    have nL : a ≠ X.env.locals := fun z => nfr (List.mem_filterMap.mpr ⟨X.env, List.mem_cons_self, by rw [hf, z]⟩)
    have nF : a ∉ X.fs := fun hm => by
      obtain ⟨e, he, q⟩ := List.mem_filterMap.mp hm
      exact nfr (List.mem_filterMap.mpr ⟨e, List.mem_cons_of_mem _ he, q⟩)
    exact clauses_run hN hi hln ok J nb os ag fl3 (up.trans up3) na nL nF hh w
  have run := (hb (wAsL X.K i D l) (X.pn ++ pins) xe tk).run [] s σ H D (I.toTry _) h
  refine wpAny_mono run (fun f s1 q => ?_) (fun e s1 he => he)
  rcases f with _ | _ | _ | u
  · obtain ⟨τ, H', J', q⟩ := q
    exact wpAny_execs_nil ⟨τ, H', J'.ofTry ok, q⟩
  · obtain ⟨τ, H', J', q⟩ := q
    exact ⟨τ, H', J'.ofTry ok, q⟩
  · obtain ⟨τ, H', J', q⟩ := q
    exact ⟨τ, H', J'.ofTry ok, q⟩
  · obtain ⟨v, τ, H', J', r, q⟩ := q
    exact ⟨v, τ, H', J'.ofTry ok, r, q⟩
end
end GP
-- HD
set_option maxRecDepth 100000
set_option maxHeartbeats 4000000
namespace GP
open PySem PySem.Spec PyProof.Rows L2
def wCl (K : PySem.W.Frag) (Q : VK) : List (Addr × Str) → XK
  | [] => fun _ _ _ => False
  | c :: r => fun cls d H => ∃ b, PySem.W.exmOne K cls (.ref c.1) = some b ∧ (b = true → cls = .ref c.1 ∧ ∃ (dd : Addr) (fs : List (Str × V)) (v : V), d = some dd ∧ H dd = some (.xd fs) ∧ fs.lookup valueS = some v ∧ ∀ p, H p = none → Q (.ref p) (upd H p (.tup [.str c.2, v]))) ∧
    (b = false → wCl K Q r cls d H)
def TTr (K : PySem.W.Frag) (cs : List (Addr × Str)) : (XK → Hp → VK → Prop) → Hp → VK → Prop := fun tl H Q => tl (wCl K Q cs) H fun _ H1 => 2 ≤ sizeLine ∧ ∀ p, H1 p = none → Q (.ref p) (upd H1 p (.tup [.str "", .non]))
def hdM (sgd : Scope) (en : Str) : List (Str × Str) → List ExceptHandler → Bool
  | [], [] => true
  | c :: r, .ExceptHandler (some (.Name x _)) (some n) [.Return (some (.Tuple [.Constant (.str l) _ _, .Attribute (.Name y _) f _] _ _)) _] _ :: hs => (x == c.1) && (n == en) && (l == c.2) && (y == en) && (f == valueS) && glB sgd x && dbgB x && hdM sgd en r hs
  | _, _ => false
def refM (sgd : Scope) (a en : Str) (cs : List (Str × Str)) : List Stmt → Bool
  | [.Try [.Expr (.Call (.Name y _) [] [] _) _] (h :: hs) [] [] _, .Return (some (.Tuple [.Constant (.str z) _ _, .Constant .none _ _] _ _)) _] => (y == a) && (z == ("" : Str)) && hdM sgd en cs (h :: hs)
  | _ => false
theorem takes_len {X : Cx} {W : WX} (t : Takes X W) : Takes X (fun cls d σ H => σ.length = X.N.length → W cls d σ H) := fun u s' ⟨a, B, sI, pins, σ, H, cls, d, e, I, nb, up, sky, na, os, ag, w⟩ =>
  t u s' ⟨a, B, sI, pins, σ, H, cls, d, e, I, nb, up, sky, na, os, ag, w I.len⟩
section
variable {X : Cx} {Ng : List Str} {x a en q : Str} {sgd : Scope} {g : Addr} {cdg : Value}
def clsOf (i : Nat) (cs : List (Addr × Str)) : List Cl1 := cs.map fun c => (.ref c.1, fun e cls d => tRet (tTup (tCons (tC (.str c.2)) (tCons (tXf e cls d c.1 valueS (tVar i)) tNil))))
theorem hd_ok {Xr : Cx} (hsc : Xr.env.scope = sgd) {i : Nat} (hen : Xr.N[i]? = some en) (hv : Vis sgd en) (p1 : plainN en = true) (cn : List (Str × Str)) : ∀ {ca : List (Addr × Str)} {hs : List ExceptHandler}, hdM sgd en cn hs = true → cn.map (·.2) = ca.map (·.2) →
    (∀ (j : Nat) c c', cn[j]? = some c → ca[j]? = some c' → Xr.mg c.1 = some (.ref c'.1) ∧ XfC Xr.K c'.1 ∧ PySem.W.findIn Xr.K (.ref c'.1) valueS = some none) → AsOk Xr en hs (clsOf i ca) := by
  induction cn with
  | nil =>
    intro ca hs h e f
    cases ca with
    | cons => cases e
    | nil => cases hs with
      | nil => exact .nil
      | cons => cases h
  | cons c cn ih =>
    intro ca hs h e f
    cases ca with
    | nil => cases e
    | cons c' ca =>
    cases hs with
    | nil => cases h
    | cons hh hs =>
    unfold hdM at h
    split at h
    · rename_i e1 e2; cases e1
    · rename_i e1 e2
      cases e1; cases e2
      simp only [Bool.and_eq_true, beq_iff_eq] at h
      obtain ⟨⟨⟨⟨⟨⟨⟨rfl, rfl⟩, h2⟩, rfl⟩, rfl⟩, h6⟩, h7⟩, h8⟩ := h
      simp only [List.map_cons, List.cons.injEq] at e
      obtain ⟨f1, f2, f3⟩ := f 0 _ _ rfl rfl
      have hg := gl_of hsc h6
      refine .cons ⟨hg, dbg_of h7, .inl f1⟩ (fun a oe cls d pn hz hf => ?_) (ih h8 e.2 fun j c c' e1 e2 => f (j + 1) c c' e1 e2)
      have pv := fun p => pe_var (X := Xr.suite a ((a, oe) :: pn)) (pos := p) hen (by show Vis Xr.env.scope _; rw [hsc]; exact hv) (plain_of p1).1 (plain_of p1).2
      have px := fun p p2 => pe_xf (pos := p2) (n := valueS) f2 f3 hz hf (pv p) rfl
      rw [← e.1, ← h2]
      exact pss_one (ps_ret (pe_tup (pa_cons pe_str (pa_cons (px _ _) pa_nil rfl) rfl)))
    · cases h
theorem ref_gives {cn : List (Str × Str)} {ca : List (Addr × Str)} {bg : List Stmt} {i : Nat} (h : refM sgd a en cn bg = true) (hm : cn.map (·.2) = ca.map (·.2)) (nd : Ng.Nodup) (h0 : Ng[0]? = some a) (hi : Ng[i]? = some en) (hle : sgd.names.lookup en = some .local) (p1 : plainN en = true)
    (f : ∀ (j : Nat) c c', cn[j]? = some c → ca[j]? = some c' → X.mg c.1 = some (.ref c'.1) ∧ XfC X.K c'.1 ∧ PySem.W.findIn X.K (.ref c'.1) valueS = some none) : LamX.GivesTo X Ng x sgd g cdg bg a q (TTr X.K ca) := by
  intro fa c' s H Q tl act hc ht
  unfold refM at h
  split at h
  rotate_left
  · cases h
  rename_i y q1 q2 q3 hd hs q4 z j1 q5 j2 q6 j3 q7 q8
  simp only [Bool.and_eq_true, beq_iff_eq] at h
  obtain ⟨⟨rfl, rfl⟩, h3⟩ := h
  have li : i < Ng.length := (List.getElem?_eq_some_iff.mp hi).1
  have as := hd_ok (Xr := (cxOf C8.CX0 X.prog X.w X.K X.mg X.base Ng x sgd g cdg X.A X.stack s H C8.E0).nox) rfl hi (.inl hle) p1 _ h3 hm f
  refine ⟨_, pss_cons (ps_try_asL (i := i) rfl rfl nd hi hle (tb := fun W D σ H => ∃ Ech : XK, (∀ cls d σ' H', Ech cls d H' → σ'.length = Ng.length → W cls d σ' H') ∧ σ[0]? = some (some (.ref fa)) ∧ H c' = some (LamX.CodeO c' q) ∧ tl Ech H fun _ H1 => D.nx σ H1) (fun W pn xe tk => ?_) as)
    (pss_one (ps_ret (pe_tup (pa_cons pe_str (pa_cons pe_non pa_nil rfl) rfl)))), ?_⟩
  · refine ⟨fun pins s' σ H' D I ⟨Ech, k1, k2, k3, k4⟩ => ?_⟩
    have hp := act (fun cls d σ H => σ.length = Ng.length → W cls d σ H) pn xe Ech q1 q2 (takes_len tk) k1
    exact (pss_one (ps_expr (pos := q3) hp rfl)).run pins s' σ H' D I ⟨k2, k3, k4⟩
  · refine ⟨wCl X.K Q ca, fun cls d σ' H' w hl => ?_, ?_, hc, ?_⟩
    · clear as f hm h3
      revert w
      have key : ∀ (D : Ends), D.rt = Q → ∀ cs : List (Addr × Str), wCl X.K Q cs cls d H' → wAsL X.K i D (clsOf i cs) cls d σ' H' := by
        intro D hD cs
        induction cs with
        | nil => exact fun w => w.elim
        | cons c r ih =>
          rintro ⟨b, e1, e2, e3⟩
          refine ⟨b, e1, fun hb a' ha' => ?_, fun hb => ih (e3 hb)⟩
          obtain ⟨ec, dd, fs, v, ed, eh, el, eq⟩ := e2 hb
          refine ⟨.ref a', by rw [List.getElem?_set_self (by rw [hl]; exact li)], rfl, ec, dd, fs, v, ed, eh, el, (by show 2 ≤ sizeLine; decide), ?_⟩
          intro p hp
          show D.rt _ _
          rw [hD]
          exact eq p hp
      exact key _ rfl ca
    · show (L2.start Ng [V.ref fa])[0]? = _
      rfl
    · exact ht
end
end GP
-- HE
set_option maxRecDepth 100000
set_option maxHeartbeats 4000000
namespace GP
open PySem PySem.Spec PyProof.Rows L2
def dLam (cs : List (Nat × Str)) (d : Sto → M PV) : Sto → M PV := fun ρ ω => match d ρ ω with
  | .ok _ ω1 => .ok (.tup [.str "", .non]) ω1
  | .exn t v ω1 => match cs.lookup t with
    | some l => .ok (.tup [.str l, v]) ω1
    | none => .bad
  | .bad => .bad
theorem keep_ext {ro : Option Addr} {H H' : Hp} (e : LamX.ExtN H H') : Keep ro H H' := ⟨fun b o h n _ => e b o h n, fun b h => by
  cases q : clr H b with
  | none => rfl
  | some o =>
    obtain ⟨e1, e2⟩ := of_clr q
    rw [clr_some (e b o e1 e2) e2] at h; cases h⟩
theorem RowR.extN {K : PySem.W.Frag} {ro : Option Addr} {H H' : Hp} {ω : Rw} (r : RowR K ro H ω) (e : LamX.ExtN H H') : RowR K ro H' ω := by
  cases ro with
  | none => trivial
  | some r0 =>
    obtain ⟨a1, a2, a3, sa, e1, e2⟩ := r
    exact ⟨a1, a2, a3, sa, e _ _ e1 (fun ps z => by cases z), e2.hold fun o z => e _ _ z fun ps z => by cases z⟩
def Apart (G : Pg) (cs : List (Nat × Str)) : Prop := ∀ i ∈ cs, ∀ j ∈ cs, PySem.W.exmOne G.K (.ref (G.cl i.1)) (.ref (G.cl j.1)) = some (i.1 == j.1)
def caOf (G : Pg) (cs : List (Nat × Str)) : List (Addr × Str) := cs.map fun c => (G.cl c.1, c.2)
section
variable {G : Pg} {cs : List (Nat × Str)} {Ex : XK} {ro : Option Addr} {V0 H0 : Hp} {ρ : Sto} {σ : L2.St} {S : List Nat} {H : Hp} {Q : VK} {ω : Rw} {d : Sto → M PV}
theorem wCl_of {t : Nat} {H' : Hp} {dd : Addr} {v : V} {l : Str} (hd : H' dd = some (.xd [(valueS, v)])) (q : ∀ p, H' p = none → Q (.ref p) (upd H' p (.tup [.str l, v]))) :
    ∀ cs : List (Nat × Str), (∀ j ∈ cs, PySem.W.exmOne G.K (.ref (G.cl t)) (.ref (G.cl j.1)) = some (t == j.1)) → cs.lookup t = some l → wCl G.K Q (caOf G cs) (.ref (G.cl t)) (some dd) H'
  | [], _, e => by cases e
  | c :: r, ap, e => by
    refine ⟨t == c.1, ap c (List.mem_cons_self), fun hb => ?_, fun hb => wCl_of hd q r (fun j hj => ap j (List.mem_cons_of_mem _ hj)) ?_⟩
    · have ht := beq_iff_eq.mp hb
      rw [List.lookup_cons, hb] at e
      cases e
      exact ⟨by show Value.ref (G.cl t) = Value.ref (G.cl c.1); rw [ht], dd, _, v, rfl, hd, by simp, q⟩
    · rw [List.lookup_cons, hb] at e
      exact e
theorem lookup_mem {t : Nat} {l : Str} : ∀ {cs : List (Nat × Str)}, cs.lookup t = some l → (t, l) ∈ cs
  | [], e => by cases e
  | c :: r, e => by
    rw [List.lookup_cons] at e
    cases hb : t == c.1 with
    | true =>
      rw [hb] at e; cases e
      rw [beq_iff_eq.mp hb]; exact List.mem_cons_self
    | false => rw [hb] at e; exact List.mem_cons_of_mem _ (lookup_mem e)
theorem lam_t (ap : Apart G cs) (h : tD G Ex S (dLam cs d) σ H Q) : LamX.tLam G.T (TTr G.K (caOf G cs)) (fun E => tD G E S d) σ H Q := by
  obtain ⟨ro, V0, H0, ρ, ω, I, h⟩ := h
  refine ⟨I.tabs, fun H1 ex T1 => ?_⟩
  have k1 : Keep ro H H1 := keep_ext ex
  have I1 := I.grow k1 (I.row.extN ex) T1
  refine ⟨ro, V0, H0, ρ, ω, I1, ?_⟩
  have fin : ∀ {H2 : Hp} {l : Str} {x : V} {v : PV} {ω1 : Rw}, Keep ro H1 H2 → SR G ro V0 H0 ρ ω1 σ H2 → Rep G ro (vw ro V0 H0 ρ σ H2 S) x v → Post G Ex ro V0 H0 ρ σ S (CE G ro) H Q (.ok (.tup [.str l, v]) ω1) → ∀ p, H2 p = none → Q (.ref p) (upd H2 p (.tup [.str l, x])) := by
    intro H2 l x v ω1 k2 I2 r q p hp
    have s3 : Same H2 (upd H2 p (.tup [.str l, x])) := same_upd hp
    refine q _ (.ref p) (k1.trans (k2.trans (.same s3))) (I2.same s3) ?_
    show Rep G ro _ _ _
    have le : Le (plus (vw ro V0 H0 ρ σ H2 S) H2 (upd H2 p (.tup [.str l, x]))) _ := plus_vw I2 (.same s3)
    refine Rep.mono le _ ?_
    simp only [Rep]
    exact ⟨p, _, rfl, .inl (.inl (plus_new hp)), by simp only [RepL]; exact ⟨_, _, rfl, by simp [Rep], _, _, rfl, r.mono (plus_le I2.vw_le), rfl⟩⟩
  unfold dLam at h
  revert h
  cases e : d ρ ω with
  | bad => exact id
  | ok a ω1 =>
    exact fun h H2 x k2 I2 c => ⟨by show 2 ≤ sizeLine; decide, fin k2 I2 (by simp [Rep]) h⟩
  | exn t v ω1 =>
    intro h H2 dd k2 I2 c
    obtain ⟨x, hx, rx⟩ := c
    cases hl : cs.lookup t with
    | none => simp only [hl] at h; exact h.elim
    | some l =>
      simp only [hl] at h
      exact wCl_of hx (fin k2 I2 rx h) cs (fun j hj => ap _ (lookup_mem hl) j hj) hl
end
structure Tel (G : Pg) (x : Str) (cs : List (Nat × Str)) (a en : Str) (Ng : List Str) (sg : Scope) (pg : Arguments) (bg : List Stmt) (g : Addr) (fd : FuncData) (i : Nat) (cn : List (Str × Str)) : Prop where
  F : FunD G.K x x pg bg sg [] [] g fd
  S : FnScope Ng [a] sg
  B : Binds G.K fd [a] []
  mg : G.mg x = some (.ref g)
  n0 : Ng[0]? = some a
  va : Vis sg a
  ref : refM sg a en cn bg = true
  hm : cn.map (·.2) = cs.map (·.2)
  hi : Ng[i]? = some en
  hle : sg.names.lookup en = some .local
  p1 : plainN en = true
  pa : plainN a = true
  px : dbgB x = true
  ap : Apart G cs
  f : ∀ (j : Nat) c c', cn[j]? = some c → cs[j]? = some c' → G.mg c.1 = some (.ref (G.cl c'.1)) ∧ XfC G.K (G.cl c'.1) ∧ PySem.W.findIn G.K (.ref (G.cl c'.1)) valueS = some none
def TelE (G : Pg) (x : Str) (cs : List (Nat × Str)) : Prop := ∃ a en Ng sg pg bg g fd i cn, Tel G x cs a en Ng sg pg bg g fd i cn
def LamD (G : Pg) (dc : Dc) : Prop := ∃ c P, LamX.TabB G.base G.mg c P ∧ dc.cd = .ref c ∧ (P, dc.ql ++ "<lambda>") ∈ G.T ∧ ∀ p ∈ G.T, p.1 = P → p.2 = dc.ql ++ "<lambda>"
section
variable {G : Pg} {X : Cx} {k : Nat} {dc : Dc} {N : List Str} {sc : Scope} {Ex : XK} {cs : List (Nat × Str)} {x : Str}
theorem ex_lam (hX : EX G (k + 2) dc N sc X Ex) {A : Around} {outer : List Env} {s : Shared} {H : Hp} {E : XK} {scope : Scope} {f c' : Addr} (hr : Room k (A.deeper (LamX.lamEnv X scope s.heap.objs.size f c'))) :
    EX G k ⟨(LamX.lamCx X A outer s H E scope f c').env.code, (LamX.lamCx X A outer s H E scope f c').env.qual, false⟩ N scope (LamX.lamCx X A outer s H E scope f c') E :=
  ⟨⟨hX.xg.prog, hX.xg.w, hX.xg.K, hX.xg.mg, hX.xg.base, rfl, hX.xg.nd, hr⟩, hX.n, rfl, passes_call (W := fun cls d _ H => E cls d H) (takes_of rfl rfl rfl rfl) (fun _ _ _ _ h => h), rfl, rfl, fun z => by cases z⟩
theorem de_lam (hT : TelE G x cs) (hL : LamD G dc) (hX : EX G (k + 2) dc N sc X Ex) (hg : glB sc x = true) {scope : Scope} (hs : LamX.lamSB sc scope = true) {body : Expr} {S : List Nat} {d : Sto → M PV} {p lpos pos : Pos}
    (hb : ∀ dc' X' Ex', dc'.gd = false → EX G k dc' N scope X' Ex' → DE X' G Ex' body S d) :
    DE X G Ex (.Call (.Name x p) [.Lambda ⟨[], [], none, [], [], none, []⟩ body scope lpos] [] pos) S (dLam cs d) := by
  obtain ⟨a, en, Ng, sg, pg, bg, g, fd, i, cn, T⟩ := hT
  obtain ⟨c, P, TB, hc, hm, hu⟩ := hL
  obtain ⟨oc, od, dV, kV, doc, pm, an, cdv, ct, osl, rfl, lk, hcd, _, _⟩ := T.F.ex
  refine PE.imp ?_ (fun σ H Q h => lam_t (G := G) T.ap h)
  refine LamX.pe_lamcall (T := G.T) (a := a) (g := g) (c := c) (P := P) (k := k) (Ng := Ng) (gl_of hX.sc hg) (hX.xg.mg ▸ T.mg) (hX.xg.K ▸ T.F.kp) (hX.xg.K ▸ lk) (hX.xg.K ▸ hcd) (hX.xg.K ▸ T.B) T.S T.n0 T.va ?_ (hX.xg.mg ▸ hX.xg.base ▸ TB) (hX.code.trans hc) (hX.qual ▸ hm) (fun p hp => by rw [hX.qual]; exact hu p hp) hX.xg.room (by rw [hX.sc]; exact LamX.lamS_by hs) rfl
    (fun q cl pm cv ctv => rfl) (fun A outer s H E f c' hr => hb _ _ _ rfl (ex_lam hX hr)) (dbg_of T.px) (plain_of T.pa).1 (plain_of T.pa).2
  have hcm : cn.map (·.2) = (caOf G cs).map (·.2) := by rw [T.hm]; simp [caOf]
  rw [← hX.xg.K]
  refine ref_gives T.ref hcm T.S.nd T.n0 T.hi T.hle T.p1 fun j c c' e1 e2 => ?_
  rw [caOf, List.getElem?_map] at e2
  obtain ⟨c0, e3, rfl⟩ := Option.map_eq_some_iff.mp e2
  obtain ⟨f1, f2, f3⟩ := T.f j c c0 e1 e3
  exact ⟨hX.xg.mg ▸ f1, hX.xg.K ▸ f2, hX.xg.K ▸ f3⟩
def lamM (N : List Str) (sg : Sg) (x : Str) (t : E) (sc : Scope) : Expr → Bool
  | .Call (.Name y _) [.Lambda ⟨[], [], none, [], [], none, []⟩ body scope _] [] _ => (y == x) && glB sc x && LamX.lamSB sc scope && m N sg t scope (.e body)
  | _ => false
theorem lam_xt (hT : TelE G x cs) (hL : LamD G dc) {sg : Sg} {Γ : Gam} {t : E} (H : ∀ cd ql, HX G k ⟨cd, ql, false⟩ N sg Γ) {e : Expr} (hX : EX G (k + 2) dc N sc X Ex) (h : lamM N sg x t sc e = true) : DE X G Ex e (den G Γ sg t).S (dLam cs (den G Γ sg t).v) := by
  unfold lamM at h
  split at h
  · simp only [Bool.and_eq_true, beq_iff_eq] at h
    obtain ⟨⟨⟨rfl, h2⟩, h3⟩, h4⟩ := h
    exact de_lam hT hL hX h2 h3 fun dc' X' Ex' hgd hX' => (snd_all (by have := H dc'.cd dc'.ql; rw [← hgd] at this; exact this) t).e _ _ _ _ hX' h4
  · cases h
end
end GP
-- HF
set_option maxRecDepth 100000
set_option maxHeartbeats 4000000
namespace GP
open PySem PySem.Spec PyProof.Rows L2
def rowAt (ρ : Sto) (i : Nat) : Bool := match ρ[i]? with
  | some (.sh .row) => true
  | _ => false
def rowGet (c : Int) (ω : Rw) : Option Int := if c = 1 then some ω.at_ else if c = 2 then some ω.mix else if c = 3 then some ω.rest else none
def rowPut (c : Int) (n : Int) (ω : Rw) : Option Rw :=
  if c = 1 then (if 0 ≤ n then some { ω with at_ := n } else none) else if c = 2 then (if 0 ≤ n ∧ n < 2147483647 then some { ω with mix := n } else none) else if c = 3 then some { ω with rest := n } else none
def dRow (i : Nat) (c : Int) : Sto → M PV := fun ρ ω => if rowAt ρ i = true then (match rowGet c ω with
  | some n => .ok (.int n) ω
  | none => .bad) else .bad
def dRlen (i : Nat) : Sto → M PV := fun ρ ω => if rowAt ρ i = true then .ok (.int ω.sc.length) ω else .bad
def dRcell (i : Nat) (e : Sto → M PV) : Sto → M PV := fun ρ ω => if rowAt ρ i = true then bnd (e ρ) (fun p ω1 => match p with
  | .int n => (match L2.atI ω.sc n with
    | some m => .ok (.int m) ω1
    | none => .bad)
  | _ => .bad) ω else .bad
def sRput (i : Nat) (c : Int) (e : Sto → M PV) : MS := fun ρ => if rowAt ρ i = true then bnd (e ρ) fun p ω => match p with
  | .int n => (match rowPut c n ω with
    | some ω' => .ok (.nx, ρ) ω'
    | none => .bad)
  | _ => .bad else fun _ => .bad
section
variable {G : Pg} {Ex : XK} {ro : Option Addr} {V0 H0 : Hp} {ρ : Sto} {ω : Rw} {σ : L2.St} {H : Hp} {S : List Nat} {i : Nat} {Q : VK}
theorem row_at (I : SR G ro V0 H0 ρ ω σ H) (h : rowAt ρ i = true) : ∃ r sa, ro = some r ∧ σ[i]? = some (some (.ref r)) ∧ 0 ≤ ω.at_ ∧ 0 ≤ ω.mix ∧ ω.mix < 2147483647 ∧ H r = some (.lst [.ref sa, .int ω.at_, .int ω.mix, .int ω.rest]) ∧ ScR G.K H sa (ω.sc.map V.int) := by
  unfold rowAt at h
  split at h
  · rename_i e
    have hl : i < σ.length := by rw [← I.len]; exact (List.getElem?_eq_some_iff.mp e).1
    obtain ⟨v, ev, r⟩ := I.slot i _ _ e (List.getElem?_eq_getElem hl)
    simp only [Rep] at r
    obtain ⟨r0, h1, rfl⟩ := r
    have rr := I.row
    rw [h1] at rr
    obtain ⟨a1, a2, a3, sa, e1, e2⟩ := rr
    exact ⟨r0, sa, h1, by rw [List.getElem?_eq_getElem hl, ev], a1, a2, a3, e1, e2⟩
  · cases h
theorem bad_of {α : Type} {m : Sto → M α} {C : Prop} (h : C) : C := h
theorem row_t {c : Int} (h : tD G Ex S (dRow i c) σ H Q) : tOp (rIxL G.K) (tVar i) (tC (.int c)) σ H Q := by
  obtain ⟨ro, V0, H0, ρ, ω, I, h⟩ := h
  unfold dRow at h
  split at h
  · rename_i c0
    obtain ⟨r, sa, _, e1, _, _, _, e2, _⟩ := row_at I c0
    cases hg : rowGet c ω with
    | none => rw [hg] at h; exact h.elim
    | some n =>
      rw [hg] at h
      refine ⟨_, e1, r, _, c, .int n, rfl, rfl, SqL.of e2, ?_, h H _ (.refl _ _) I (by simp [CE, Rep])⟩
      unfold rowGet at hg
      split at hg
      · rename_i q; cases hg; subst q; rfl
      · split at hg
        · rename_i q; cases hg; subst q; rfl
        · split at hg
          · rename_i q; cases hg; subst q; rfl
          · cases hg
  · exact h.elim
theorem rlen_t (h : tD G Ex S (dRlen i) σ H Q) : tCB (fun xs H Q => ∃ p ys, xs = [.ref p] ∧ (SqL G.K H p ys ∨ SqT G.K H p ys) ∧ Q (.int ys.length) H) (tCons (tOp (rIxL G.K) (tVar i) (tC (.int 0))) tNil) σ H Q := by
  obtain ⟨ro, V0, H0, ρ, ω, I, h⟩ := h
  unfold dRlen at h
  split at h
  · rename_i c0
    obtain ⟨r, sa, _, e1, _, _, _, e2, e3⟩ := row_at I c0
    have h1 := h H (.int ω.sc.length) (.refl _ _) I (by simp [CE, Rep])
    exact ⟨_, e1, r, _, 0, .ref sa, rfl, rfl, SqL.of e2, rfl, sa, _, rfl, .inl e3.sql, by rw [List.length_map]; exact h1⟩
  · exact h.elim
theorem rcell_t {e : Sto → M PV} (h : tD G Ex S (dRcell i e) σ H Q) : tOp (rIxL G.K) (tOp (rIxL G.K) (tVar i) (tC (.int 0))) (tD G Ex S e) σ H Q := by
  obtain ⟨ro, V0, H0, ρ, ω, I, h⟩ := h
  unfold dRcell at h
  split at h
  · rename_i c0
    obtain ⟨r, sa, er, e1, _, _, _, e2, e3⟩ := row_at I c0
    refine ⟨_, e1, r, _, 0, .ref sa, rfl, rfl, SqL.of e2, rfl, ro, V0, H0, ρ, ω, I, post_bnd (by simp) h fun p ω1 H1 x e k I1 c1 h1 => ?_⟩
    split at h1
    · rename_i n
      cases hm : L2.atI ω.sc n with
      | none => rw [hm] at h1; exact h1.elim
      | some m =>
        rw [hm] at h1
        have e4 : ScR G.K H1 sa (ω.sc.map V.int) := e3.hold fun o z => k.old _ _ z (fun ps z => by cases z) fun z2 => by rw [er] at z2; cases z2; rw [e2] at z; cases z
        have c2 : x = .int n := by simpa only [CE, Rep] using c1
        refine ⟨sa, _, n, .int m, rfl, c2, e4.sql, ?_, h1 H1 _ (.refl _ _) I1 (by simp [CE, Rep])⟩
        unfold L2.atI at hm ⊢
        rw [List.length_map]
        revert hm
        cases ixN ω.sc.length n with
        | none => intro z; cases z
        | some j =>
          intro z
          show (ω.sc.map V.int)[j]? = _
          rw [List.getElem?_map, show ω.sc[j]? = some m from z]; rfl
    · exact h1.elim
  · exact h.elim
theorem tabs_upd {T : List (Addr × Str)} {H : Hp} {r : Addr} {o o' : HO} (t : LamX.Tabs T H) (hr : H r = some o) (n : NoTb o) (nc : ∀ c q, o ≠ LamX.CodeO c q) : LamX.Tabs T (upd H r o') := fun p hp => by
  obtain ⟨ps, t1, t2, t3⟩ := t p hp
  refine ⟨ps, ?_, t2, fun pos cv hc => ?_⟩
  · rw [upd_ne (fun z => by rw [z, hr] at t1; cases t1; exact n _ rfl)]; exact t1
  · obtain ⟨c, h1, h2⟩ := t3 pos cv hc
    exact ⟨c, h1, by rw [upd_ne (fun z => by rw [z, hr] at h2; cases h2; exact nc _ _ rfl)]; exact h2⟩
theorem keep_row {H : Hp} {r : Addr} {xs ys : List V} (hr : H r = some (.lst xs)) : Keep (some r) H (upd H r (.lst ys)) := ⟨fun b o e n h => by rw [upd_ne (fun z => h (by rw [z]))]; exact e, fun b h => by
  by_cases c : b = r
  · subst c; rw [clr_same (fun ps z => by cases z)] at h; cases h
  · rw [clr_ne c] at h; exact h⟩
theorem rput_t {D : Ends} {c : Int} {e : Sto → M PV} (h : tDS G Ex [] (sRput i c e) D σ H) : tAsg (tD G Ex S e) (gSub (tVar i) (tC (.int c)) rSetL) D σ H := by
  obtain ⟨ro, V0, H0, ρ, ω, I, h⟩ := h
  unfold sRput at h
  split at h
  · rename_i c0
    refine ⟨ro, V0, H0, ρ, ω, I, posts_bnd I h fun p ω1 H1 x _ k I1 c1 h1 => ?_⟩
    split at h1
    · rename_i n _
      obtain ⟨r, sa, er, e1, b1, b2, b3, e2, e3⟩ := row_at I1 c0
      have c2 : x = .int n := by simpa only [CE, Rep] using c1
      cases hm : rowPut c n ω1 with
      | none => rw [hm] at h1; exact h1.elim
      | some ω2 =>
        rw [hm] at h1
        subst er
        have fin : ∀ j, ω2.sc = ω1.sc → 0 ≤ ω2.at_ → 0 ≤ ω2.mix → ω2.mix < 2147483647 → [V.ref sa, .int ω1.at_, .int ω1.mix, .int ω1.rest].set j x = [.ref sa, .int ω2.at_, .int ω2.mix, .int ω2.rest] → D.nx σ (upd H1 r (.lst ([V.ref sa, .int ω1.at_, .int ω1.mix, .int ω1.rest].set j x))) := by
          intro j q1 q2 q3 q4 q5
          rw [q5]
          have kk := keep_row (ys := [V.ref sa, .int ω2.at_, .int ω2.mix, .int ω2.rest]) e2
          have sc2 : ScR G.K (upd H1 r (.lst [V.ref sa, .int ω2.at_, .int ω2.mix, .int ω2.rest])) sa (ω2.sc.map V.int) := by
            rw [q1]
            exact e3.hold fun o z => by rw [upd_ne (fun z2 => by rw [z2, e2] at z; cases z)]; exact z
          refine h1 _ _ (I1.grow kk ⟨q2, q3, q4, sa, upd_same, sc2⟩ (tabs_upd I1.tabs e2 (fun ps z => by cases z) (fun _ _ z => by cases z))) ⟨fun l p a _ h3 h4 => ⟨h3, h4, ?_⟩, fun _ _ => rfl⟩
          rw [upd_ne (fun z => (I1.own l p a h3 h4).2 (by rw [z]))]
        refine ⟨_, e1, r, _, c, (c.toNat), rfl, rfl, e2, ?_, ?_⟩
        · unfold rowPut at hm
          split at hm
          · rename_i q; subst q; rfl
          · split at hm
            · rename_i q; subst q; rfl
            · split at hm
              · rename_i q; subst q; rfl
              · cases hm
        · unfold rowPut at hm
          split at hm
          · rename_i q; subst q
            split at hm
            · rename_i hn
              cases hm
              exact fin 1 rfl hn b2 b3 (by rw [c2]; rfl)
            · cases hm
          · split at hm
            · rename_i q; subst q
              split at hm
              · rename_i hn
                cases hm
                exact fin 2 rfl b1 hn.1 hn.2 (by rw [c2]; rfl)
              · cases hm
            · split at hm
              · rename_i q; subst q
                cases hm
                exact fin 3 rfl b1 b2 b3 (by rw [c2]; rfl)
              · cases hm
    · exact h1.elim
  · exact h.elim
end
def rowX (N : List Str) (sc : Scope) (i : Nat) (c : Int) : Expr → Bool
  | .Subscript (.Name y _) (.Constant (.int n) _ _) _ => (N[i]? == some y) && visB sc y && plainN y && (n == c)
  | _ => false
def rlenX (N : List Str) (sc : Scope) (i : Nat) : Expr → Bool
  | .Call (.Name x _) [l] [] _ => (x == ("len" : Str)) && glB sc x && rowX N sc i 0 l
  | _ => false
def rcellX (N : List Str) (sg : Sg) (sc : Scope) (i : Nat) (t : E) : Expr → Bool
  | .Subscript a e _ => rowX N sc i 0 a && m N sg t sc (.e e) && nsl e
  | _ => false
def rputX (N : List Str) (sg : Sg) (sc : Scope) (i : Nat) (c : Int) (t : E) : Stmt → Bool
  | .Assign [.Subscript (.Name y _) (.Constant (.int n) _ _) _] l _ => (N[i]? == some y) && visB sc y && plainN y && (n == c) && m N sg t sc (.e l)
  | _ => false
section
variable {G : Pg} {k : Nat} {dc : Dc} {N : List Str} {sg : Sg} {Γ : Gam} {X : Cx} {Ex : XK} {sc : Scope} {i : Nat} {c : Int}
theorem row_pe {e : Expr} (hX : EX G k dc N sc X Ex) (h : rowX N sc i c e = true) : PE X e (tOp (rIxL G.K) (tVar i) (tC (.int c))) ∧ nst e = true := by
  unfold rowX at h
  split at h
  · simp only [Bool.and_eq_true, beq_iff_eq] at h
    obtain ⟨⟨⟨h1, h2⟩, h3⟩, rfl⟩ := h
    exact ⟨pe_ix (hX.xg.K ▸ ix_list) (pe_var (hX.n ▸ h1) (by rw [hX.sc]; exact vis_of h2) (plain_of h3).1 (plain_of h3).2) pe_int (fun _ _ => rfl), rfl⟩
  · cases h
theorem de_rowX {e : Expr} (hX : EX G k dc N sc X Ex) (h : rowX N sc i c e = true) : DE X G Ex e [] (dRow i c) := PE.imp (row_pe hX h).1 fun σ H Q h => row_t h
theorem de_rlenX {e : Expr} (hf : G.mg "len" = none) (hX : EX G k dc N sc X Ex) (h : rlenX N sc i e = true) : DE X G Ex e [] (dRlen i) := by
  unfold rlenX at h
  split at h
  · simp only [Bool.and_eq_true, beq_iff_eq] at h
    obtain ⟨⟨rfl, h2⟩, h3⟩ := h
    obtain ⟨pe, ns⟩ := row_pe hX h3
    have cl := call_len_seq (X := X)
    rw [hX.xg.K] at cl
    exact PE.imp (pe_callB cl (gl_of hX.sc h2) (hX.xg.mg ▸ hf) rfl (pa_cons pe pa_nil (star_of ns)) (by decide) rfl (star_of ns) rfl) fun σ H Q h => rlen_t h
  · cases h
theorem de_rcellX {e : Expr} {t : E} (H : HX G k dc N sg Γ) (hX : EX G k dc N sc X Ex) (h : rcellX N sg sc i t e = true) : DE X G Ex e (den G Γ sg t).S (dRcell i (den G Γ sg t).v) := by
  unfold rcellX at h
  split at h
  · simp only [Bool.and_eq_true] at h
    obtain ⟨⟨h1, h2⟩, h3⟩ := h
    exact PE.imp (pe_ix (hX.xg.K ▸ ix_list) (row_pe hX h1).1 ((snd_all H t).e sc X Ex _ hX h2) (sl_of h3)) fun σ H Q h => rcell_t h
  · cases h
theorem ds_rputX {st : Stmt} {t : E} (H : HX G k dc N sg Γ) (hX : BX G k dc N sc X Ex) (h : rputX N sg sc i c t st = true) : DS X G Ex st [] (sRput i c (den G Γ sg t).v) := by
  unfold rputX at h
  split at h
  · simp only [Bool.and_eq_true, beq_iff_eq] at h
    obtain ⟨⟨⟨⟨h1, h2⟩, h3⟩, rfl⟩, h5⟩ := h
    exact PS.imp (ps_asg ((snd_all H t).e sc X Ex _ hX.toEX h5) (pg_sub (pe_var (hX.n ▸ h1) (by rw [hX.sc]; exact vis_of h2) (plain_of h3).1 (plain_of h3).2) pe_int set_list (asgS_of rfl)) (swSS_of (fun _ _ z => by cases z)) rfl rfl) fun D σ H h => rput_t h
  · cases h
end
end GP
-- HG
set_option maxRecDepth 100000
set_option maxHeartbeats 4000000
namespace GP
open PySem PySem.Spec PyProof.Rows L2
def N_tk : List Str := ["row", "many", "found", "cell"]
def tkE : Nat → E
  | 0 => .op .FloorDiv (.ext 3) (.var 1)
  | 1 => .op .Add (.ext 1) (.int 1)
  | 2 => .op .Mod (.bi .int (.cons (.op .Add (.op .Mult (.ext 2) (.int 48271)) (.int 11)) .nil)) (.int 2147483647)
  | 3 => .op .Mod (.bi .int (.cons (.op .Add (.op .Add (.op .Mult (.ext 2) (.int 48271)) (.var 3)) (.int 11)) .nil)) (.int 2147483647)
  | 4 => .op .FloorDiv (.var 3) (.var 1)
  | 5 => .op .Sub (.ext 1) (.int 1)
  | _ => .nil
def tkC : Nat → Int
  | 0 => 3 | 1 => 1 | 2 => 2 | 3 => 2 | 4 => 3 | _ => 0
def sg0 : Sg := { fn := [], mks := [], me := [], cl := [], er := [], gl := [], xm := fun j sc x => match j with
  | 1 => rowX N_tk sc 0 1 x | 2 => rowX N_tk sc 0 2 x | 3 => rowX N_tk sc 0 3 x | 4 => rlenX N_tk sc 0 x | _ => false }
def Γ0 : Gam := { fn := [], mks := [], me := [], xd := fun j => match j with
  | 1 => ([], dRow 0 1) | 2 => ([], dRow 0 2) | 3 => ([], dRow 0 3) | 4 => ([], dRlen 0) | _ => ([], fun _ _ => .bad) }
noncomputable def tkV (G : Pg) (j : Nat) : List Nat × (Sto → M PV) := ((den G Γ0 sg0 (tkE j)).S, (den G Γ0 sg0 (tkE j)).v)
def sg_tk : Sg := { sg0 with
  xm := fun j sc x => if j = 5 then rcellX N_tk sg0 sc 0 (tkE 5) x else sg0.xm j sc x
  xs := fun j sc x => decide (j < 5) && rputX N_tk sg0 sc 0 (tkC j) (tkE j) x }
noncomputable def Γtk (G : Pg) : Gam := { Γ0 with
  xd := fun j => if j = 5 then ((tkV G 5).1, dRcell 0 (tkV G 5).2) else Γ0.xd j
  xs := fun j => if j < 5 then ([], sRput 0 (tkC j) (tkV G j).2) else ([], fun _ _ => .bad) }
def t_tk : St := (.cons (.iff (.cmp .Gt (.ext 3) (.int 0)) (.cons (.set false 2 (.op .Mod (.bi .int (.cons (.ext 3) .nil)) (.var 1))) (.cons (.xt 0) (.cons (.ret (.var 2)) .nil))) .nil)
  (.cons (.xt 1) (.cons (.iff (.cmp .Gt (.ext 1) (.ext 4)) (.cons (.xt 2) (.cons (.ret (.op .Mod (.bi .int (.cons (.op .FloorDiv (.ext 2) (.int 7)) .nil)) (.var 1))) .nil)) .nil)
  (.cons (.set false 3 (.ext 5)) (.cons (.xt 3) (.cons (.iff (.cmp .GtE (.var 3) (.op .Pow (.int 10) (.int 18))) (.cons (.xt 4) .nil) .nil) (.cons (.ret (.op .Mod (.bi .int (.cons (.var 3) .nil)) (.var 1))) .nil)))))))
section
variable {G : Pg} {k : Nat} {dc : Dc}
theorem hx0 (fre : ∀ x ∈ freeN, G.mg x = none) (cls : ClsF G) (isi : IsiOk G) : HX G k dc N_tk sg0 Γ0 where
  fre := fre
  cls := cls
  isi := isi
  fn := fun f nm n h => by simp [sg0] at h
  mks := fun f nm t n h => by simp [sg0] at h
  me := fun f nm t n h => by simp [sg0] at h
  cl := fun x t h => by simp [sg0] at h
  er := fun x t h => by simp [sg0] at h
  rp := fun h => by simp [sg0] at h
  xt := fun j sc X Ex x hX h => by
    simp only [sg0] at h
    split at h
    · exact de_rowX hX h
    · exact de_rowX hX h
    · exact de_rowX hX h
    · exact de_rlenX (fre "len" (by decide)) hX h
    · cases h
  xs := fun j sc X Ex x hX h => by simp [sg0] at h
  gl := fun j g h => by simp [sg0] at h
theorem hxtk (fre : ∀ x ∈ freeN, G.mg x = none) (cls : ClsF G) (isi : IsiOk G) : HX G k dc N_tk sg_tk (Γtk G) where
  fre := fre
  cls := cls
  isi := isi
  fn := fun f nm n h => by simp [sg_tk, sg0] at h
  mks := fun f nm t n h => by simp [sg_tk, sg0] at h
  me := fun f nm t n h => by simp [sg_tk, sg0] at h
  cl := fun x t h => by simp [sg_tk, sg0] at h
  er := fun x t h => by simp [sg_tk, sg0] at h
  rp := fun h => by simp [sg_tk, sg0] at h
  xt := fun j sc X Ex x hX h => by
    simp only [sg_tk] at h
    unfold Γtk
    simp only
    split at h
    · rename_i h5
      rw [if_pos h5]
      exact de_rcellX (hx0 fre cls isi) hX h
    · rename_i h5
      rw [if_neg h5]
      exact (hx0 fre cls isi).xt j sc X Ex x hX h
  xs := fun j sc X Ex x hX h => by
    simp only [sg_tk, Bool.and_eq_true, decide_eq_true_eq] at h
    unfold Γtk
    simp only
    rw [if_pos h.1]
    exact ds_rputX (hx0 fre cls isi) hX h.2
  gl := fun j g h => by simp [sg_tk, sg0] at h
end
end GP
-- HH
set_option maxRecDepth 100000
set_option maxHeartbeats 4000000
namespace GP
open PySem PySem.Spec PyProof.Rows L2
@[irreducible] def Sat {α : Type} (r : R α) (P : α → Rw → Prop) (E : Nat → PV → Rw → Prop) : Prop := match r with
  | .ok a ω => P a ω
  | .exn t v ω => E t v ω
  | .bad => False
def nE : Nat → PV → Rw → Prop := fun _ _ _ => False
theorem Sat.mono {α : Type} {r : R α} {P P' : α → Rw → Prop} {E E' : Nat → PV → Rw → Prop} (h : Sat r P E) (hp : ∀ a ω, P a ω → P' a ω) (he : ∀ t v ω, E t v ω → E' t v ω) : Sat r P' E' := by
  cases r with
  | ok a ω => with_unfolding_all exact hp a ω h
  | exn t v ω => with_unfolding_all exact he t v ω h
  | bad => with_unfolding_all exact h
theorem Sat.of {α : Type} {r : R α} {P P' : α → Rw → Prop} {E : Nat → PV → Rw → Prop} (h : Sat r P nE) (hp : ∀ a ω, P a ω → P' a ω) : Sat r P' E := h.mono hp fun _ _ _ z => z.elim
theorem Sat.ok {α : Type} {r : R α} {P : α → Rw → Prop} (h : Sat r P nE) : ∃ a ω, r = .ok a ω ∧ P a ω := by
  cases r with
  | ok a ω => with_unfolding_all exact ⟨a, ω, rfl, h⟩
  | exn t v ω => with_unfolding_all exact h.elim
  | bad => with_unfolding_all exact h.elim
theorem sat_congr {α : Type} {r r' : R α} {P : α → Rw → Prop} {E : Nat → PV → Rw → Prop} (h : r = r') : Sat r P E = Sat r' P E := by rw [h]
def thenP (b : MS) (P : Fl × Sto → Rw → Prop) (E : Nat → PV → Rw → Prop) : Fl × Sto → Rw → Prop := fun r ω => match r.1 with
  | .nx => Sat (b r.2 ω) P E
  | f => P (f, r.2) ω
def OptS {α : Type} (o : Option α) (K : α → Prop) : Prop := match o with
  | some a => K a
  | none => False
@[simp] theorem optS_some {α : Type} {x : α} {K : α → Prop} : OptS (some x) K ↔ K x := .rfl
@[simp] theorem optS_none {α : Type} {K : α → Prop} : OptS (none : Option α) K ↔ False := .rfl
@[simp] theorem optS_ite {α : Type} {c : Prop} [Decidable c] {o o' : Option α} {K : α → Prop} : OptS (if c then o else o') K ↔ (c → OptS o K) ∧ (¬ c → OptS o' K) := by
  by_cases h : c <;> simp [h]
@[simp high] theorem optS_iteN {α : Type} {c : Prop} [Decidable c] {o : Option α} {K : α → Prop} : OptS (if c then o else none) K ↔ c ∧ OptS o K := by
  by_cases h : c <;> simp [h, OptS]
@[simp] theorem optS_map {α β : Type} {f : α → β} {o : Option α} {K : β → Prop} : OptS (o.map f) K ↔ OptS o fun x => K (f x) := by
  cases o <;> with_unfolding_all exact .rfl
theorem optS_congr {α : Type} {o o' : Option α} {K : α → Prop} (h : o = o') : OptS o K = OptS o' K := by rw [h]
def finP (P : PV → Rw → Prop) : Fl × Sto → Rw → Prop := fun r ω => match r.1 with
  | .ret p => P p ω
  | .nx => P .non ω
  | _ => False
section
variable {α β : Type} {P : α → Rw → Prop} {Q : PV → Rw → Prop} {QB : Bool → Rw → Prop} {QL : List PV → Rw → Prop} {QS : Fl × Sto → Rw → Prop} {E : Nat → PV → Rw → Prop} {ω : Rw} {ρ : Sto} {a b c d : Sto → M PV} {ta tb tc : Sto → M Bool} {la lb : Sto → M (List PV)} {s1 s2 : MS}
@[simp ↓] theorem sat_ok {x : α} : Sat (.ok x ω) P E ↔ P x ω := by with_unfolding_all exact .rfl
@[simp ↓] theorem sat_exn {t : Nat} {v : PV} : Sat (.exn t v ω : R α) P E ↔ E t v ω := by with_unfolding_all exact .rfl
@[simp ↓] theorem sat_bad : Sat (.bad : R α) P E ↔ False := by with_unfolding_all exact .rfl
@[simp ↓] theorem sat_ret {x : α} : Sat (ret x ω) P E ↔ P x ω := by with_unfolding_all exact .rfl
@[simp ↓] theorem sat_opt {o : Option α} : Sat (opt o ω) P E ↔ OptS o fun x => P x ω := by
  cases o <;> with_unfolding_all exact .rfl
@[simp ↓] theorem sat_iteP {c : Prop} [Decidable c] {r r' : R α} : Sat (if c then r else r') P E ↔ (c → Sat r P E) ∧ (¬ c → Sat r' P E) := by
  by_cases h : c <;> simp [h]
theorem sat_bnd {m : M β} {f : β → M α} : Sat (bnd m f ω) P E ↔ Sat (m ω) (fun x ω1 => Sat (f x ω1) P E) E := by
  unfold bnd
  cases m ω <;> with_unfolding_all exact .rfl
theorem sat_ite {k : Bool} {m m' : M α} : Sat ((if k = true then m else m') ω) P E ↔ (k = true → Sat (m ω) P E) ∧ (k = false → Sat (m' ω) P E) := by
  cases k <;> simp
@[simp ↓] theorem sat_var {i : Nat} : Sat (dVar i ρ ω) Q E ↔ OptS (slV ρ[i]?) fun x => Q x ω := sat_opt
@[simp ↓] theorem sat_C {p : PV} : Sat (dC p ρ ω) Q E ↔ Q p ω := by with_unfolding_all exact .rfl
@[simp ↓] theorem sat_2 {f : PV → PV → Option PV} : Sat (d2 f a b ρ ω) Q E ↔ Sat (a ρ ω) (fun p ω => Sat (b ρ ω) (fun q ω => OptS (f p q) fun r => Q r ω) E) E := by
  simp only [d2, sat_bnd, sat_opt]
@[simp ↓] theorem sat_1 {f : PV → Option PV} : Sat (d1 f a ρ ω) Q E ↔ Sat (a ρ ω) (fun p ω => OptS (f p) fun r => Q r ω) E := by
  simp only [d1, sat_bnd, sat_opt]
@[simp ↓] theorem sat_L {f : List PV → Option PV} : Sat (dL f la ρ ω) Q E ↔ Sat (la ρ ω) (fun p ω => OptS (f p) fun r => Q r ω) E := by
  simp only [dL, sat_bnd, sat_opt]
@[simp ↓] theorem sat_nil : Sat (dNil ρ ω) QL E ↔ QL [] ω := by with_unfolding_all exact .rfl
@[simp ↓] theorem sat_cons : Sat (dCons a la ρ ω) QL E ↔ Sat (a ρ ω) (fun p ω => Sat (la ρ ω) (fun ps ω => QL (p :: ps) ω) E) E := by
  simp only [dCons, sat_bnd, sat_ret]
@[simp ↓] theorem sat_tru : Sat (dTru a ρ ω) QB E ↔ Sat (a ρ ω) (fun p ω => OptS (truB p) fun k => QB k ω) E := by
  simp only [dTru, sat_bnd, sat_opt]
@[simp ↓] theorem sat_asB : Sat (dAsB a ρ ω) QB E ↔ Sat (a ρ ω) (fun p ω => OptS (asB p) fun k => QB k ω) E := by
  simp only [dAsB, sat_bnd, sat_opt]
@[simp ↓] theorem sat_tAnd : Sat (tAnd' ta tb ρ ω) QB E ↔ Sat (ta ρ ω) (fun k ω => (k = true → Sat (tb ρ ω) QB E) ∧ (k = false → QB false ω)) E := by
  simp only [tAnd', sat_bnd, sat_ite, sat_ret]
@[simp ↓] theorem sat_tOr : Sat (tOr' ta tb ρ ω) QB E ↔ Sat (ta ρ ω) (fun k ω => (k = true → QB true ω) ∧ (k = false → Sat (tb ρ ω) QB E)) E := by
  simp only [tOr', sat_bnd, sat_ite, sat_ret]
@[simp ↓] theorem sat_tNot : Sat (tNot' ta ρ ω) QB E ↔ Sat (ta ρ ω) (fun k ω => QB (!k) ω) E := by
  simp only [tNot', sat_bnd, sat_ret]
@[simp ↓] theorem sat_and : Sat (dAnd a b ρ ω) Q E ↔ Sat (a ρ ω) (fun p ω => OptS (asB p) fun k => (k = true → Sat (b ρ ω) Q E) ∧ (k = false → Q (.bl false) ω)) E := by
  simp only [dAnd, sat_bnd, sat_ite, sat_ret, sat_opt]
@[simp ↓] theorem sat_or : Sat (dOr a b ρ ω) Q E ↔ Sat (a ρ ω) (fun p ω => OptS (asB p) fun k => (k = true → Q (.bl true) ω) ∧ (k = false → Sat (b ρ ω) Q E)) E := by
  simp only [dOr, sat_bnd, sat_ite, sat_ret, sat_opt]
@[simp ↓] theorem sat_not : Sat (dNot a ρ ω) Q E ↔ Sat (a ρ ω) (fun p ω => OptS (asB p) fun k => Q (.bl (!k)) ω) E := by
  simp only [dNot, sat_bnd, sat_ret, sat_opt]
@[simp ↓] theorem sat_tif : Sat (dIte ta a b ρ ω) Q E ↔ Sat (ta ρ ω) (fun k ω => (k = true → Sat (a ρ ω) Q E) ∧ (k = false → Sat (b ρ ω) Q E)) E := by
  simp only [dIte, sat_bnd, sat_ite]
@[simp ↓] theorem sat_slc {lo hi : Option (Sto → M PV)} : Sat (dSlc a lo hi ρ ω) Q E ↔ Sat (a ρ ω) (fun p ω => Sat (dPart lo ρ ω) (fun l ω => Sat (dPart hi ρ ω) (fun h ω => OptS (slcP p l h) fun r => Q r ω) E) E) E := by
  simp only [dSlc, sat_bnd, sat_opt]
@[simp ↓] theorem sat_seq' : Sat (dSeq a ρ ω) QL E ↔ Sat (a ρ ω) (fun p ω => OptS (seqP p) fun r => QL r ω) E := by
  simp only [dSeq, sat_bnd, sat_opt]
@[simp ↓] theorem sat_enum : Sat (dEnum la ρ ω) QL E ↔ Sat (la ρ ω) (fun p ω => OptS (enumL p) fun r => QL r ω) E := by
  simp only [dEnum, sat_bnd, sat_opt]
@[simp ↓] theorem sat_zip : Sat (dZip la ρ ω) QL E ↔ Sat (la ρ ω) (fun p ω => OptS (zipL p) fun r => QL r ω) E := by
  simp only [dZip, sat_bnd, sat_opt]
@[simp ↓] theorem sat_callN {F : Fn} : Sat (dCallN F la ρ ω) Q E ↔ Sat (la ρ ω) (fun ps ω => Sat (F ps ω) Q E) E := by
  simp only [dCallN, sat_bnd]
@[simp ↓] theorem sat_bm {f : PV → List PV → Option PV} {cc : PV → Bool} : Sat (dBm cc f a la ρ ω) Q E ↔ Sat (a ρ ω) (fun p ω => cc p = true ∧ Sat (la ρ ω) (fun ps ω => OptS (f p ps) fun r => Q r ω) E) E := by
  simp only [dBm, sat_bnd]
  have : (fun (x : PV) (ω1 : Rw) => Sat ((if cc x = true then bnd (la ρ) fun ps => opt (f x ps) else fun _ => R.bad) ω1) Q E) = fun p ω => cc p = true ∧ Sat (la ρ ω) (fun ps ω => OptS (f p ps) fun r => Q r ω) E := by
    funext p ω
    by_cases h : cc p = true
    · rw [if_pos h]; simp only [sat_bnd, sat_opt, h, true_and]
    · rw [if_neg h]; simp [h, Sat]
  rw [this]
@[simp ↓] theorem sat_sNx : Sat (sNx ρ ω) QS E ↔ QS (.nx, ρ) ω := by with_unfolding_all exact .rfl
@[simp ↓] theorem sat_sBrk : Sat (sBrk ρ ω) QS E ↔ QS (.brk, ρ) ω := by with_unfolding_all exact .rfl
@[simp ↓] theorem sat_sCnt : Sat (sCnt ρ ω) QS E ↔ QS (.cnt, ρ) ω := by with_unfolding_all exact .rfl
@[simp ↓] theorem sat_sSeq : Sat (sSeq s1 s2 ρ ω) QS E ↔ Sat (s1 ρ ω) (thenP s2 QS E) E := by
  simp only [sSeq, sat_bnd]
  have : (fun (x : Fl × Sto) (ω1 : Rw) => Sat ((match x.1 with
      | .nx => s2 x.2
      | f => ret (f, x.2)) ω1) QS E) = thenP s2 QS E := by
    funext x ω
    obtain ⟨f, r⟩ := x
    cases f <;> with_unfolding_all rfl
  rw [← this]
  try rfl
@[simp ↓] theorem then_nx : thenP s2 QS E (.nx, ρ) ω ↔ Sat (s2 ρ ω) QS E := by with_unfolding_all exact .rfl
@[simp ↓] theorem then_ret {p : PV} : thenP s2 QS E (.ret p, ρ) ω ↔ QS (.ret p, ρ) ω := by with_unfolding_all exact .rfl
@[simp ↓] theorem then_brk : thenP s2 QS E (.brk, ρ) ω ↔ QS (.brk, ρ) ω := by with_unfolding_all exact .rfl
@[simp ↓] theorem then_cnt : thenP s2 QS E (.cnt, ρ) ω ↔ QS (.cnt, ρ) ω := by with_unfolding_all exact .rfl
@[simp ↓] theorem fin_ret {p : PV} : finP Q (.ret p, ρ) ω ↔ Q p ω := .rfl
@[simp ↓] theorem fin_nx : finP Q (.nx, ρ) ω ↔ Q .non ω := .rfl
@[simp ↓] theorem sat_sRet : Sat (sRet a ρ ω) QS E ↔ Sat (a ρ ω) (fun p ω => QS (.ret p, ρ) ω) E := by
  simp only [sRet, sat_bnd, sat_ret]
@[simp ↓] theorem sat_sRetN : Sat (sRetN ρ ω) QS E ↔ QS (.ret .non, ρ) ω := by with_unfolding_all exact .rfl
@[simp ↓] theorem sat_sIf : Sat (sIf ta s1 s2 ρ ω) QS E ↔ Sat (ta ρ ω) (fun k ω => (k = true → Sat (s1 ρ ω) QS E) ∧ (k = false → Sat (s2 ρ ω) QS E)) E := by
  simp only [sIf, sat_bnd, sat_ite]
@[simp ↓] theorem sat_sDrop : Sat (sDrop a ρ ω) QS E ↔ Sat (a ρ ω) (fun _ ω => QS (.nx, ρ) ω) E := by
  simp only [sDrop, sat_bnd, sat_ret]
@[simp ↓] theorem sat_sSet {fr : Bool} {S : List Nat} {i : Nat} : Sat (sSet fr S i a ρ ω) QS E ↔ Sat (a ρ ω) (fun p ω => QS (.nx, putS fr S i p ρ) ω) E := by
  simp only [sSet, sat_bnd, sat_ret]
@[simp ↓] theorem sat_sTgt {tg : Tg} {S : List Nat} : Sat (sTgt tg S a ρ ω) QS E ↔ Sat (a ρ ω) (fun p ω => OptS (tgtS tg S p ρ) fun r => QS r ω) E := by
  simp only [sTgt, sat_bnd, sat_opt]
@[simp ↓] theorem sat_sAug {i : Nat} {f : Int → Int → Int} : Sat (sAug i f a ρ ω) QS E ↔ OptS (intV (slV ρ[i]?)) fun n => Sat (a ρ ω) (fun p ω => OptS (intV (some p)) fun k => QS (.nx, ρ.set i (.sh (.int (f n k)))) ω) E := by
  simp only [sAug, sat_bnd, sat_ret, sat_opt]
@[simp ↓] theorem sat_sPar {cs : List PI1} : Sat (sPar cs ρ ω) QS E ↔ Sat (parM ρ cs ρ ω) QS E := by with_unfolding_all exact .rfl
@[simp ↓] theorem sat_par0 {ρ1 : Sto} : Sat (parM ρ [] ρ1 ω) QS E ↔ QS (.nx, ρ1) ω := by with_unfolding_all exact .rfl
@[simp ↓] theorem sat_par1 {ρ1 : Sto} {p1 : PI1} {cs : List PI1} : Sat (parM ρ (p1 :: cs) ρ1 ω) QS E ↔ Sat (p1.d ρ ω) (fun p ω => Sat (parM ρ cs (putS p1.fr p1.S p1.i p ρ1) ω) QS E) E := by
  simp only [parM, sat_bnd]
theorem sat_bc {k : Bool} {m : M α} : Sat ((if k = true then m else fun _ => .bad) ω) P E ↔ k = true ∧ Sat (m ω) P E := by
  cases k <;> simp [Sat]
@[simp ↓] theorem sat_sApp {i : Nat} {S : List Nat} : Sat (sApp i S a ρ ω) QS E ↔ lstAt ρ i = true ∧ Sat (a ρ ω) (fun p ω => OptS (appS i S p ρ) fun r => QS r ω) E := by
  simp only [sApp, sat_bc, sat_bnd, sat_opt]
@[simp ↓] theorem sat_sExt {i : Nat} {S : List Nat} : Sat (sExt i S a ρ ω) QS E ↔ lstAt ρ i = true ∧ Sat (a ρ ω) (fun p ω => OptS (extS i S p ρ) fun r => QS r ω) E := by
  simp only [sExt, sat_bc, sat_bnd, sat_opt]
@[simp ↓] theorem sat_sDput {bb : Bool} {i : Nat} {S : List Nat} : Sat (sDput bb i S a b ρ ω) QS E ↔ dicAt bb ρ i = true ∧ Sat (b ρ ω) (fun v ω => Sat (a ρ ω) (fun k ω => OptS (dputS bb i S k v ρ) fun r => QS r ω) E) E := by
  simp only [sDput, sat_bc, sat_bnd, sat_opt]
@[simp ↓] theorem sat_sLput {i : Nat} {S : List Nat} : Sat (sLput i S a b ρ ω) QS E ↔ lstAt ρ i = true ∧ Sat (b ρ ω) (fun v ω => Sat (a ρ ω) (fun k ω => OptS (lputS i S v k ρ) fun r => QS r ω) E) E := by
  simp only [sLput, sat_bc, sat_bnd, sat_opt]
@[simp ↓] theorem sat_sFput {G : Pg} {f : Str} {i : Nat} {S : List Nat} : Sat (sFput G f i S a ρ ω) QS E ↔ objAt ρ i = true ∧ Sat (a ρ ω) (fun v ω => OptS (fputS G f i S v ρ) fun r => QS r ω) E := by
  simp only [sFput, sat_bc, sat_bnd, sat_opt]
@[simp ↓] theorem sat_sRaise {t : Nat} : Sat (sRaise t a ρ ω) QS E ↔ Sat (a ρ ω) (fun v ω => E t v ω) E := by
  unfold sRaise
  rw [sat_bnd]
  with_unfolding_all exact .rfl
@[simp ↓] theorem sat_sFor {nf : Bool} {S : List Nat} {tg : Tg} {kill : List Nat} : Sat (sFor nf S la tg s1 kill ρ ω) QS E ↔ Sat (la ρ ω) (fun items ω => (nf = true → immL items = true ∧ Sat (forL tg s1 kill items (killS ρ kill) ω) QS E) ∧ (nf = false → Sat (forL tg s1 kill items (killS (frzS ρ S) kill) ω) QS E)) E := by
  cases nf
  · simp [sFor, sat_bnd]
  · simp only [sFor, sat_bnd, if_true, sat_bc]; simp
@[simp ↓] theorem sat_body {n : Nat} {ps : List PV} : Sat (bodyF n s1 ps ω) Q E ↔ Sat (s1 (startS n ps) ω) (finP Q) E := by
  unfold bodyF
  cases s1 (startS n ps) ω with
  | bad => with_unfolding_all exact .rfl
  | exn t v ω => with_unfolding_all exact .rfl
  | ok r ω =>
    obtain ⟨f, ρ'⟩ := r
    cases f <;> with_unfolding_all exact .rfl
end
def IntK (p : PV) (K : Int → Prop) : Prop := match p with
  | .int n => K n
  | _ => False
@[simp] theorem intK_int {n : Int} {K : Int → Prop} : IntK (.int n) K ↔ K n := .rfl
theorem intK_congr {p q : PV} {K : Int → Prop} (h : p = q) : IntK p K = IntK q K := by rw [h]
def ObjK (t : Nat) (p : PV) (K : List PV → Prop) : Prop := match p with
  | .obj t' fs => t' = t ∧ K fs
  | _ => False
@[simp] theorem objK_obj {t : Nat} {fs : List PV} {K : List PV → Prop} : ObjK t (.obj t fs) K ↔ K fs := ⟨fun h => h.2, fun h => ⟨rfl, h⟩⟩
theorem objK_congr {t : Nat} {p q : PV} {K : List PV → Prop} (h : p = q) : ObjK t p K = ObjK t q K := by rw [h]
def finI (P : PV → Rw → Prop) : Fl × Sto → Rw → Prop := fun r ω => match r.1, r.2[0]? with
  | .nx, some (Sl.ow p) => P p ω
  | _, _ => False
def lamE (cs : List (Nat × Str)) (Q : PV → Rw → Prop) : Nat → PV → Rw → Prop := fun t v ω => OptS (cs.lookup t) fun l => Q (.tup [.str l, v]) ω
section
variable {α β : Type} {P : α → Rw → Prop} {Q : PV → Rw → Prop} {QB : Bool → Rw → Prop} {QL : List PV → Rw → Prop} {QS : Fl × Sto → Rw → Prop} {E : Nat → PV → Rw → Prop} {ω : Rw} {ρ : Sto} {a b c d : Sto → M PV} {ta tb tc : Sto → M Bool} {la lb : Sto → M (List PV)} {s1 s2 : MS} {QO : Option Int → Rw → Prop}
@[simp ↓] theorem fin_I {p : PV} {ρ : Sto} : finI Q (.nx, .ow p :: ρ) ω ↔ Q p ω := .rfl
@[simp ↓] theorem sat_bodyI {n t : Nat} {ps : List PV} : Sat (bodyI n t s1 ps ω) Q E ↔ Sat (s1 (startI n t ps) ω) (finI Q) E := by
  unfold bodyI
  cases s1 (startI n t ps) ω with
  | bad => with_unfolding_all exact .rfl
  | exn t v ω => with_unfolding_all exact .rfl
  | ok r ω =>
    obtain ⟨f, ρ'⟩ := r
    unfold endI finI
    cases f <;> (try with_unfolding_all exact .rfl)
    simp only [sat_ok]
    cases ρ'[0]? with
    | none => with_unfolding_all exact .rfl
    | some s => cases s <;> with_unfolding_all exact .rfl
@[simp ↓] theorem sat_meth {F : Fn} {t : Nat} : Sat (dMethN F t a la ρ ω) Q E ↔ Sat (a ρ ω) (fun o ω => ObjK t o fun fs => Sat (la ρ ω) (fun ps ω => Sat (F (.obj t fs :: ps) ω) Q E) E) E := by
  unfold dMethN
  rw [sat_bnd]
  have : ∀ (x : PV) (ω1 : Rw), Sat ((match x with
      | .obj t' fs => if t' = t then bnd (la ρ) fun ps => F (.obj t' fs :: ps) else fun _ => .bad
      | _ => fun _ => .bad) ω1) Q E ↔ ObjK t x fun fs => Sat (la ρ ω1) (fun ps ω => Sat (F (.obj t fs :: ps) ω) Q E) E := by
    intro x ω1
    cases x <;> (try with_unfolding_all exact .rfl)
    rename_i t' fs
    by_cases h : t' = t
    · subst h; simp only [if_true, sat_bnd, objK_obj]
    · simp [h, ObjK, Sat]
  exact ⟨fun h => h.mono (fun x ω => (this x ω).mp) fun _ _ _ z => z, fun h => h.mono (fun x ω => (this x ω).mpr) fun _ _ _ z => z⟩
@[simp ↓] theorem sat_callv {sg : Sg} {Γ : Gam} {i n : Nat} : Sat (dCallV sg Γ i n la ρ ω) Q E ↔ OptS (fnV sg Γ n (slV ρ[i]?)) fun F => Sat (la ρ ω) (fun ps ω => Sat (F ps ω) Q E) E := by
  simp only [dCallV, sat_bnd, sat_opt]
@[simp ↓] theorem sat_ch {f g : PV → PV → Option PV} : Sat (dCh f g a b c ρ ω) Q E ↔ Sat (a ρ ω) (fun p ω => Sat (b ρ ω) (fun q ω => OptS (f p q) fun z => OptS (asB z) fun k => (k = true → Sat (c ρ ω) (fun s ω => OptS (g q s) fun r => Q r ω) E) ∧ (k = false → Q (.bl false) ω)) E) E := by
  simp only [dCh, sat_bnd, sat_opt, sat_ite, sat_ret]
@[simp ↓] theorem sat_part0 : Sat (dPart none ρ ω) QO E ↔ QO none ω := by with_unfolding_all exact .rfl
@[simp ↓] theorem sat_part1 : Sat (dPart (some a) ρ ω) QO E ↔ Sat (a ρ ω) (fun p ω => IntK p fun i => QO (some i) ω) E := by
  unfold dPart
  rw [sat_bnd]
  have : ∀ (x : PV) (ω1 : Rw), Sat ((match x with
      | .int i => ret (some i)
      | _ => fun _ => R.bad) ω1) QO E ↔ IntK x fun i => QO (some i) ω1 := by
    intro x ω1
    cases x <;> with_unfolding_all exact .rfl
  exact ⟨fun h => h.mono (fun x ω => (this x ω).mp) fun _ _ _ z => z, fun h => h.mono (fun x ω => (this x ω).mpr) fun _ _ _ z => z⟩
@[simp ↓] theorem sat_lam {cs : List (Nat × Str)} : Sat (dLam cs a ρ ω) Q E ↔ Sat (a ρ ω) (fun _ ω => Q (.tup [.str "", .non]) ω) (lamE cs Q) := by
  unfold dLam lamE
  cases a ρ ω with
  | ok _ _ => with_unfolding_all exact .rfl
  | bad => with_unfolding_all exact .rfl
  | exn t v ω1 =>
    simp only [sat_exn]
    cases cs.lookup t <;> with_unfolding_all exact .rfl
@[simp ↓] theorem sat_yes : Sat (dYes ρ ω) QB E ↔ QB true ω := by with_unfolding_all exact .rfl
theorem sat_eq {r : R α} {x : α} (h : Sat r (fun a ω' => a = x ∧ ω' = ω) nE) : r = .ok x ω := by
  obtain ⟨a, ω', rfl, rfl, rfl⟩ := h.ok
  rfl
end
end GP
-- HI
set_option maxRecDepth 100000
set_option maxHeartbeats 4000000
namespace GP
open PySem PySem.Spec PyProof.Rows L2
structure OkRw (ω : Rw) : Prop where
  a : 0 ≤ ω.at_
  m : 0 ≤ ω.mix
  l : ω.mix < 2147483647
def lI (l : List Int) : PV := .lst (l.map .int)
def lT (l : List (List Int)) : PV := .lst (l.map tupI)
def tT (l : List (List Int)) : PV := .tup (l.map tupI)
section
variable {a b i j : Int} {l r : List Int} {L M : List (List Int)} {p q : PV} {ps qs : List PV}
@[simp] theorem slV_sh : slV (some (.sh p)) = some p := rfl
@[simp] theorem slV_ow : slV (some (.ow p)) = some p := rfl
@[simp] theorem addP_int : addP (.int a) (.int b) = some (.int (a + b)) := rfl
@[simp] theorem subP_int : subP (.int a) (.int b) = some (.int (a - b)) := rfl
@[simp] theorem mulP_int : mulP (.int a) (.int b) = if -(2 ^ 64) < a ∧ a < 2 ^ 64 then some (.int (a * b)) else none := by simp [mulP]
@[simp] theorem divP_int : divP (.int a) (.int b) = if 0 < b ∧ b < 1073741824 then some (.int (a / b)) else none := by simp [divP]
@[simp] theorem modP_int : modP (.int a) (.int b) = if 0 < b then some (.int (a % b)) else none := by simp [modP]
@[simp] theorem powP_int : powP (.int a) (.int b) = if 0 ≤ b ∧ b ≤ 100 ∧ a.natAbs < 2 ^ 64 then some (.int (a ^ b.toNat)) else none := by simp [powP]
@[simp] theorem negP_int : negP (.int a) = some (.int (-a)) := rfl
@[simp] theorem addP_lst : addP (.lst ps) (.lst qs) = if ps.length + qs.length ≤ sizeLine then some (.lst (ps ++ qs)) else none := by simp [addP, fits]
@[simp] theorem addP_tup : addP (.tup ps) (.tup qs) = if ps.length + qs.length ≤ sizeLine then some (.tup (ps ++ qs)) else none := by simp [addP, fits]
@[simp] theorem ltP_int : ltP (.int a) (.int b) = some (.bl (decide (a < b))) := rfl
@[simp] theorem leP_int : leP (.int a) (.int b) = some (.bl (decide (a ≤ b))) := rfl
@[simp] theorem gtP_int : gtP (.int a) (.int b) = some (.bl (decide (b < a))) := rfl
@[simp] theorem geP_int : geP (.int a) (.int b) = some (.bl (decide (b ≤ a))) := rfl
@[simp] theorem intP_int : intP [.int a] = some (.int a) := rfl
@[simp] theorem intP_bl {c : Bool} : intP [.bl c] = some (.int (if c then 1 else 0)) := rfl
@[simp] theorem asB_bl {c : Bool} : asB (.bl c) = some c := rfl
@[simp] theorem truB_bl {c : Bool} : truB (.bl c) = some c := rfl
@[simp] theorem truB_int : truB (.int a) = some (a != 0) := rfl
@[simp] theorem truB_lst : truB (.lst ps) = some (!ps.isEmpty) := rfl
@[simp] theorem truB_tup : truB (.tup ps) = some (!ps.isEmpty) := rfl
@[simp] theorem truB_non : truB .non = some false := rfl
@[simp] theorem mkTup_s : mkTup ps = if ps.length ≤ sizeLine then some (.tup ps) else none := by simp [mkTup, fits]
@[simp] theorem mkLst_s : mkLst ps = if ps.length ≤ sizeLine then some (.lst ps) else none := by simp [mkLst, fits]
@[simp] theorem lenP_lst : lenP [.lst ps] = some (.int ps.length) := rfl
@[simp] theorem lenP_tup : lenP [.tup ps] = some (.int ps.length) := rfl
@[simp] theorem listP_lst : listP [.lst ps] = some (.lst ps) := rfl
@[simp] theorem listP_tup : listP [.tup ps] = some (.lst ps) := rfl
@[simp] theorem listP_rng : listP [.rng a b] = if rgOk a b = true then some (.lst ((rgI a b).map .int)) else none := rfl
@[simp] theorem tupleP_lst : tupleP [.lst ps] = some (.tup ps) := rfl
@[simp] theorem tupleP_tup : tupleP [.tup ps] = some (.tup ps) := rfl
@[simp] theorem tupleP_rng : tupleP [.rng a b] = if rgOk a b = true then some (.tup ((rgI a b).map .int)) else none := rfl
@[simp] theorem rangeP_1 : rangeP [.int a] = some (.rng 0 a) := rfl
@[simp] theorem rangeP_2 : rangeP [.int a, .int b] = some (.rng a b) := rfl
@[simp] theorem seqP_lst : seqP (.lst ps) = some ps := rfl
@[simp] theorem seqP_tup : seqP (.tup ps) = some ps := rfl
@[simp] theorem seqP_rng : seqP (.rng a b) = if rg62 a b = true then some ((rgI a b).map .int) else none := rfl
@[simp] theorem sqP_lst : sqP (.lst ps) = some ps := rfl
@[simp] theorem sqP_tup : sqP (.tup ps) = some ps := rfl
@[simp] theorem idxP_lst : idxP (.lst ps) (.int i) = L2.atI ps i := rfl
@[simp] theorem idxP_tup : idxP (.tup ps) (.int i) = L2.atI ps i := rfl
@[simp] theorem slcP_lst {lo hi : Option Int} : slcP (.lst ps) lo hi = some (.lst (cutP ps lo hi)) := rfl
@[simp] theorem slcP_tup {lo hi : Option Int} : slcP (.tup ps) lo hi = some (.tup (cutP ps lo hi)) := rfl
@[simp] theorem intsOf_m : intsOf (l.map .int) = some l := intsOf_map l
@[simp] theorem eqB_int : eqB (.int a) (.int b) = some (decide (a = b)) := by
  simp [eqB, okn, pd, PyData.eqv]
  rfl
theorem oknL_int {n : Nat} : ∀ l : List Int, oknL n (l.map .int) = true
  | [] => by simp [oknL]
  | x :: l => by simp [oknL, okn, oknL_int l]
theorem oknL_tup {n : Nat} : ∀ L : List (List Int), oknL (n + 1) (L.map tupI) = true
  | [] => by simp [oknL]
  | x :: l => by simp [oknL, tupI, okn, oknL_tup l, oknL_int]
theorem pdL_int : ∀ l : List Int, pdL (l.map .int) = l.map .int
  | [] => by simp [pdL]
  | x :: l => by simp [pdL, pd, pdL_int l]
theorem eqvAll_int : ∀ l r : List Int, PyData.eqvAll (l.map .int) (r.map .int) = decide (l = r)
  | [], [] => by simp [PyData.eqvAll]
  | [], _ :: _ => by simp [PyData.eqvAll]
  | _ :: _, [] => by simp [PyData.eqvAll]
  | x :: l, y :: r => by
    simp only [List.map_cons, PyData.eqvAll, PyData.eqv, eqvAll_int l r]
    by_cases h : x = y <;> simp [h]
theorem eqv_tup : PyData.eqv (pd (tupI l)) (pd (tupI r)) = decide (l = r) := by
  simp only [tupI, pd, PyData.eqv, pdL_int, eqvAll_int]
@[simp] theorem eqB_tup : eqB (tupI l) (tupI r) = some (decide (l = r)) := by
  simp only [eqB, eqv_tup]
  simp [tupI, okn, oknL_int]
theorem pdL_tup : ∀ L : List (List Int), pdL (L.map tupI) = L.map fun l => .tuple (l.map .int)
  | [] => by simp [pdL]
  | x :: l => by
    have := pdL_tup l
    simp [pdL, pd, this, tupI, pdL_int]
theorem eqvAll_tup : ∀ L M : List (List Int), PyData.eqvAll (L.map fun l => PyData.tuple (l.map .int)) (M.map fun l => PyData.tuple (l.map .int)) = decide (L = M)
  | [], [] => by simp [PyData.eqvAll]
  | [], _ :: _ => by simp [PyData.eqvAll]
  | _ :: _, [] => by simp [PyData.eqvAll]
  | x :: l, y :: r => by
    simp only [List.map_cons, PyData.eqvAll, PyData.eqv, eqvAll_tup l r, eqvAll_int]
    by_cases h : x = y <;> simp [h]
@[simp] theorem eqB_lT : eqB (.lst (L.map tupI)) (.lst (M.map tupI)) = some (decide (L = M)) := by
  simp only [eqB, pd, PyData.eqv, pdL_tup, eqvAll_tup]
  simp [okn, oknL_tup]
@[simp] theorem eqB_tT : eqB (.tup (L.map tupI)) (.tup (M.map tupI)) = some (decide (L = M)) := by
  simp only [eqB, pd, PyData.eqv, pdL_tup, eqvAll_tup]
  simp [okn, oknL_tup]
@[simp] theorem eqB_lI : eqB (.lst (l.map .int)) (.lst (r.map .int)) = some (decide (l = r)) := by
  simp only [eqB, pd, PyData.eqv, pdL_int, eqvAll_int]
  simp [okn, oknL_int]
@[simp] theorem eqB_tI : eqB (.tup (l.map .int)) (.tup (r.map .int)) = some (decide (l = r)) := eqB_tup
theorem eqB_nil (h : oknL 59 ps = true) : eqB (.lst ps) (.lst []) = some ps.isEmpty := by
  cases ps with
  | nil => simp [eqB, okn, oknL, pd, PyData.eqv, pdL, PyData.eqvAll]
  | cons p ps =>
    simp only [oknL, Bool.and_eq_true] at h
    simp [eqB, okn, h.1, h.2, oknL, pd, PyData.eqv, pdL, PyData.eqvAll]
@[simp] theorem eqB_lI_nil : eqB (.lst (l.map .int)) (.lst []) = some (decide (l = [])) := eqB_lI (r := [])
@[simp] theorem eqB_lT_nil : eqB (.lst (L.map tupI)) (.lst []) = some (decide (L = [])) := eqB_lT (M := [])
theorem anyEq_int : ∀ l : List Int, anyEq (.int a) (l.map .int) = decide (a ∈ l)
  | [] => by simp [anyEq]
  | x :: l => by
    simp only [List.map_cons, anyEq, pd, PyData.eqv, anyEq_int l]
    by_cases h : x = a
    · simp [h]
    · simp [h, Ne.symm h]
theorem anyEq_tup : ∀ L : List (List Int), anyEq (tupI l) (L.map tupI) = decide (l ∈ L)
  | [] => by simp [anyEq]
  | x :: L => by
    simp only [List.map_cons, anyEq, eqv_tup, anyEq_tup L]
    by_cases h : x = l
    · simp [h]
    · simp [h, Ne.symm h]
@[simp] theorem inB_lI : inB (.int a) (.lst (l.map .int)) = some (decide (a ∈ l)) := by simp [inB, okn, oknL_int, anyEq_int]
@[simp] theorem inB_tI : inB (.int a) (.tup (l.map .int)) = some (decide (a ∈ l)) := by simp [inB, okn, oknL_int, anyEq_int]
@[simp] theorem inB_tupI : inB (.int a) (tupI l) = some (decide (a ∈ l)) := inB_tI
@[simp] theorem inB_lT : inB (tupI l) (.lst (L.map tupI)) = some (decide (l ∈ L)) := by
  have : okn 50 (tupI l) = true := by simp [tupI, okn, oknL_int]
  simp [inB, this, oknL_tup, anyEq_tup]
@[simp] theorem inB_tT : inB (tupI l) (.tup (L.map tupI)) = some (decide (l ∈ L)) := by
  have : okn 50 (tupI l) = true := by simp [tupI, okn, oknL_int]
  simp [inB, this, oknL_tup, anyEq_tup]
@[simp] theorem eqP_s : eqP p q = (eqB p q).map .bl := rfl
@[simp] theorem neP_s : neP p q = (eqB p q).map fun b => .bl (!b) := rfl
@[simp] theorem inP_s : inP p q = (inB p q).map .bl := rfl
@[simp] theorem ninP_s : ninP p q = (inB p q).map fun b => .bl (!b) := rfl
theorem ixN_map {α β : Type} {f : α → β} {xs : List α} : L2.atI (xs.map f) i = (L2.atI xs i).map f := by
  unfold L2.atI
  rw [List.length_map]
  cases L2.ixN xs.length i with
  | none => rfl
  | some j => simp
theorem cutP_map {α β : Type} {f : α → β} {xs : List α} {lo hi : Option Int} : cutP (xs.map f) lo hi = (cutP xs lo hi).map f := by
  unfold cutP
  simp [List.map_take, List.map_drop]
end
section
variable {ρ : Sto} {ω : Rw} {Q : PV → Rw → Prop} {QS : Fl × Sto → Rw → Prop} {E : Nat → PV → Rw → Prop} {da : Sto → M PV} {n : Nat} {c : Int}
@[simp ↓] theorem sat_row : Sat (dRow n c ρ ω) Q E ↔ rowAt ρ n = true ∧ OptS (rowGet c ω) fun n => Q (.int n) ω := by
  unfold dRow
  cases rowAt ρ n <;> cases rowGet c ω <;> simp [Sat]
@[simp ↓] theorem sat_rlen : Sat (dRlen n ρ ω) Q E ↔ rowAt ρ n = true ∧ Q (.int ω.sc.length) ω := by
  unfold dRlen
  cases rowAt ρ n <;> simp [Sat]
@[simp ↓] theorem sat_rcell : Sat (dRcell n da ρ ω) Q E ↔ rowAt ρ n = true ∧ Sat (da ρ ω) (fun p ω1 => IntK p fun n => OptS (L2.atI ω.sc n) fun m => Q (.int m) ω1) E := by
  unfold dRcell
  by_cases h : rowAt ρ n = true
  · rw [if_pos h, sat_bnd]
    simp only [h, true_and]
    cases da ρ ω with
    | bad => with_unfolding_all exact .rfl
    | exn t v ω => with_unfolding_all exact .rfl
    | ok p ω1 =>
      cases p <;> (try with_unfolding_all exact .rfl)
      rename_i n
      simp only [Sat, intK_int]
      cases L2.atI ω.sc n <;> with_unfolding_all exact .rfl
  · rw [if_neg h]; simp [h, Sat]
@[simp ↓] theorem sat_rput : Sat (sRput n c da ρ ω) QS E ↔ rowAt ρ n = true ∧ Sat (da ρ ω) (fun p ω1 => IntK p fun n => OptS (rowPut c n ω1) fun ω2 => QS (.nx, ρ) ω2) E := by
  unfold sRput
  by_cases h : rowAt ρ n = true
  · rw [if_pos h, sat_bnd]
    simp only [h, true_and]
    cases da ρ ω with
    | bad => with_unfolding_all exact .rfl
    | exn t v ω => with_unfolding_all exact .rfl
    | ok p ω1 =>
      cases p <;> (try with_unfolding_all exact .rfl)
      rename_i n
      simp only [Sat, intK_int]
      cases rowPut c n ω1 <;> with_unfolding_all exact .rfl
  · rw [if_neg h]; simp [h, Sat]
end
theorem atI_some {α : Type} {l : List α} {i : Int} (h0 : 0 ≤ i) (h1 : i < l.length) : ∃ x, L2.atI l i = some x ∧ l[i.toNat]? = some x := by
  have hl : i.toNat < l.length := by omega
  refine ⟨l[i.toNat], ?_, List.getElem?_eq_getElem hl⟩
  unfold L2.atI L2.ixN
  rw [if_pos h0, if_pos (by omega)]
  exact List.getElem?_eq_getElem hl
noncomputable def F_tk (G : Pg) : Fn := bodyF 4 (dens G (Γtk G) sg_tk t_tk).s
theorem taken (G : Pg) (many : Int) (ω : Rw) (h0 : 0 < many) (h1 : many < 1073741824) (o : OkRw ω) : Sat (F_tk G [.row, .int many] ω) (fun r ω' => ∃ n, r = .int n ∧ 0 ≤ n ∧ n < many ∧ OkRw ω') nE := by
  obtain ⟨o1, o2, o3⟩ := o
  unfold F_tk
  simp only [t_tk, dens, den, dv, Γtk, Γ0, tkV, tkE, tkC]
  simp [startS, rowAt, rowGet, cmpP, binP, biP, putS, keepS, ownS, hasOw, slOf, rowPut]
  have m1 : ∀ x : Int, 0 ≤ x % many ∧ x % many < many := fun x => ⟨Int.emod_nonneg _ (by omega), Int.emod_lt_of_pos _ h0⟩
  have m2 : ∀ x : Int, 0 ≤ x % 2147483647 ∧ x % 2147483647 < 2147483647 := fun x => ⟨Int.emod_nonneg _ (by decide), Int.emod_lt_of_pos _ (by decide)⟩
  refine ⟨fun h => ⟨h0, ⟨h0, h1⟩, (m1 _).1, (m1 _).2, o1, o2, o3⟩, fun h => ⟨by omega, fun h2 => ⟨by omega, m2 _, h0, (m1 _).1, (m1 _).2, by show 0 ≤ ω.at_ + 1; omega, (m2 _).1, (m2 _).2⟩, fun h2 => ?_⟩⟩
  obtain ⟨x, hx, _⟩ := atI_some (l := ω.sc) o1 (by omega)
  rw [hx]
  exact ⟨by omega, m2 _, fun _ => ⟨⟨h0, h1⟩, h0, (m1 _).1, (m1 _).2, by show 0 ≤ ω.at_ + 1; omega, (m2 _).1, (m2 _).2⟩, fun _ => ⟨h0, (m1 _).1, (m1 _).2, by show 0 ≤ ω.at_ + 1; omega, (m2 _).1, (m2 _).2⟩⟩
end GP
-- MA
set_option maxRecDepth 100000
set_option maxHeartbeats 4000000
namespace GP
open PySem PySem.Spec PyProof.Rows L2
@[irreducible] def CompS (c : Sto → M Bool) (e : Sto → M PV) (tg : Tg) (ρ : Sto) (items : List PV) (ω : Rw) (K : List PV → Rw → Prop) : Prop := match compL c e tg ρ items ω with
  | some r => K r.1 r.2
  | none => False
section
variable {α : Type} {S vs is kill : List Nat} {it : Sto → M (List PV)} {c : Sto → M Bool} {e : Sto → M PV} {tg : Tg} {ρ ρ1 : Sto} {ω : Rw} {Q : PV → Rw → Prop} {E : Nat → PV → Rw → Prop} {K K' : List PV → Rw → Prop} {p : PV} {ps : List PV} {QS : Fl × Sto → Rw → Prop} {body : MS}
@[simp ↓] theorem sat_comp : Sat (dComp S it c e tg vs ρ ω) Q E ↔ Sat (it ρ ω) (fun items ω => items.length ≤ sizeLine ∧ CompS c e tg (wipeS (frzS ρ S) vs) items ω fun l ω => Q (.lst l) ω) E := by
  unfold dComp
  rw [sat_bnd]
  have : ∀ (items : List PV) (ω : Rw), Sat (if fits items.length = true then (match compL c e tg (wipeS (frzS ρ S) vs) items ω with
      | some r => .ok (.lst r.1) r.2
      | none => .bad) else .bad) Q E ↔ items.length ≤ sizeLine ∧ CompS c e tg (wipeS (frzS ρ S) vs) items ω fun l ω => Q (.lst l) ω := by
    intro items ω
    by_cases h : fits items.length = true
    · rw [if_pos h]
      unfold CompS
      cases compL c e tg (wipeS (frzS ρ S) vs) items ω with
      | none => simp [Sat]
      | some r => simp [Sat, fits_ok h]
    · rw [if_neg h]
      have : ¬ items.length ≤ sizeLine := fun z => h (decide_eq_true z)
      simp [Sat, this]
  exact ⟨fun h => h.mono (fun x ω => (this x ω).mp) fun _ _ _ z => z, fun h => h.mono (fun x ω => (this x ω).mpr) fun _ _ _ z => z⟩
theorem CompS.mono (h : CompS c e tg ρ ps ω K) (k : ∀ l ω, K l ω → K' l ω) : CompS c e tg ρ ps ω K' := by
  unfold CompS at h ⊢
  revert h
  cases compL c e tg ρ ps ω with
  | none => exact id
  | some r => exact k _ _
@[simp ↓] theorem comp_nil : CompS c e tg ρ [] ω K ↔ K [] ω := by with_unfolding_all exact .rfl
@[simp ↓] theorem comp_cons : CompS c e tg ρ (p :: ps) ω K ↔ OptS (tgS tg p ρ) fun ρ1 => Sat (c ρ1 ω) (fun b ω1 => (b = true → Sat (e ρ1 ω1) (fun y ω2 => CompS c e tg ρ ps ω2 fun l ω3 => K (y :: l) ω3) nE) ∧ (b = false → CompS c e tg ρ ps ω1 K)) nE := by
  conv => lhs; unfold CompS compL
  cases tgS tg p ρ with
  | none => with_unfolding_all exact .rfl
  | some ρ1 =>
    simp only [optS_some]
    cases c ρ1 ω with
    | bad => with_unfolding_all exact .rfl
    | exn t v ω => with_unfolding_all exact .rfl
    | ok b ω1 =>
      cases b
      · simp [Sat, CompS]
      · simp only [Sat, true_imp_iff, Bool.true_eq_false, false_imp_iff, and_true]
        cases e ρ1 ω1 with
        | bad => with_unfolding_all exact .rfl
        | exn t v ω => with_unfolding_all exact .rfl
        | ok y ω2 =>
          simp only [Sat, CompS]
          cases compL c e tg ρ ps ω2 <;> with_unfolding_all exact .rfl
theorem comp_pure {β : Type} (enc : β → PV) (xs : List α) (f : α → PV) (q : α → Bool) (g : α → β) (h : ∀ x ∈ xs, OptS (tgS tg (f x) ρ) fun ρ1 => Sat (c ρ1 ω) (fun b ω1 => (b = true → Sat (e ρ1 ω1) (fun y ω2 => q x = true ∧ y = enc (g x) ∧ ω2 = ω) nE) ∧ (b = false → q x = false ∧ ω1 = ω)) nE)
    (k : K (((xs.filter q).map g).map enc) ω) : CompS c e tg ρ (xs.map f) ω K := by
  induction xs generalizing K with
  | nil => exact comp_nil.mpr k
  | cons x xs ih =>
    rw [List.map_cons, comp_cons]
    have hx := h x (by simp)
    revert hx
    cases tgS tg (f x) ρ with
    | none => exact id
    | some ρ1 =>
      simp only [optS_some]
      refine fun hx => hx.mono (fun b ω1 hb => ⟨fun e1 => (hb.1 e1).mono (fun y ω2 ⟨h1, h2, h3⟩ => ?_) fun _ _ _ z => z, fun e1 => ?_⟩) fun _ _ _ z => z
      · subst h2 h3
        refine ih (fun y hy => h y (by simp [hy])) ?_
        rw [List.filter_cons_of_pos h1] at k
        exact k
      · obtain ⟨h1, rfl⟩ := hb.2 e1
        refine ih (fun y hy => h y (by simp [hy])) ?_
        rw [List.filter_cons_of_neg (by rw [h1]; decide)] at k
        exact k
theorem comp_map {β : Type} (enc : β → PV) (xs : List α) (f : α → PV) (g : α → β) (h : ∀ x ∈ xs, OptS (tgS tg (f x) ρ) fun ρ1 => Sat (c ρ1 ω) (fun b ω1 => b = true ∧ Sat (e ρ1 ω1) (fun y ω2 => y = enc (g x) ∧ ω2 = ω) nE) nE)
    (k : K ((xs.map g).map enc) ω) : CompS c e tg ρ (xs.map f) ω K := by
  refine comp_pure enc xs f (fun _ => true) g (fun x hx => ?_) (by rw [List.filter_eq_self.mpr (fun _ _ => rfl)]; exact k)
  have := h x hx
  revert this
  cases tgS tg (f x) ρ with
  | none => exact id
  | some ρ1 => exact fun h => h.mono (fun b ω1 ⟨h1, h2⟩ => ⟨fun _ => h2.mono (fun y ω2 h => ⟨rfl, h⟩) fun _ _ _ z => z, fun z => by rw [h1] at z; cases z⟩) fun _ _ _ z => z
theorem comp_inv (xs : List α) (f : α → PV) (J : List α → List PV → Rw → Prop) (h0 : J [] [] ω)
    (h : ∀ (done : List α) (x : α) (rest : List α) (out : List PV) (ω : Rw), xs = done ++ x :: rest → J done out ω → OptS (tgS tg (f x) ρ) fun ρ1 => Sat (c ρ1 ω) (fun b ω1 => (b = true → Sat (e ρ1 ω1) (fun y ω2 => J (done ++ [x]) (out ++ [y]) ω2) nE) ∧ (b = false → J (done ++ [x]) out ω1)) nE)
    (k : ∀ out ω, J xs out ω → K out ω) : CompS c e tg ρ (xs.map f) ω K := by
  have key : ∀ (rest done : List α) (out : List PV) (ω : Rw), xs = done ++ rest → J done out ω → ∀ K : List PV → Rw → Prop, (∀ o ω, J xs (out ++ o) ω → K o ω) → CompS c e tg ρ (rest.map f) ω K := by
    intro rest
    induction rest with
    | nil =>
      intro done out ω e1 j K k
      rw [List.append_nil] at e1
      subst e1
      exact comp_nil.mpr (k [] ω (by rw [List.append_nil]; exact j))
    | cons x rest ih =>
      intro done out ω e1 j K k
      rw [List.map_cons, comp_cons]
      have hx := h done x rest out ω e1 j
      revert hx
      cases tgS tg (f x) ρ with
      | none => exact id
      | some ρ1 =>
        simp only [optS_some]
        refine fun hx => hx.mono (fun b ω1 hb => ⟨fun e2 => (hb.1 e2).mono (fun y ω2 h3 => ?_) fun _ _ _ z => z, fun e2 => ?_⟩) fun _ _ _ z => z
        · exact ih (done ++ [x]) (out ++ [y]) ω2 (by rw [e1]; simp) h3 _ fun o ω h4 => k (y :: o) ω (by rw [show out ++ y :: o = (out ++ [y]) ++ o by simp]; exact h4)
        · exact ih (done ++ [x]) out ω1 (by rw [e1]; simp) (hb.2 e2) _ k
  exact key xs [] [] ω rfl h0 K fun o ω h1 => k o ω (by simpa using h1)
def turnP (kill : List Nat) (go : Sto → Rw → Prop) (QS : Fl × Sto → Rw → Prop) : Fl × Sto → Rw → Prop := fun r ω => match r.1 with
  | .nx => go (killS r.2 kill) ω
  | .cnt => go (killS r.2 kill) ω
  | .brk => QS (.nx, killS r.2 kill) ω
  | .ret v => QS (.ret v, r.2) ω
section
variable {go : Sto → Rw → Prop}
@[simp ↓] theorem turn_nx : turnP kill go QS (.nx, ρ) ω ↔ go (killS ρ kill) ω := .rfl
@[simp ↓] theorem turn_cnt : turnP kill go QS (.cnt, ρ) ω ↔ go (killS ρ kill) ω := .rfl
@[simp ↓] theorem turn_brk : turnP kill go QS (.brk, ρ) ω ↔ QS (.nx, killS ρ kill) ω := .rfl
@[simp ↓] theorem turn_ret {v : PV} : turnP kill go QS (.ret v, ρ) ω ↔ QS (.ret v, ρ) ω := .rfl
theorem turnP.mono {go' : Sto → Rw → Prop} (h : ∀ ρ ω, go ρ ω → go' ρ ω) : ∀ r ω, turnP kill go QS r ω → turnP kill go' QS r ω := by
  rintro ⟨f, ρ⟩ ω
  cases f
  · exact h _ _
  · exact id
  · exact h _ _
  · exact id
end
@[simp ↓] theorem for_nil : Sat (forL tg body kill [] ρ ω) QS E ↔ QS (.nx, ρ) ω := by with_unfolding_all exact .rfl
@[simp ↓] theorem for_cons : Sat (forL tg body kill (p :: ps) ρ ω) QS E ↔ OptS (tgS tg p ρ) fun ρ1 => Sat (body ρ1 ω) (turnP kill (fun ρ2 ω1 => Sat (forL tg body kill ps ρ2 ω1) QS E) QS) E := by
  conv => lhs; unfold forL
  rw [sat_bnd, sat_opt]
  cases tgS tg p ρ with
  | none => with_unfolding_all exact .rfl
  | some ρ1 =>
    simp only [optS_some]
    rw [sat_bnd]
    have : (fun (x : Fl × Sto) (ω1 : Rw) => Sat ((match x.1 with
        | .nx => forL tg body kill ps (killS x.2 kill)
        | .cnt => forL tg body kill ps (killS x.2 kill)
        | .brk => ret (.nx, killS x.2 kill)
        | .ret v => ret (.ret v, x.2)) ω1) QS E) = turnP kill (fun ρ2 ω1 => Sat (forL tg body kill ps ρ2 ω1) QS E) QS := by
      funext x ω
      obtain ⟨f, r⟩ := x
      cases f <;> with_unfolding_all rfl
    rw [← this]
    try rfl
theorem for_inv (xs : List α) (f : α → PV) (I : List α → Sto → Rw → Prop) (h0 : I [] ρ ω)
    (h : ∀ (done : List α) (x : α) (rest : List α) (ρ : Sto) (ω : Rw), xs = done ++ x :: rest → I done ρ ω → OptS (tgS tg (f x) ρ) fun ρ1 => Sat (body ρ1 ω) (turnP kill (fun ρ2 ω1 => I (done ++ [x]) ρ2 ω1) QS) E)
    (k : ∀ ρ ω, I xs ρ ω → QS (.nx, ρ) ω) : Sat (forL tg body kill (xs.map f) ρ ω) QS E := by
  have key : ∀ (rest done : List α) (ρ : Sto) (ω : Rw), xs = done ++ rest → I done ρ ω → Sat (forL tg body kill (rest.map f) ρ ω) QS E := by
    intro rest
    induction rest with
    | nil =>
      intro done ρ ω e1 j
      rw [List.append_nil] at e1
      subst e1
      exact for_nil.mpr (k ρ ω j)
    | cons x rest ih =>
      intro done ρ ω e1 j
      rw [List.map_cons, for_cons]
      have hx := h done x rest ρ ω e1 j
      revert hx
      cases tgS tg (f x) ρ with
      | none => exact id
      | some ρ1 =>
        simp only [optS_some]
        exact fun hx => hx.mono (turnP.mono fun ρ2 ω1 i => ih (done ++ [x]) ρ2 ω1 (by rw [e1]; simp) i) fun _ _ _ z => z
  exact key xs [] ρ ω rfl h0
theorem for_ind (xs : List α) (f : α → PV) (I : List α → Sto → Rw → Prop) (h0 : I xs ρ ω)
    (h : ∀ (x : α) (rest : List α) (ρ : Sto) (ω : Rw), I (x :: rest) ρ ω → OptS (tgS tg (f x) ρ) fun ρ1 => Sat (body ρ1 ω) (turnP kill (fun ρ2 ω1 => I rest ρ2 ω1) QS) E)
    (k : ∀ ρ ω, I [] ρ ω → QS (.nx, ρ) ω) : Sat (forL tg body kill (xs.map f) ρ ω) QS E := by
  induction xs generalizing ρ ω with
  | nil => exact for_nil.mpr (k ρ ω h0)
  | cons x rest ih =>
    rw [List.map_cons, for_cons]
    have hx := h x rest ρ ω h0
    revert hx
    cases tgS tg (f x) ρ with
    | none => exact id
    | some ρ1 =>
      simp only [optS_some]
      exact fun hx => hx.mono (turnP.mono fun ρ2 ω1 i => ih i) fun _ _ _ z => z
theorem whileL_inv (I : Sto → Rw → Prop) (μ : Sto → Rw → Nat) (h : ∀ ρ ω, I ρ ω → Sat (c ρ ω) (fun b ω1 => (b = true → Sat (body ρ ω1) (turnP kill (fun ρ2 ω2 => I ρ2 ω2 ∧ μ ρ2 ω2 < μ ρ ω) QS) E) ∧ (b = false → QS (.nx, ρ) ω1)) E) :
    ∀ (n : Nat) (ρ : Sto) (ω : Rw), I ρ ω → μ ρ ω < n → Sat (whileL c body kill n ρ ω) QS E := by
  intro n
  induction n with
  | zero => intro ρ ω _ z; omega
  | succ n ih =>
    intro ρ ω i l
    unfold whileL
    rw [sat_bnd]
    refine (h ρ ω i).mono (fun b ω1 hb => ?_) fun _ _ _ z => z
    rw [sat_ite]
    refine ⟨fun e1 => ?_, fun e1 => sat_ret.mpr (hb.2 e1)⟩
    rw [sat_bnd]
    refine (hb.1 e1).mono (fun r ω2 t => ?_) fun _ _ _ z => z
    obtain ⟨f, ρ2⟩ := r
    cases f
    · exact ih _ _ t.1 (by have := t.2; omega)
    · exact sat_ret.mpr t
    · exact ih _ _ t.1 (by have := t.2; omega)
    · exact sat_ret.mpr t
theorem while_inv (I : Sto → Rw → Prop) (μ : Sto → Rw → Nat) (h0 : I (killS ρ kill) ω) (h : ∀ ρ ω, I ρ ω → Sat (c ρ ω) (fun b ω1 => (b = true → Sat (body ρ ω1) (turnP kill (fun ρ2 ω2 => I ρ2 ω2 ∧ μ ρ2 ω2 < μ ρ ω) QS) E) ∧ (b = false → QS (.nx, ρ) ω1)) E) :
    Sat (sWhile c body kill ρ ω) QS E := by
  have hn := whileL_inv (QS := QS) (E := E) I μ h (μ (killS ρ kill) ω + 1) (killS ρ kill) ω h0 (by omega)
  have ne : ∃ n, whileL c body kill n (killS ρ kill) ω ≠ .bad := ⟨_, fun z => by rw [z] at hn; exact sat_bad.mp hn⟩
  unfold sWhile
  rw [dif_pos ne]
  have h1 := ne.choose_spec
  rcases Nat.le_total ne.choose (μ (killS ρ kill) ω + 1) with l | l
  · rw [← whileL_mono _ _ _ _ l h1]; exact hn
  · rw [whileL_mono _ _ _ _ l (fun z => by rw [z] at hn; exact sat_bad.mp hn)]; exact hn
end
theorem size_big : 1000000 ≤ sizeLine := by decide
theorem le_size {n : Nat} (h : n ≤ 1000) : n ≤ sizeLine := Nat.le_trans h (by decide)
@[simp] theorem size_0 : 0 ≤ sizeLine := by decide
@[simp] theorem size_1 : 1 ≤ sizeLine := by decide
@[simp] theorem size_2 : 2 ≤ sizeLine := by decide
@[simp] theorem size_3 : 3 ≤ sizeLine := by decide
@[simp] theorem size_4 : 4 ≤ sizeLine := by decide
@[simp] theorem size_5 : 5 ≤ sizeLine := by decide
@[simp] theorem size_6 : 6 ≤ sizeLine := by decide
@[simp] theorem size_7 : 7 ≤ sizeLine := by decide
@[simp] theorem size_8 : 8 ≤ sizeLine := by decide
@[simp] theorem size_9 : 9 ≤ sizeLine := by decide
@[simp] theorem size_10 : 10 ≤ sizeLine := by decide
@[simp] theorem size_11 : 11 ≤ sizeLine := by decide
@[simp] theorem size_12 : 12 ≤ sizeLine := by decide
@[simp] theorem size_13 : 13 ≤ sizeLine := by decide
@[simp] theorem size_14 : 14 ≤ sizeLine := by decide
@[simp] theorem size_15 : 15 ≤ sizeLine := by decide
@[simp] theorem size_16 : 16 ≤ sizeLine := by decide

section
variable {a b : Sl} {v p q : PV} {ρ : Sto} {i n t : Nat} {is S : List Nat} {ps qs : List PV}
@[simp] theorem startS_s : startS n ps = ps.map .sh ++ List.replicate (n - ps.length) .no := rfl
@[simp] theorem startI_s : startI n t ps = .ow (.obj t []) :: (ps.map .sh ++ List.replicate (n - (ps.length + 1)) .no) := rfl
@[simp] theorem wipeS_nil : wipeS ρ [] = ρ := rfl
@[simp] theorem wipeS_cons : wipeS ρ (i :: is) = (wipeS ρ is).set i .no := rfl
@[simp] theorem killS_nil : killS ρ [] = ρ := rfl
@[simp] theorem killS_cons : killS ρ (i :: is) = killS (ρ.set i .no) is := rfl
@[simp] theorem frzS_nil : frzS ρ [] = ρ := rfl
@[simp] theorem frzS_cons : frzS ρ (i :: is) = frz1 (frzS ρ is) i := rfl
@[simp] theorem frz1_nil : frz1 [] i = [] := by simp [frz1]
@[simp] theorem frz1_ow0 : frz1 (.ow v :: ρ) 0 = .sh v :: ρ := rfl
@[simp] theorem frz1_sh0 : frz1 (.sh v :: ρ) 0 = .sh v :: ρ := rfl
@[simp] theorem frz1_no0 : frz1 (.no :: ρ) 0 = .no :: ρ := rfl
@[simp] theorem frz1_succ : frz1 (a :: ρ) (i + 1) = a :: frz1 ρ i := by
  unfold frz1
  rw [List.getElem?_cons_succ]
  cases ρ[i]? with
  | none => rfl
  | some s => cases s <;> rfl
@[simp] theorem hasOw_nil : hasOw ρ [] = false := rfl
def isOw : Option Sl → Bool
  | some (.ow _) => true
  | _ => false
@[simp] theorem isOw_ow : isOw (some (.ow v)) = true := rfl
@[simp] theorem isOw_sh : isOw (some (.sh v)) = false := rfl
@[simp] theorem isOw_no : isOw (some .no) = false := rfl
@[simp] theorem isOw_none : isOw none = false := rfl
@[simp] theorem hasOw_cons : hasOw ρ (i :: is) = (isOw ρ[i]? || hasOw ρ is) := by
  unfold hasOw
  rw [List.any_cons]
  congr 1
@[simp] theorem ownS_s : ownS ρ S p = if hasOw ρ S = true then (if imm p = true then ρ else frzS ρ S) else ρ := rfl
@[simp] theorem putS_f : putS false S i p ρ = (ownS ρ S p).set i (.sh p) := rfl
@[simp] theorem putS_t : putS true S i p ρ = (ownS ρ S (cont p)).set i (.ow p) := rfl
@[simp] theorem cont_lst : cont (.lst ps) = .tup ps := rfl
@[simp] theorem cont_dic {k : Bool} {ks vs : List PV} : cont (.dic k ks vs) = .tup vs := rfl
@[simp] theorem tgS_nm : tgS (.nm i) p ρ = some (ρ.set i (.sh p)) := rfl
@[simp] theorem tgS_tup : tgS (.tup is) (.tup ps) ρ = if ps.length = is.length then some (setsS is ps ρ) else none := rfl
@[simp] theorem setsS_cons : setsS (i :: is) (p :: ps) ρ = setsS is ps (ρ.set i (.sh p)) := rfl
@[simp] theorem setsS_nil : setsS [] ps ρ = ρ := by cases ps <;> rfl
@[simp] theorem tgtS_s {tg : Tg} : tgtS tg S p ρ = (tgS tg p (ownS ρ S p)).map fun ρ' => (.nx, ρ') := rfl
def lstO : Option Sl → Bool
  | some (.ow (.lst _)) => true
  | _ => false
def dicO (k : Bool) : Option Sl → Bool
  | some (.ow (.dic c _ _)) => c == k
  | _ => false
def objO : Option Sl → Bool
  | some (.ow (.obj _ _)) => true
  | _ => false
def rowO : Option Sl → Bool
  | some (.sh .row) => true
  | _ => false
@[simp] theorem lstAt_s : lstAt ρ i = lstO ρ[i]? := rfl
@[simp] theorem dicAt_s {k : Bool} : dicAt k ρ i = dicO k ρ[i]? := rfl
@[simp] theorem objAt_s : objAt ρ i = objO ρ[i]? := rfl
@[simp] theorem rowAt_s : rowAt ρ i = rowO ρ[i]? := rfl
@[simp] theorem lstO_s : lstO (some (.ow (.lst ps))) = true := rfl
@[simp] theorem dicO_s {k c : Bool} {ks vs : List PV} : dicO k (some (.ow (.dic c ks vs))) = (c == k) := rfl
@[simp] theorem objO_s : objO (some (.ow (.obj t ps))) = true := rfl
@[simp] theorem rowO_s : rowO (some (.sh .row)) = true := rfl
def appO (p : PV) (i : Nat) (ρ : Sto) : Option Sl → Option (Fl × Sto)
  | some (.ow (.lst ps)) => if ps.length + 1 ≤ sizeLine then some (.nx, ρ.set i (.ow (.lst (ps ++ [p])))) else none
  | _ => none
@[simp] theorem appO_s : appO p i ρ (some (.ow (.lst ps))) = if ps.length + 1 ≤ sizeLine then some (.nx, ρ.set i (.ow (.lst (ps ++ [p])))) else none := rfl
@[simp] theorem appS_s : appS i S p ρ = appO p i (ownS ρ S p) (ownS ρ S p)[i]? := by
  unfold appS appO
  cases (ownS ρ S p)[i]? with
  | none => rfl
  | some s =>
    cases s with
    | ow v => cases v <;> first | rfl | simp [fits]
    | _ => rfl
def extO (qs : List PV) (i : Nat) (ρ : Sto) : Option Sl → Option (Fl × Sto)
  | some (.ow (.lst ps)) => if ps.length + qs.length ≤ sizeLine then some (.nx, ρ.set i (.ow (.lst (ps ++ qs)))) else none
  | _ => none
@[simp] theorem extO_s : extO qs i ρ (some (.ow (.lst ps))) = if ps.length + qs.length ≤ sizeLine then some (.nx, ρ.set i (.ow (.lst (ps ++ qs)))) else none := rfl
@[simp] theorem extS_s : extS i S (.lst qs) ρ = extO qs i (ownS ρ S (.tup qs)) (ownS ρ S (.tup qs))[i]? := by
  unfold extS extO
  simp only
  cases (ownS ρ S (.tup qs))[i]? with
  | none => rfl
  | some s =>
    cases s with
    | ow v => cases v <;> first | rfl | simp [fits]
    | _ => rfl
def lputO (v : PV) (n : Int) (i : Nat) (ρ : Sto) : Option Sl → Option (Fl × Sto)
  | some (.ow (.lst ps)) => (ixN ps.length n).map fun j => (.nx, ρ.set i (.ow (.lst (ps.set j v))))
  | _ => none
@[simp] theorem lputO_s {n : Int} : lputO v n i ρ (some (.ow (.lst ps))) = (ixN ps.length n).map fun j => (.nx, ρ.set i (.ow (.lst (ps.set j v)))) := rfl
@[simp] theorem lputS_s {n : Int} : lputS i S v (.int n) ρ = lputO v n i (ownS ρ S v) (ownS ρ S v)[i]? := by
  unfold lputS lputO
  cases (ownS ρ S v)[i]? with
  | none => rfl
  | some s =>
    cases s with
    | ow v => cases v <;> rfl
    | _ => rfl
def dputO (b : Bool) (k v : PV) (i : Nat) (ρ : Sto) : Option Sl → Option (Fl × Sto)
  | some (.ow (.dic c ks vs)) => if c = b then (dputP c ks vs k v).map fun d => (.nx, ρ.set i (.ow d)) else none
  | _ => none
@[simp] theorem dputO_s {b c : Bool} {k : PV} {ks vs : List PV} : dputO b k v i ρ (some (.ow (.dic c ks vs))) = if c = b then (dputP c ks vs k v).map fun d => (.nx, ρ.set i (.ow d)) else none := rfl
@[simp] theorem dputS_s {b : Bool} {k : PV} : dputS b i S k v ρ = dputO b k v i (ownS ρ S v) (ownS ρ S v)[i]? := by
  unfold dputS dputO
  cases (ownS ρ S v)[i]? with
  | none => rfl
  | some s =>
    cases s with
    | ow v => cases v <;> rfl
    | _ => rfl
def fputO (G : Pg) (f : Str) (v : PV) (i : Nat) (ρ : Sto) : Option Sl → Option (Fl × Sto)
  | some (.ow (.obj t fs)) => if (G.fl t)[fs.length]? = some f ∧ ((G.fl t).take fs.length).contains f = false ∧ fs.length < 1000 then some (.nx, ρ.set i (.ow (.obj t (fs ++ [v])))) else none
  | _ => none
@[simp] theorem fputO_s {G : Pg} {f : Str} {fs : List PV} : fputO G f v i ρ (some (.ow (.obj t fs))) = if (G.fl t)[fs.length]? = some f ∧ ((G.fl t).take fs.length).contains f = false ∧ fs.length < 1000 then some (.nx, ρ.set i (.ow (.obj t (fs ++ [v])))) else none := rfl
@[simp] theorem fputS_s {G : Pg} {f : Str} : fputS G f i S v ρ = fputO G f v i (ownS ρ S v) (ownS ρ S v)[i]? := by
  unfold fputS fputO
  cases (ownS ρ S v)[i]? with
  | none => rfl
  | some s =>
    cases s with
    | ow v => cases v <;> rfl
    | _ => rfl
@[simp] theorem slV_none : slV none = none := rfl
@[simp] theorem slV_no : slV (some .no) = none := rfl
@[simp] theorem intV_int {n : Int} : intV (some (.int n)) = some n := rfl
theorem map_toNat_inj : ∀ {a b : List Char}, a.map Char.toNat = b.map Char.toNat → a = b
  | [], [], _ => rfl
  | [], _ :: _, h => by simp at h
  | _ :: _, [], h => by simp at h
  | x :: a, y :: b, h => by
    simp only [List.map_cons, List.cons.injEq] at h
    rw [Char.toNat_inj.mp h.1, map_toNat_inj h.2]
@[simp] theorem ofString_inj {a b : String} : Str.ofString a = Str.ofString b ↔ a = b := by
  refine ⟨fun h => ?_, fun h => by rw [h]⟩
  rw [Str.ofString_eq_toList, Str.ofString_eq_toList] at h
  have h1 : (a.toList.map Char.toNat).toArray = (b.toList.map Char.toNat).toArray := congrArg Str.cps h
  exact String.toList_inj.mp (map_toNat_inj (by simpa using h1))
@[simp] theorem binP_1 : binP .Add = addP := rfl
@[simp] theorem binP_2 : binP .Sub = subP := rfl
@[simp] theorem binP_3 : binP .Mult = mulP := rfl
@[simp] theorem binP_4 : binP .FloorDiv = divP := rfl
@[simp] theorem binP_5 : binP .Mod = modP := rfl
@[simp] theorem binP_6 : binP .Pow = powP := rfl
@[simp] theorem cmpP_1 : cmpP .Eq = eqP := rfl
@[simp] theorem cmpP_2 : cmpP .NotEq = neP := rfl
@[simp] theorem cmpP_3 : cmpP .Lt = ltP := rfl
@[simp] theorem cmpP_4 : cmpP .LtE = leP := rfl
@[simp] theorem cmpP_5 : cmpP .Gt = gtP := rfl
@[simp] theorem cmpP_6 : cmpP .GtE = geP := rfl
@[simp] theorem cmpP_7 : cmpP .Is = isP := rfl
@[simp] theorem cmpP_8 : cmpP .IsNot = isntP := rfl
@[simp] theorem cmpP_9 : cmpP .In = inP := rfl
@[simp] theorem cmpP_10 : cmpP .NotIn = ninP := rfl
@[simp] theorem biP_1 : biP .len = lenP := rfl
@[simp] theorem biP_2 : biP .list = listP := rfl
@[simp] theorem biP_3 : biP .tuple = tupleP := rfl
@[simp] theorem biP_4 : biP .sum = sumP := rfl
@[simp] theorem biP_5 : biP .max = maxP := rfl
@[simp] theorem biP_6 : biP .min = minP := rfl
@[simp] theorem biP_7 : biP .all = allP := rfl
@[simp] theorem biP_8 : biP .any = anyP := rfl
@[simp] theorem biP_9 : biP .int = intP := rfl
@[simp] theorem biP_10 : biP .range = rangeP := rfl
@[simp] theorem biP_11 : biP .sorted = sortedP := rfl
@[simp] theorem biP_12 : biP .dict = dictP := rfl
@[simp] theorem biP_13 : biP .repr = reprP := rfl
@[simp] theorem bmP_1 : bmP .index = indexP := rfl
@[simp] theorem bmC_1 : bmC .index = isLst := rfl
@[simp] theorem enumL_s : enumL [p] = (sqP p).map (enumFrom 0) := rfl
@[simp] theorem zipL_s : zipL [p, q] = (sqP p).bind fun xs => (sqP q).map fun ys => zipP xs ys := rfl
theorem enum_map {α : Type} (f : α → PV) : ∀ (xs : List α) (n : Nat), enumFrom n (xs.map f) = (xs.zipIdx n).map fun z => .tup [.int z.2, f z.1]
  | [], n => rfl
  | x :: xs, n => by
    rw [List.map_cons, List.zipIdx_cons, List.map_cons, ← enum_map f xs (n + 1)]
    rfl
theorem zip_map {α β : Type} (f : α → PV) (g : β → PV) : ∀ (xs : List α) (ys : List β), zipP (xs.map f) (ys.map g) = (xs.zip ys).map fun z => .tup [f z.1, g z.2]
  | [], ys => by simp [zipP]
  | x :: xs, [] => by simp [zipP]
  | x :: xs, y :: ys => by simp [zipP, zip_map f g xs ys]
@[simp] theorem enum_int (l : List Int) (n : Nat) : enumFrom n (l.map .int) = (l.zipIdx n).map fun z => .tup [.int z.2, .int z.1] := enum_map _ l n
@[simp] theorem enum_tup (l : List (List Int)) (n : Nat) : enumFrom n (l.map tupI) = (l.zipIdx n).map fun z => .tup [.int z.2, tupI z.1] := enum_map _ l n
@[simp] theorem zip_int (l r : List Int) : zipP (l.map .int) (r.map .int) = (l.zip r).map fun z => .tup [.int z.1, .int z.2] := zip_map _ _ l r
@[simp] theorem zip_tup (l r : List (List Int)) : zipP (l.map tupI) (r.map tupI) = (l.zip r).map fun z => .tup [tupI z.1, tupI z.2] := zip_map _ _ l r
@[simp] theorem zip_int_t (l r : List Int) : zipP (l.map .int) (r.map .int).tail = (l.zip r.tail).map fun z => .tup [.int z.1, .int z.2] := by rw [← List.map_tail]; exact zip_map _ _ l r.tail
@[simp] theorem zip_tup_t (l r : List (List Int)) : zipP (l.map tupI) (r.map tupI).tail = (l.zip r.tail).map fun z => .tup [tupI z.1, tupI z.2] := by rw [← List.map_tail]; exact zip_map _ _ l r.tail
theorem drop_map {α β : Type} (f : α → β) (l : List α) (i : Nat) : (l.map f).drop i = (l.drop i).map f := List.map_drop.symm
theorem take_map {α β : Type} (f : α → β) (l : List α) (i : Nat) : (l.map f).take i = (l.take i).map f := List.map_take.symm
theorem tail_map {α β : Type} (f : α → β) (l : List α) : (l.map f).tail = (l.tail).map f := List.map_tail.symm
theorem cut_from {α : Type} {xs : List α} {i : Int} (h : 0 ≤ i) : cutP xs (some i) none = xs.drop i.toNat := by
  obtain ⟨k, rfl⟩ := Int.eq_ofNat_of_zero_le h
  unfold cutP
  rw [show ((some (k : Int)) : Option Int) = some ((k : Nat) : Int) from rfl, HT.sIx_nat, HT.sIx_none]
  rw [show ((k : Nat) : Int).toNat = k from rfl]
  rcases Nat.le_total k xs.length with l | l
  · rw [Nat.min_eq_left l, List.take_of_length_le (by simp)]
  · rw [Nat.min_eq_right l, List.drop_eq_nil_of_le (Nat.le_refl _), List.drop_eq_nil_of_le l]; simp
theorem cut_to {α : Type} {xs : List α} {i : Int} (h : 0 ≤ i) : cutP xs none (some i) = xs.take i.toNat := by
  obtain ⟨k, rfl⟩ := Int.eq_ofNat_of_zero_le h
  unfold cutP
  rw [show ((some (k : Int)) : Option Int) = some ((k : Nat) : Int) from rfl, HT.sIx_nat, HT.sIx_none]
  rw [show ((k : Nat) : Int).toNat = k from rfl, List.drop_zero, Nat.sub_zero]
  rcases Nat.le_total k xs.length with l | l
  · rw [Nat.min_eq_left l]
  · rw [Nat.min_eq_right l, List.take_of_length_le (Nat.le_refl _), List.take_of_length_le l]
@[simp] theorem cut_1 {α : Type} {xs : List α} : cutP xs (some 1) none = xs.tail := by
  rw [cut_from (by decide)]; exact List.drop_one
@[simp] theorem cut_n {α : Type} {xs : List α} {k : Nat} : cutP xs (some ((k : Int) + 1)) none = xs.drop (k + 1) := by
  rw [cut_from (by omega), show ((k : Int) + 1).toNat = k + 1 by omega]
@[simp] theorem cut_t {α : Type} {xs : List α} {k : Nat} : cutP xs none (some (k : Int)) = xs.take k := by
  rw [cut_to (by omega)]; rfl
@[simp] theorem cut_2 {α : Type} {xs : List α} : cutP xs none (some 2) = xs.take 2 := cut_to (by decide)
@[simp] theorem minP_ints {l : List Int} : minP [.lst (l.map .int)] = (minL l).map .int := by
  show (intsOf (l.map .int)).bind _ = _
  rw [intsOf_map]; rfl
@[simp] theorem maxP_ints {l : List Int} : maxP [.lst (l.map .int)] = (maxL l).map .int := by
  show (intsOf (l.map .int)).bind _ = _
  rw [intsOf_map]; rfl
@[simp] theorem sumP_ints {l : List Int} : sumP [.lst (l.map .int)] = some (.int l.sum) := by
  show (intsOf (l.map .int)).map _ = _
  rw [intsOf_map]; rfl
@[simp] theorem allP_bl {l : List Bool} : allP [.lst (l.map .bl)] = some (.bl (l.all id)) := by simp [allP, boolsOf_map]
@[simp] theorem anyP_bl {l : List Bool} : anyP [.lst (l.map .bl)] = some (.bl (l.any id)) := by simp [anyP, boolsOf_map]
@[simp] theorem slcP_tupI {l : List Int} {lo hi : Option Int} : slcP (tupI l) lo hi = some (tupI (cutP l lo hi)) := by
  unfold tupI
  rw [slcP_tup, cutP_map]
@[simp] theorem seqP_tupI {l : List Int} : seqP (tupI l) = some (l.map .int) := rfl
@[simp] theorem sqP_tupI {l : List Int} : sqP (tupI l) = some (l.map .int) := rfl
@[simp] theorem lenP_tupI {l : List Int} : lenP [tupI l] = some (.int l.length) := by unfold tupI; rw [lenP_tup, List.length_map]
@[simp] theorem truB_tupI {l : List Int} : truB (tupI l) = some (!l.isEmpty) := by unfold tupI; rw [truB_tup]; cases l <;> rfl
@[simp] theorem idxP_tupI {l : List Int} {i : Int} : idxP (tupI l) (.int i) = (L2.atI l i).map .int := by unfold tupI; rw [idxP_tup, ixN_map]
@[simp] theorem tupleP_tupI {l : List Int} : tupleP [tupI l] = some (tupI l) := rfl
@[simp] theorem listP_tupI {l : List Int} : listP [tupI l] = some (.lst (l.map .int)) := rfl
@[simp high] theorem tupleP_ints {l : List Int} : tupleP [.lst (l.map .int)] = some (tupI l) := rfl
@[simp] theorem addP_tupI {l r : List Int} : addP (tupI l) (tupI r) = if l.length + r.length ≤ sizeLine then some (tupI (l ++ r)) else none := by
  unfold tupI
  rw [addP_tup, List.length_map, List.length_map, List.map_append]
@[simp] theorem addP_tupI1 {l : List Int} {a : Int} : addP (tupI l) (.tup [.int a]) = if l.length + 1 ≤ sizeLine then some (tupI (l ++ [a])) else none := addP_tupI (r := [a])
theorem immL_int : ∀ l : List Int, immL (l.map .int) = true
  | [] => rfl
  | x :: l => by simp [immL, imm, immL_int l]
theorem immL_tup : ∀ l : List (List Int), immL (l.map tupI) = true
  | [] => rfl
  | x :: l => by
    have : imm (tupI x) = true := immL_int x
    simp [immL, this, immL_tup l]
@[simp] theorem imm_tupI {l : List Int} : imm (tupI l) = true := immL_int l
@[simp] theorem imm_int {n : Int} : imm (.int n) = true := rfl
@[simp] theorem imm_bl {n : Bool} : imm (.bl n) = true := rfl
@[simp] theorem imm_str {n : Str} : imm (.str n) = true := rfl
@[simp] theorem imm_non : imm .non = true := rfl
@[simp] theorem imm_tup : imm (.tup ps) = immL ps := rfl
@[simp] theorem imm_lst : imm (.lst ps) = false := rfl
@[simp] theorem immL_nil : immL [] = true := rfl
@[simp] theorem immL_cons : immL (p :: ps) = (imm p && immL ps) := rfl
@[simp] theorem immL_ints {l : List Int} : immL (l.map .int) = true := immL_int l
@[simp] theorem immL_tups {l : List (List Int)} : immL (l.map tupI) = true := immL_tup l
@[simp] theorem cutP_map' {α β : Type} {f : α → β} {xs : List α} {lo hi : Option Int} : cutP (xs.map f) lo hi = (cutP xs lo hi).map f := cutP_map
@[simp] theorem atI_map' {α β : Type} {f : α → β} {xs : List α} {i : Int} : L2.atI (xs.map f) i = (L2.atI xs i).map f := ixN_map
theorem rg62_of {a b : Int} (h1 : -1000000 ≤ a) (h2 : a ≤ 1000000) (h3 : -1000000 ≤ b) (h4 : b ≤ 1000000) : rg62 a b = true := by
  unfold rg62
  simp
  omega
theorem rgOk_of {a b : Int} (h1 : -1000000 ≤ a) (h2 : a ≤ 1000000) (h3 : -1000000 ≤ b) (h4 : b ≤ 1000000) : rgOk a b = true := by
  unfold rgOk
  simp
  omega
theorem rgI_nil {a b : Int} (h : b ≤ a) : rgI a b = [] := by
  unfold rgI
  rw [show (b - a).toNat = 0 by omega]; rfl
theorem rgI_cons {a b : Int} (h : a < b) : rgI a b = a :: rgI (a + 1) b := by
  unfold rgI
  obtain ⟨k, hk⟩ : ∃ k, (b - a).toNat = k + 1 := ⟨(b - a).toNat - 1, by omega⟩
  rw [hk, show (b - (a + 1)).toNat = k by omega, List.range_succ_eq_map, List.map_cons, List.map_map]
  congr 1
  · simp
  · apply List.map_congr_left
    intro i _
    simp
    omega
@[simp] theorem rgI_len' {a b : Int} : (rgI a b).length = (b - a).toNat := rgI_len a b
theorem idxE_int {x : Int} : ∀ {l : List Int}, x ∈ l → idxE (.int x) (l.map .int) = some (l.idxOf x)
  | [], h => by simp at h
  | y :: l, h => by
    simp only [List.map_cons, idxE, pd, PyData.eqv, List.idxOf_cons]
    by_cases e : y = x
    · simp [e]
    · have h' : x ∈ l := by
        rcases List.mem_cons.mp h with z | z
        · exact absurd z.symm e
        · exact z
      simp [e, idxE_int h', show (y == x) = false by simp [e]]
theorem indexP_int {x : Int} {l : List Int} (h : x ∈ l) : indexP (.lst (l.map .int)) [.int x] = some (.int (l.idxOf x : Nat)) := by
  simp [indexP, okn, oknL_int, idxE_int h]
theorem mem_rgI {a b x : Int} : x ∈ rgI a b ↔ a ≤ x ∧ x < b := by
  unfold rgI
  simp only [List.mem_map, List.mem_range]
  constructor
  · rintro ⟨i, hi, rfl⟩; omega
  · rintro ⟨h1, h2⟩; exact ⟨(x - a).toNat, by omega, by omega⟩
@[simp] theorem imm_dic {k : Bool} {ks vs : List PV} : imm (.dic k ks vs) = false := rfl
@[simp] theorem imm_obj {fs : List PV} : imm (.obj t fs) = false := rfl
theorem atI_nat {α : Type} {xs : List α} {k : Nat} : L2.atI xs (k : Int) = xs[k]? := by
  unfold L2.atI L2.ixN
  by_cases h : k < xs.length
  · rw [if_pos (by omega), if_pos (by omega)]; rfl
  · rw [if_pos (by omega), if_neg (by omega), List.getElem?_eq_none (by omega)]; rfl
@[simp] theorem atI_0 {α : Type} {xs : List α} : L2.atI xs 0 = xs[0]? := atI_nat (k := 0)
@[simp] theorem atI_1 {α : Type} {xs : List α} : L2.atI xs 1 = xs[1]? := atI_nat (k := 1)
@[simp] theorem atI_2 {α : Type} {xs : List α} : L2.atI xs 2 = xs[2]? := atI_nat (k := 2)
@[simp] theorem atI_3 {α : Type} {xs : List α} : L2.atI xs 3 = xs[3]? := atI_nat (k := 3)
@[simp] theorem atI_c {α : Type} {xs : List α} {k : Nat} : L2.atI xs (k : Int) = xs[k]? := atI_nat
@[simp] theorem eqB_bl {a b : Bool} : eqB (.bl a) (.bl b) = some (decide (a = b)) := by
  simp [eqB, okn, pd, PyData.eqv]
  cases a <;> cases b <;> rfl
@[simp] theorem filter_false {α : Type} {l : List α} : l.filter (fun _ => false) = [] := List.filter_eq_nil_iff.mpr (by simp)
@[simp] theorem atI_m1 {α : Type} {xs : List α} : L2.atI xs (-1) = xs.getLast? := by
  unfold L2.atI L2.ixN
  rw [if_neg (by omega)]
  cases xs with
  | nil => rfl
  | cons x xs =>
    rw [if_pos (by simp; omega), List.getLast?_eq_getElem?]
    show (x :: xs)[((-1 : Int) + ((x :: xs).length : Nat)).toNat]? = _
    congr 1
    simp
    omega
@[simp] theorem isLst_lst : isLst (.lst ps) = true := rfl
end
end GP
-- DA
set_option maxRecDepth 100000
namespace GP
open PySem PySem.Spec PyProof.Rows L2
noncomputable abbrev F__law_taken (G : Pg) : Fn := F_tk G
def N_is_integer : List Str := ["thing"]
def sg_is_integer : Sg := { fn := [], mks := [], me := [], cl := [], er := [], gl := [] }
def t_is_integer : St := (.cons (.ret (.and (.ac (.isi (.bt "int") (.var 0)) (.a1 (.not (.isi (.bt "bool") (.var 0))))))) .nil)
noncomputable def Γ_is_integer (G : Pg) : Gam := { fn := [], mks := [], me := [] }
noncomputable def F_is_integer (G : Pg) : Fn := bodyF N_is_integer.length (dens G (Γ_is_integer G) sg_is_integer t_is_integer).s
def N_is_within : List Str := ["thing", "least", "most"]
def sg_is_within : Sg := { fn := [("is_integer", 1)], mks := [], me := [], cl := [], er := [], gl := [] }
def t_is_within : St := (.cons (.ret (.and (.ac (.call 0 (.cons (.var 0) .nil)) (.a1 (.ch .LtE .LtE (.var 1) (.var 0) (.var 2)))))) .nil)
noncomputable def Γ_is_within (G : Pg) : Gam := { fn := [F_is_integer G], mks := [], me := [] }
@[simp] theorem Γ_is_within_fn (G : Pg) : (Γ_is_within G).fn = [F_is_integer G] := rfl
noncomputable def F_is_within (G : Pg) : Fn := bodyF N_is_within.length (dens G (Γ_is_within G) sg_is_within t_is_within).s
def N_is_row : List Str := ["thing"]
def sg_is_row : Sg := { fn := [], mks := [], me := [], cl := [], er := [], gl := [] }
def t_is_row : St := (.cons (.ret (.isi2 (.bt "list") (.bt "tuple") (.var 0))) .nil)
noncomputable def Γ_is_row (G : Pg) : Gam := { fn := [], mks := [], me := [] }
noncomputable def F_is_row (G : Pg) : Fn := bodyF N_is_row.length (dens G (Γ_is_row G) sg_is_row t_is_row).s
def N_is_set : List Str := ["thing", "most", "one", "other"]
def sg_is_set : Sg := { fn := [("is_within", 3)], mks := [], me := [], cl := [], er := [], gl := [] }
def t_is_set : St := (.cons (.iff (.or (.oc (.not (.isi (.bt "tuple") (.var 0))) (.o1 (.not (.bi .all (.cons (.comp (.sq (.var 0)) .yes (.call 0 (.cons (.var 2) (.cons (.int 0) (.cons (.var 1) .nil)))) (.nm 2) [2]) .nil)))))) (.cons (.ret (.bl false)) .nil) .nil) (.cons (.ret (.bi .all (.cons (.comp (.zp (.cons (.var 0) (.cons (.slc (.var 0) (.so (.int 1)) .no) .nil))) .yes (.cmp .Lt (.var 2) (.var 3)) (.tup [2, 3]) [2, 3]) .nil))) .nil))
noncomputable def Γ_is_set (G : Pg) : Gam := { fn := [F_is_within G], mks := [], me := [] }
@[simp] theorem Γ_is_set_fn (G : Pg) : (Γ_is_set G).fn = [F_is_within G] := rfl
noncomputable def F_is_set (G : Pg) : Fn := bodyF N_is_set.length (dens G (Γ_is_set G) sg_is_set t_is_set).s
def N_Space___init__ : List Str := ["self", "points", "lines", "through", "index", "line", "at", "a", "b"]
def sg_Space___init__ : Sg := { fn := [("is_set", 2), ("is_row", 1), ("is_within", 3)], mks := [], me := [], cl := [], er := [("NoLine", 24), ("BadLines", 7), ("BadPoints", 6)], gl := [("MOST_POINTS", (.int 21))] }
def t_Space___init___b1 : St := (.cons (.iff (.cmp .NotIn (.tup (.cons (.var 7) (.cons (.var 8) .nil))) (.var 3)) (.cons (.rais 24 (.tup (.cons (.var 7) (.cons (.var 8) .nil)))) .nil) .nil) .nil)
def t_Space___init___b0 : St := (.cons (.loop false (.sq (.bi .range (.cons (.op .Add (.var 7) (.int 1)) (.cons (.var 1) .nil)))) (.nm 8) t_Space___init___b1 [8]) .nil)
def t_Space___init___b4 : St := (.cons (.iff (.cmp .In (.tup (.cons (.var 7) (.cons (.var 8) .nil))) (.var 3)) (.cons (.rais 7 (.var 4)) .nil) .nil) (.cons (.dput true 3 (.tup (.cons (.var 7) (.cons (.var 8) .nil))) (.var 5)) .nil))
def t_Space___init___b3 : St := (.cons (.loop false (.sq (.slc (.var 5) (.so (.op .Add (.var 6) (.int 1))) .no)) (.nm 8) t_Space___init___b4 [8]) .nil)
def t_Space___init___b2 : St := (.cons (.iff (.or (.oc (.not (.call 0 (.cons (.var 5) (.cons (.op .Sub (.var 1) (.int 1)) .nil)))) (.o1 (.cmp .Lt (.bi .len (.cons (.var 5) .nil)) (.int 2))))) (.cons (.rais 7 (.var 4)) .nil) .nil) (.cons (.loop false (.en (.cons (.var 5) .nil)) (.tup [6, 7]) t_Space___init___b3 [6, 7, 8]) .nil))
def t_Space___init__ : St := (.cons (.iff (.not (.call 2 (.cons (.var 1) (.cons (.int 2) (.cons (.gl 0) .nil))))) (.cons (.rais 6 (.var 1)) .nil) .nil) (.cons (.iff (.not (.call 1 (.cons (.var 2) .nil))) (.cons (.rais 7 (.neg (.int 1))) .nil) .nil) (.cons (.set true 3 (.dic true)) (.cons (.loop false (.en (.cons (.var 2) .nil)) (.tup [4, 5]) t_Space___init___b2 [4, 5, 6, 7, 8]) (.cons (.loop false (.sq (.bi .range (.cons (.var 1) .nil))) (.nm 7) t_Space___init___b0 [7, 8]) (.cons (.fput "points" 0 (.var 1)) (.cons (.fput "lines" 0 (.bi .tuple (.cons (.bi .sorted (.cons (.var 2) .nil)) .nil))) (.cons (.fput "through" 0 (.var 3)) .nil))))))))
noncomputable def Γ_Space___init__ (G : Pg) : Gam := { fn := [F_is_set G, F_is_row G, F_is_within G], mks := [], me := [] }
@[simp] theorem Γ_Space___init___fn (G : Pg) : (Γ_Space___init__ G).fn = [F_is_set G, F_is_row G, F_is_within G] := rfl
@[simp] theorem sg_Space___init___gl : sg_Space___init__.gl = ([("MOST_POINTS", (.int 21))] : List (Str × PV)) := rfl
noncomputable def F_Space___init__ (G : Pg) : Fn := bodyI N_Space___init__.length 0 (dens G (Γ_Space___init__ G) sg_Space___init__ t_Space___init__).s
def N_Space_line : List Str := ["self", "a", "b"]
def sg_Space_line : Sg := { fn := [], mks := [], me := [], cl := [], er := [], gl := [] }
def t_Space_line : St := (.cons (.ret (.idx (.fld "through" (.var 0)) (.tup (.cons (.bi .min (.cons (.var 1) (.cons (.var 2) .nil))) (.cons (.bi .max (.cons (.var 1) (.cons (.var 2) .nil))) .nil))))) .nil)
noncomputable def Γ_Space_line (G : Pg) : Gam := { fn := [], mks := [], me := [] }
noncomputable def F_Space_line (G : Pg) : Fn := bodyF N_Space_line.length (dens G (Γ_Space_line G) sg_Space_line t_Space_line).s
def N_check_space : List Str := ["space"]
def sg_check_space : Sg := { fn := [], mks := [], me := [], cl := [("Space", 0)], er := [("BadSpace", 8)], gl := [] }
def t_check_space : St := (.cons (.iff (.not (.isi (.own 0) (.var 0))) (.cons (.rais 8 (.var 0)) .nil) .nil) .nil)
noncomputable def Γ_check_space (G : Pg) : Gam := { fn := [], mks := [], me := [] }
noncomputable def F_check_space (G : Pg) : Fn := bodyF N_check_space.length (dens G (Γ_check_space G) sg_check_space t_check_space).s
def N_check_point : List Str := ["space", "point"]
def sg_check_point : Sg := { fn := [("is_within", 3)], mks := [], me := [], cl := [], er := [("BadPoint", 13)], gl := [] }
def t_check_point : St := (.cons (.iff (.not (.call 0 (.cons (.var 1) (.cons (.int 0) (.cons (.op .Sub (.fld "points" (.var 0)) (.int 1)) .nil))))) (.cons (.rais 13 (.var 1)) .nil) .nil) .nil)
noncomputable def Γ_check_point (G : Pg) : Gam := { fn := [F_is_within G], mks := [], me := [] }
@[simp] theorem Γ_check_point_fn (G : Pg) : (Γ_check_point G).fn = [F_is_within G] := rfl
noncomputable def F_check_point (G : Pg) : Fn := bodyF N_check_point.length (dens G (Γ_check_point G) sg_check_point t_check_point).s
def N_check_set : List Str := ["space", "some"]
def sg_check_set : Sg := { fn := [("is_set", 2)], mks := [], me := [], cl := [], er := [("BadSet", 14)], gl := [] }
def t_check_set : St := (.cons (.iff (.not (.call 0 (.cons (.var 1) (.cons (.op .Sub (.fld "points" (.var 0)) (.int 1)) .nil)))) (.cons (.rais 14 (.var 1)) .nil) .nil) .nil)
noncomputable def Γ_check_set (G : Pg) : Gam := { fn := [F_is_set G], mks := [], me := [] }
@[simp] theorem Γ_check_set_fn (G : Pg) : (Γ_check_set G).fn = [F_is_set G] := rfl
noncomputable def F_check_set (G : Pg) : Fn := bodyF N_check_set.length (dens G (Γ_check_set G) sg_check_set t_check_set).s
def N_line_through : List Str := ["space", "a", "b"]
def sg_line_through : Sg := { fn := [("check_point", 2), ("check_space", 1)], mks := [], me := [("line", 0, 3)], cl := [], er := [], gl := [] }
def t_line_through : St := (.cons (.drop (.call 1 (.cons (.var 0) .nil))) (.cons (.drop (.call 0 (.cons (.var 0) (.cons (.var 1) .nil)))) (.cons (.drop (.call 0 (.cons (.var 0) (.cons (.var 2) .nil)))) (.cons (.ret (.ite (.cmp .Eq (.var 1) (.var 2)) .non (.meth 0 0 (.var 0) (.cons (.var 1) (.cons (.var 2) .nil))))) .nil))))
noncomputable def Γ_line_through (G : Pg) : Gam := { fn := [F_check_point G, F_check_space G], mks := [], me := [F_Space_line G] }
@[simp] theorem Γ_line_through_fn (G : Pg) : (Γ_line_through G).fn = [F_check_point G, F_check_space G] := rfl
@[simp] theorem Γ_line_through_me (G : Pg) : (Γ_line_through G).me = [F_Space_line G] := rfl
noncomputable def F_line_through (G : Pg) : Fn := bodyF N_line_through.length (dens G (Γ_line_through G) sg_line_through t_line_through).s
def N_lines_on : List Str := ["space", "point", "line"]
def sg_lines_on : Sg := { fn := [("check_point", 2), ("check_space", 1)], mks := [], me := [], cl := [], er := [], gl := [] }
def t_lines_on : St := (.cons (.drop (.call 1 (.cons (.var 0) .nil))) (.cons (.drop (.call 0 (.cons (.var 0) (.cons (.var 1) .nil)))) (.cons (.ret (.comp (.sq (.fld "lines" (.var 0))) (.tst (.cmp .In (.var 1) (.var 2))) (.var 2) (.nm 2) [2])) .nil)))
noncomputable def Γ_lines_on (G : Pg) : Gam := { fn := [F_check_point G, F_check_space G], mks := [], me := [] }
@[simp] theorem Γ_lines_on_fn (G : Pg) : (Γ_lines_on G).fn = [F_check_point G, F_check_space G] := rfl
noncomputable def F_lines_on (G : Pg) : Fn := bodyF N_lines_on.length (dens G (Γ_lines_on G) sg_lines_on t_lines_on).s
def N_are_on_line : List Str := ["space", "some", "point"]
def sg_are_on_line : Sg := { fn := [("check_set", 2), ("check_space", 1)], mks := [], me := [("line", 0, 3)], cl := [], er := [], gl := [] }
def t_are_on_line : St := (.cons (.drop (.call 1 (.cons (.var 0) .nil))) (.cons (.drop (.call 0 (.cons (.var 0) (.cons (.var 1) .nil)))) (.cons (.ret (.or (.oc (.cmp .Lt (.bi .len (.cons (.var 1) .nil)) (.int 3)) (.o1 (.bi .all (.cons (.comp (.sq (.var 1)) .yes (.cmp .In (.var 2) (.meth 0 0 (.var 0) (.cons (.idx (.var 1) (.int 0)) (.cons (.idx (.var 1) (.int 1)) .nil)))) (.nm 2) [2]) .nil)))))) .nil)))
noncomputable def Γ_are_on_line (G : Pg) : Gam := { fn := [F_check_set G, F_check_space G], mks := [], me := [F_Space_line G] }
@[simp] theorem Γ_are_on_line_fn (G : Pg) : (Γ_are_on_line G).fn = [F_check_set G, F_check_space G] := rfl
@[simp] theorem Γ_are_on_line_me (G : Pg) : (Γ_are_on_line G).me = [F_Space_line G] := rfl
noncomputable def F_are_on_line (G : Pg) : Fn := bodyF N_are_on_line.length (dens G (Γ_are_on_line G) sg_are_on_line t_are_on_line).s
def N_apart_lines : List Str := ["space", "at", "line", "other", "point"]
def sg_apart_lines : Sg := { fn := [("check_space", 1)], mks := [], me := [], cl := [], er := [], gl := [] }
def t_apart_lines_b1 : St := (.cons (.iff (.not (.bi .any (.cons (.comp (.sq (.var 2)) .yes (.cmp .In (.var 4) (.var 3)) (.nm 4) [4]) .nil))) (.cons (.ret (.tup (.cons (.var 2) (.cons (.var 3) .nil)))) .nil) .nil) .nil)
def t_apart_lines_b0 : St := (.cons (.loop false (.sq (.slc (.fld "lines" (.var 0)) (.so (.op .Add (.var 1) (.int 1))) .no)) (.nm 3) t_apart_lines_b1 [3]) .nil)
def t_apart_lines : St := (.cons (.drop (.call 0 (.cons (.var 0) .nil))) (.cons (.loop false (.en (.cons (.fld "lines" (.var 0)) .nil)) (.tup [1, 2]) t_apart_lines_b0 [1, 2, 3]) (.cons (.ret .non) .nil)))
noncomputable def Γ_apart_lines (G : Pg) : Gam := { fn := [F_check_space G], mks := [], me := [] }
@[simp] theorem Γ_apart_lines_fn (G : Pg) : (Γ_apart_lines G).fn = [F_check_space G] := rfl
noncomputable def F_apart_lines (G : Pg) : Fn := bodyF N_apart_lines.length (dens G (Γ_apart_lines G) sg_apart_lines t_apart_lines).s
def N_is_plane : List Str := ["space", "line"]
def sg_is_plane : Sg := { fn := [("apart_lines", 1), ("check_space", 1)], mks := [], me := [], cl := [], er := [], gl := [] }
def t_is_plane : St := (.cons (.drop (.call 1 (.cons (.var 0) .nil))) (.cons (.iff (.or (.oc (.cmp .Lt (.bi .len (.cons (.fld "lines" (.var 0)) .nil)) (.int 2)) (.o1 (.not (.bi .all (.cons (.comp (.sq (.fld "lines" (.var 0))) .yes (.cmp .Gt (.bi .len (.cons (.var 1) .nil)) (.int 2)) (.nm 1) [1]) .nil)))))) (.cons (.ret (.bl false)) .nil) .nil) (.cons (.ret (.cmp .Is (.call 0 (.cons (.var 0) .nil)) .non)) .nil)))
noncomputable def Γ_is_plane (G : Pg) : Gam := { fn := [F_apart_lines G, F_check_space G], mks := [], me := [] }
@[simp] theorem Γ_is_plane_fn (G : Pg) : (Γ_is_plane G).fn = [F_apart_lines G, F_check_space G] := rfl
noncomputable def F_is_plane (G : Pg) : Fn := bodyF N_is_plane.length (dens G (Γ_is_plane G) sg_is_plane t_is_plane).s
def N_size_of : List Str := ["space"]
def sg_size_of : Sg := { fn := [("is_plane", 1)], mks := [], me := [], cl := [], er := [("NoPlane", 25)], gl := [] }
def t_size_of : St := (.cons (.iff (.not (.call 0 (.cons (.var 0) .nil))) (.cons (.rais 25 (.neg (.int 1))) .nil) .nil) (.cons (.ret (.op .Sub (.bi .len (.cons (.idx (.fld "lines" (.var 0)) (.int 0)) .nil)) (.int 1))) .nil))
noncomputable def Γ_size_of (G : Pg) : Gam := { fn := [F_is_plane G], mks := [], me := [] }
@[simp] theorem Γ_size_of_fn (G : Pg) : (Γ_size_of G).fn = [F_is_plane G] := rfl
noncomputable def F_size_of (G : Pg) : Fn := bodyF N_size_of.length (dens G (Γ_size_of G) sg_size_of t_size_of).s
def N_dual : List Str := ["space", "lines", "point", "number", "line"]
def sg_dual : Sg := { fn := [("size_of", 1)], mks := [("Space", 0, 2)], me := [], cl := [], er := [], gl := [] }
def t_dual_b0 : St := (.cons (.app 1 (.bi .tuple (.cons (.comp (.en (.cons (.fld "lines" (.var 0)) .nil)) (.tst (.cmp .In (.var 2) (.var 4))) (.var 3) (.tup [3, 4]) [3, 4]) .nil))) .nil)
def t_dual : St := (.cons (.drop (.call 0 (.cons (.var 0) .nil))) (.cons (.set true 1 (.lst .nil)) (.cons (.loop false (.sq (.bi .range (.cons (.fld "points" (.var 0)) .nil))) (.nm 2) t_dual_b0 [2]) (.cons (.ret (.make 0 0 (.cons (.fld "points" (.var 0)) (.cons (.var 1) .nil)))) .nil))))
noncomputable def Γ_dual (G : Pg) : Gam := { fn := [F_size_of G], mks := [F_Space___init__ G], me := [] }
@[simp] theorem Γ_dual_fn (G : Pg) : (Γ_dual G).fn = [F_size_of G] := rfl
@[simp] theorem Γ_dual_mks (G : Pg) : (Γ_dual G).mks = [F_Space___init__ G] := rfl
noncomputable def F_dual (G : Pg) : Fn := bodyF N_dual.length (dens G (Γ_dual G) sg_dual t_dual).s
def N_without : List Str := ["space", "some", "rest", "lines", "point", "line"]
def sg_without : Sg := { fn := [("check_set", 2), ("check_space", 1)], mks := [("Space", 0, 2)], me := [], cl := [], er := [], gl := [] }
def t_without : St := (.cons (.drop (.call 1 (.cons (.var 0) .nil))) (.cons (.drop (.call 0 (.cons (.var 0) (.cons (.var 1) .nil)))) (.cons (.set false 2 (.comp (.sq (.bi .range (.cons (.fld "points" (.var 0)) .nil))) (.tst (.cmp .NotIn (.var 4) (.var 1))) (.var 4) (.nm 4) [4])) (.cons (.set false 3 (.comp (.sq (.fld "lines" (.var 0))) .yes (.bi .tuple (.cons (.comp (.sq (.var 5)) (.tst (.cmp .NotIn (.var 4) (.var 1))) (.bm .index (.var 2) (.cons (.var 4) .nil)) (.nm 4) [4]) .nil)) (.nm 5) [5])) (.cons (.ret (.make 0 0 (.cons (.bi .len (.cons (.var 2) .nil)) (.cons (.comp (.sq (.var 3)) (.tst (.cmp .Gt (.bi .len (.cons (.var 5) .nil)) (.int 1))) (.var 5) (.nm 5) [5]) .nil)))) .nil)))))
noncomputable def Γ_without (G : Pg) : Gam := { fn := [F_check_set G, F_check_space G], mks := [F_Space___init__ G], me := [] }
@[simp] theorem Γ_without_fn (G : Pg) : (Γ_without G).fn = [F_check_set G, F_check_space G] := rfl
@[simp] theorem Γ_without_mks (G : Pg) : (Γ_without G).mks = [F_Space___init__ G] := rfl
noncomputable def F_without (G : Pg) : Fn := bodyF N_without.length (dens G (Γ_without G) sg_without t_without).s
def N__law_pick : List Str := ["row", "some"]
def sg__law_pick : Sg := { fn := [("_law_taken", 2)], mks := [], me := [], cl := [], er := [], gl := [] }
def t__law_pick : St := (.cons (.ret (.idx (.var 1) (.call 0 (.cons (.var 0) (.cons (.bi .len (.cons (.var 1) .nil)) .nil))))) .nil)
noncomputable def Γ__law_pick (G : Pg) : Gam := { fn := [F__law_taken G], mks := [], me := [] }
@[simp] theorem Γ__law_pick_fn (G : Pg) : (Γ__law_pick G).fn = [F__law_taken G] := rfl
noncomputable def F__law_pick (G : Pg) : Fn := bodyF N__law_pick.length (dens G (Γ__law_pick G) sg__law_pick t__law_pick).s
def N__law_alike : List Str := ["found", "due", "k", "key"]
def sg__law_alike : Sg := { fn := [("_law_alike", 2)], mks := [], me := [], cl := [], er := [], gl := [] }
def t__law_alike : St := (.cons (.iff (.isi2 (.bt "tuple") (.bt "list") (.var 1)) (.cons (.iff (.or (.oc (.not (.isi2 (.bt "tuple") (.bt "list") (.var 0))) (.o1 (.cmp .NotEq (.isi (.bt "list") (.var 0)) (.isi (.bt "list") (.var 1)))))) (.cons (.ret (.bl false)) .nil) .nil) (.cons (.iff (.cmp .NotEq (.bi .len (.cons (.var 0) .nil)) (.bi .len (.cons (.var 1) .nil))) (.cons (.ret (.bl false)) .nil) .nil) (.cons (.ret (.cmp .Eq (.comp (.sq (.bi .range (.cons (.bi .len (.cons (.var 1) .nil)) .nil))) (.tst (.not (.call 0 (.cons (.idx (.var 0) (.var 2)) (.cons (.idx (.var 1) (.var 2)) .nil))))) (.var 2) (.nm 2) [2]) (.lst .nil))) .nil))) .nil) (.cons (.iff (.isi (.bt "dict") (.var 1)) (.cons (.iff (.or (.oc (.not (.isi (.bt "dict") (.var 0))) (.o1 (.cmp .NotEq (.bi .list (.cons (.var 0) .nil)) (.bi .list (.cons (.var 1) .nil)))))) (.cons (.ret (.bl false)) .nil) .nil) (.cons (.ret (.cmp .Eq (.comp (.sq (.var 1)) (.tst (.not (.call 0 (.cons (.idx (.var 0) (.var 3)) (.cons (.idx (.var 1) (.var 3)) .nil))))) (.var 3) (.nm 3) [3]) (.lst .nil))) .nil)) .nil) (.cons (.iff (.or (.oc (.cmp .Is (.var 1) .non) (.o1 (.isi (.bt "str") (.var 1))))) (.cons (.ret (.and (.ac (.cmp .Eq (.var 0) (.var 1)) (.a1 (.cmp .Eq (.isi (.bt "str") (.var 0)) (.isi (.bt "str") (.var 1))))))) .nil) .nil) (.cons (.ret (.and (.ac (.isi (.bt "int") (.var 0)) (.ac (.cmp .Eq (.isi (.bt "bool") (.var 0)) (.isi (.bt "bool") (.var 1))) (.a1 (.cmp .Eq (.var 0) (.var 1))))))) .nil))))
noncomputable def Γ__law_alike (G : Pg) (F : Fn) : Gam := { fn := [F], mks := [], me := [] }
@[simp] theorem Γ__law_alike_fn (G : Pg) (F : Fn) : (Γ__law_alike G F).fn = [F] := rfl
noncomputable def B__law_alike (G : Pg) (F : Fn) : Fn := bodyF N__law_alike.length (dens G (Γ__law_alike G F) sg__law_alike t__law_alike).s
noncomputable def F__law_alike (G : Pg) : Nat → Fn
  | 0 => badF
  | n + 1 => B__law_alike G (F__law_alike G n)
def N__law_unlike : List Str := ["things", "found", "one"]
def sg__law_unlike : Sg := { fn := [], mks := [], me := [], cl := [], er := [], gl := [] }
def t__law_unlike_b0 : St := (.cons (.iff (.or (.oc (.cmp .Eq (.var 1) (.lst .nil)) (.o1 (.cmp .NotEq (.idx (.var 1) (.neg (.int 1))) (.var 2))))) (.cons (.app 1 (.var 2)) .nil) .nil) .nil)
def t__law_unlike : St := (.cons (.set true 1 (.lst .nil)) (.cons (.loop false (.sq (.bi .sorted (.cons (.bi .list (.cons (.var 0) .nil)) .nil))) (.nm 2) t__law_unlike_b0 [2]) (.cons (.ret (.var 1)) .nil)))
noncomputable def Γ__law_unlike (G : Pg) : Gam := { fn := [], mks := [], me := [] }
noncomputable def F__law_unlike (G : Pg) : Fn := bodyF N__law_unlike.length (dens G (Γ__law_unlike G) sg__law_unlike t__law_unlike).s
def N__law_shuffled : List Str := ["row", "things", "found", "thing", "at"]
def sg__law_shuffled : Sg := { fn := [("_law_taken", 2)], mks := [], me := [], cl := [], er := [], gl := [] }
def t__law_shuffled_b0 : St := (.cons (.set false 4 (.call 0 (.cons (.var 0) (.cons (.op .Add (.bi .len (.cons (.var 2) .nil)) (.int 1)) .nil)))) (.cons (.set false 2 (.op .Add (.op .Add (.slc (.var 2) .no (.so (.var 4))) (.lst (.cons (.var 3) .nil))) (.slc (.var 2) (.so (.var 4)) .no))) .nil))
def t__law_shuffled : St := (.cons (.set false 2 (.lst .nil)) (.cons (.loop false (.sq (.var 1)) (.nm 3) t__law_shuffled_b0 [3, 4]) (.cons (.ret (.var 2)) .nil)))
noncomputable def Γ__law_shuffled (G : Pg) : Gam := { fn := [F__law_taken G], mks := [], me := [] }
@[simp] theorem Γ__law_shuffled_fn (G : Pg) : (Γ__law_shuffled G).fn = [F__law_taken G] := rfl
noncomputable def F__law_shuffled (G : Pg) : Fn := bodyF N__law_shuffled.length (dens G (Γ__law_shuffled G) sg__law_shuffled t__law_shuffled).s
def N__law_within : List Str := ["some", "others", "one"]
def sg__law_within : Sg := { fn := [], mks := [], me := [], cl := [], er := [], gl := [] }
def t__law_within : St := (.cons (.ret (.cmp .Eq (.comp (.sq (.var 0)) (.tst (.cmp .NotIn (.var 2) (.var 1))) (.var 2) (.nm 2) [2]) (.lst .nil))) .nil)
noncomputable def Γ__law_within (G : Pg) : Gam := { fn := [], mks := [], me := [] }
noncomputable def F__law_within (G : Pg) : Fn := bodyF N__law_within.length (dens G (Γ__law_within G) sg__law_within t__law_within).s
def N__law_ring : List Str := ["points", "bases", "found", "base", "turn", "point"]
def sg__law_ring : Sg := { fn := [("_law_unlike", 1)], mks := [], me := [], cl := [], er := [], gl := [] }
def t__law_ring_b1 : St := (.cons (.set false 2 (.op .Add (.var 2) (.lst (.cons (.bi .tuple (.cons (.bi .sorted (.cons (.comp (.sq (.var 3)) .yes (.op .Mod (.op .Add (.var 5) (.var 4)) (.var 0)) (.nm 5) [5]) .nil)) .nil)) .nil)))) .nil)
def t__law_ring_b0 : St := (.cons (.loop false (.sq (.bi .range (.cons (.var 0) .nil))) (.nm 4) t__law_ring_b1 [4]) .nil)
def t__law_ring : St := (.cons (.set false 2 (.lst .nil)) (.cons (.loop false (.sq (.var 1)) (.nm 3) t__law_ring_b0 [3, 4]) (.cons (.ret (.call 0 (.cons (.var 2) .nil))) .nil)))
noncomputable def Γ__law_ring (G : Pg) : Gam := { fn := [F__law_unlike G], mks := [], me := [] }
@[simp] theorem Γ__law_ring_fn (G : Pg) : (Γ__law_ring G).fn = [F__law_unlike G] := rfl
noncomputable def F__law_ring (G : Pg) : Fn := bodyF N__law_ring.length (dens G (Γ__law_ring G) sg__law_ring t__law_ring).s
def N__law_open_three : List Str := ["found", "a", "b", "c", "point"]
def sg__law_open_three : Sg := { fn := [], mks := [], me := [], cl := [], er := [], gl := [] }
def t__law_open_three_b1 : St := (.cons (.set false 0 (.op .Add (.var 0) (.lst (.cons (.bi .tuple (.cons (.comp (.sq (.bi .range (.cons (.int 9) .nil))) (.tst (.cmp .Eq (.op .Mod (.op .Add (.op .Mult (.var 1) (.op .FloorDiv (.var 4) (.int 3))) (.op .Mult (.var 2) (.op .Mod (.var 4) (.int 3)))) (.int 3)) (.var 3))) (.var 4) (.nm 4) [4]) .nil)) .nil)))) .nil)
def t__law_open_three_b0 : St := (.cons (.loop false (.sq (.bi .range (.cons (.int 3) .nil))) (.nm 3) t__law_open_three_b1 [3]) .nil)
def t__law_open_three : St := (.cons (.set false 0 (.lst .nil)) (.cons (.loop false (.sq (.lst (.cons (.tup (.cons (.int 0) (.cons (.int 1) .nil))) (.cons (.tup (.cons (.int 1) (.cons (.int 0) .nil))) (.cons (.tup (.cons (.int 1) (.cons (.int 1) .nil))) (.cons (.tup (.cons (.int 1) (.cons (.int 2) .nil))) .nil)))))) (.tup [1, 2]) t__law_open_three_b0 [1, 2, 3]) (.cons (.ret (.bi .sorted (.cons (.var 0) .nil))) .nil)))
noncomputable def Γ__law_open_three (G : Pg) : Gam := { fn := [], mks := [], me := [] }
noncomputable def F__law_open_three (G : Pg) : Fn := bodyF N__law_open_three.length (dens G (Γ__law_open_three G) sg__law_open_three t__law_open_three).s
def N__law_base : List Str := ["row", "most", "some", "kind", "points", "one", "point"]
def sg__law_base : Sg := { fn := [("_law_taken", 2), ("_law_open_three", 0), ("_law_ring", 2)], mks := [], me := [], cl := [], er := [], gl := [] }
def t__law_base : St := (.cons (.set false 2 (.lst (.cons (.tup (.cons (.int 7) (.cons (.lst (.cons (.tup (.cons (.int 0) (.cons (.int 1) (.cons (.int 3) .nil)))) .nil)) .nil))) (.cons (.tup (.cons (.int 13) (.cons (.lst (.cons (.tup (.cons (.int 0) (.cons (.int 1) (.cons (.int 3) (.cons (.int 9) .nil))))) .nil)) .nil))) (.cons (.tup (.cons (.int 13) (.cons (.lst (.cons (.tup (.cons (.int 0) (.cons (.int 1) (.cons (.int 4) .nil)))) (.cons (.tup (.cons (.int 0) (.cons (.int 2) (.cons (.int 7) .nil)))) .nil))) .nil))) (.cons (.tup (.cons (.int 21) (.cons (.lst (.cons (.tup (.cons (.int 0) (.cons (.int 1) (.cons (.int 4) (.cons (.int 14) (.cons (.int 16) .nil)))))) .nil)) .nil))) .nil)))))) (.cons (.set false 2 (.comp (.sq (.var 2)) (.tst (.cmp .LtE (.idx (.var 5) (.int 0)) (.var 1))) (.var 5) (.nm 5) [5])) (.cons (.set false 3 (.call 0 (.cons (.var 0) (.cons (.op .Add (.bi .len (.cons (.var 2) .nil)) (.int 3)) .nil)))) (.cons (.iff (.cmp .Lt (.var 3) (.bi .len (.cons (.var 2) .nil))) (.cons (.ret (.tup (.cons (.idx (.idx (.var 2) (.var 3)) (.int 0)) (.cons (.call 2 (.cons (.idx (.idx (.var 2) (.var 3)) (.int 0)) (.cons (.idx (.idx (.var 2) (.var 3)) (.int 1)) .nil))) .nil)))) .nil) .nil) (.cons (.iff (.and (.ac (.cmp .Eq (.var 3) (.bi .len (.cons (.var 2) .nil))) (.a1 (.cmp .GtE (.var 1) (.int 9))))) (.cons (.ret (.tup (.cons (.int 9) (.cons (.call 1 .nil) .nil)))) .nil) .nil) (.cons (.set false 4 (.op .Add (.int 3) (.call 0 (.cons (.var 0) (.cons (.int 6) .nil))))) (.cons (.ret (.tup (.cons (.var 4) (.cons (.op .Add (.lst (.cons (.bi .tuple (.cons (.bi .range (.cons (.op .Sub (.var 4) (.int 1)) .nil)) .nil)) .nil)) (.comp (.sq (.bi .range (.cons (.op .Sub (.var 4) (.int 1)) .nil))) .yes (.tup (.cons (.var 6) (.cons (.op .Sub (.var 4) (.int 1)) .nil))) (.nm 6) [6])) .nil)))) .nil)))))))
noncomputable def Γ__law_base (G : Pg) : Gam := { fn := [F__law_taken G, F__law_open_three G, F__law_ring G], mks := [], me := [] }
@[simp] theorem Γ__law_base_fn (G : Pg) : (Γ__law_base G).fn = [F__law_taken G, F__law_open_three G, F__law_ring G] := rfl
noncomputable def F__law_base (G : Pg) : Fn := bodyF N__law_base.length (dens G (Γ__law_base G) sg__law_base t__law_base).s
def N__law_less_points : List Str := ["points", "lines", "some", "rest", "found", "line", "kept", "point"]
def sg__law_less_points : Sg := { fn := [], mks := [], me := [], cl := [], er := [], gl := [] }
def t__law_less_points_b0 : St := (.cons (.set false 6 (.bi .tuple (.cons (.comp (.sq (.var 5)) (.tst (.cmp .NotIn (.var 7) (.var 2))) (.bm .index (.var 3) (.cons (.var 7) .nil)) (.nm 7) [7]) .nil))) (.cons (.set false 4 (.op .Add (.var 4) (.ite (.cmp .Gt (.bi .len (.cons (.var 6) .nil)) (.int 1)) (.lst (.cons (.var 6) .nil)) (.lst .nil)))) .nil))
def t__law_less_points : St := (.cons (.set false 3 (.comp (.sq (.bi .range (.cons (.var 0) .nil))) (.tst (.cmp .NotIn (.var 7) (.var 2))) (.var 7) (.nm 7) [7])) (.cons (.set false 4 (.lst .nil)) (.cons (.loop false (.sq (.var 1)) (.nm 5) t__law_less_points_b0 [5, 6]) (.cons (.ret (.tup (.cons (.bi .len (.cons (.var 3) .nil)) (.cons (.bi .sorted (.cons (.var 4) .nil)) .nil)))) .nil))))
noncomputable def Γ__law_less_points (G : Pg) : Gam := { fn := [], mks := [], me := [] }
noncomputable def F__law_less_points (G : Pg) : Fn := bodyF N__law_less_points.length (dens G (Γ__law_less_points G) sg__law_less_points t__law_less_points).s
def N__law_named : List Str := ["order", "lines", "found", "line", "point"]
def sg__law_named : Sg := { fn := [], mks := [], me := [], cl := [], er := [], gl := [] }
def t__law_named_b0 : St := (.cons (.set false 2 (.op .Add (.var 2) (.lst (.cons (.bi .tuple (.cons (.bi .sorted (.cons (.comp (.sq (.var 3)) .yes (.idx (.var 0) (.var 4)) (.nm 4) [4]) .nil)) .nil)) .nil)))) .nil)
def t__law_named : St := (.cons (.set false 2 (.lst .nil)) (.cons (.loop false (.sq (.var 1)) (.nm 3) t__law_named_b0 [3]) (.cons (.ret (.bi .sorted (.cons (.var 2) .nil))) .nil)))
noncomputable def Γ__law_named (G : Pg) : Gam := { fn := [], mks := [], me := [] }
noncomputable def F__law_named (G : Pg) : Fn := bodyF N__law_named.length (dens G (Γ__law_named G) sg__law_named t__law_named).s
def N__law_space : List Str := ["row", "most", "points", "lines", "some", "turn"]
def sg__law_space : Sg := { fn := [("_law_named", 2), ("_law_shuffled", 2), ("_law_less_points", 3), ("_law_unlike", 1), ("_law_pick", 2), ("_law_taken", 2), ("_law_base", 2)], mks := [], me := [], cl := [], er := [], gl := [] }
def t__law_space : St := (.cons (.tgt (.tup [2, 3]) (.call 6 (.cons (.var 0) (.cons (.var 1) .nil)))) (.cons (.set false 4 (.call 3 (.cons (.comp (.sq (.bi .range (.cons (.call 4 (.cons (.var 0) (.cons (.lst (.cons (.int 0) (.cons (.int 0) (.cons (.int 1) (.cons (.int 1) (.cons (.int 2) (.cons (.int 3) .nil))))))) .nil))) .nil))) .yes (.call 5 (.cons (.var 0) (.cons (.var 2) .nil))) (.nm 5) [5]) .nil))) (.cons (.iff (.cmp .Gt (.bi .len (.cons (.var 4) .nil)) (.op .Sub (.var 2) (.int 3))) (.cons (.set false 4 (.slc (.var 4) .no (.so (.op .Sub (.var 2) (.int 3))))) .nil) .nil) (.cons (.tgt (.tup [2, 3]) (.call 2 (.cons (.var 2) (.cons (.var 3) (.cons (.var 4) .nil))))) (.cons (.ret (.tup (.cons (.var 2) (.cons (.call 0 (.cons (.call 1 (.cons (.var 0) (.cons (.bi .list (.cons (.bi .range (.cons (.var 2) .nil)) .nil)) .nil))) (.cons (.var 3) .nil))) .nil)))) .nil)))))
noncomputable def Γ__law_space (G : Pg) : Gam := { fn := [F__law_named G, F__law_shuffled G, F__law_less_points G, F__law_unlike G, F__law_pick G, F__law_taken G, F__law_base G], mks := [], me := [] }
@[simp] theorem Γ__law_space_fn (G : Pg) : (Γ__law_space G).fn = [F__law_named G, F__law_shuffled G, F__law_less_points G, F__law_unlike G, F__law_pick G, F__law_taken G, F__law_base G] := rfl
noncomputable def F__law_space (G : Pg) : Fn := bodyF N__law_space.length (dens G (Γ__law_space G) sg__law_space t__law_space).s
def N__law_through : List Str := ["lines", "a", "b", "line"]
def sg__law_through : Sg := { fn := [], mks := [], me := [], cl := [], er := [], gl := [] }
def t__law_through : St := (.cons (.ret (.idx (.comp (.sq (.var 0)) (.tst (.and (.ac (.cmp .In (.var 1) (.var 3)) (.a1 (.cmp .In (.var 2) (.var 3)))))) (.var 3) (.nm 3) [3]) (.int 0))) .nil)
noncomputable def Γ__law_through (G : Pg) : Gam := { fn := [], mks := [], me := [] }
noncomputable def F__law_through (G : Pg) : Fn := bodyF N__law_through.length (dens G (Γ__law_through G) sg__law_through t__law_through).s
def N__law_bad_space : List Str := ["row"]
def sg__law_bad_space : Sg := { fn := [("_law_pick", 2)], mks := [], me := [], cl := [], er := [], gl := [] }
def t__law_bad_space : St := (.cons (.ret (.call 0 (.cons (.var 0) (.cons (.lst (.cons .non (.cons (.int 3) (.cons (.tup (.cons (.int 3) (.cons (.tup .nil) .nil))) (.cons (.str "space") (.cons (.lst .nil) (.cons (.dic false) .nil))))))) .nil)))) .nil)
noncomputable def Γ__law_bad_space (G : Pg) : Gam := { fn := [F__law_pick G], mks := [], me := [] }
@[simp] theorem Γ__law_bad_space_fn (G : Pg) : (Γ__law_bad_space G).fn = [F__law_pick G] := rfl
noncomputable def F__law_bad_space (G : Pg) : Fn := bodyF N__law_bad_space.length (dens G (Γ__law_bad_space G) sg__law_bad_space t__law_bad_space).s
def N__law_some : List Str := ["row", "points", "share", "point"]
def sg__law_some : Sg := { fn := [("_law_taken", 2)], mks := [], me := [], cl := [], er := [], gl := [] }
def t__law_some : St := (.cons (.ret (.bi .tuple (.cons (.comp (.sq (.bi .range (.cons (.var 1) .nil))) (.tst (.cmp .Eq (.call 0 (.cons (.var 0) (.cons (.var 2) .nil))) (.int 0))) (.var 3) (.nm 3) [3]) .nil))) .nil)
noncomputable def Γ__law_some (G : Pg) : Gam := { fn := [F__law_taken G], mks := [], me := [] }
@[simp] theorem Γ__law_some_fn (G : Pg) : (Γ__law_some G).fn = [F__law_taken G] := rfl
noncomputable def F__law_some (G : Pg) : Fn := bodyF N__law_some.length (dens G (Γ__law_some G) sg__law_some t__law_some).s
def N_is_tuple_of : List Str := ["thing", "many"]
def sg_is_tuple_of : Sg := { fn := [], mks := [], me := [], cl := [], er := [], gl := [] }
def t_is_tuple_of : St := (.cons (.ret (.and (.ac (.isi (.bt "tuple") (.var 0)) (.a1 (.cmp .Eq (.bi .len (.cons (.var 0) .nil)) (.var 1)))))) .nil)
noncomputable def Γ_is_tuple_of (G : Pg) : Gam := { fn := [], mks := [], me := [] }
noncomputable def F_is_tuple_of (G : Pg) : Fn := bodyF N_is_tuple_of.length (dens G (Γ_is_tuple_of G) sg_is_tuple_of t_is_tuple_of).s
def N__law_order : List Str := ["row", "many"]
def sg__law_order : Sg := { fn := [("_law_shuffled", 2)], mks := [], me := [], cl := [], er := [], gl := [] }
def t__law_order : St := (.cons (.ret (.bi .tuple (.cons (.call 0 (.cons (.var 0) (.cons (.bi .list (.cons (.bi .range (.cons (.var 1) .nil)) .nil)) .nil))) .nil))) .nil)
noncomputable def Γ__law_order (G : Pg) : Gam := { fn := [F__law_shuffled G], mks := [], me := [] }
@[simp] theorem Γ__law_order_fn (G : Pg) : (Γ__law_order G).fn = [F__law_shuffled G] := rfl
noncomputable def F__law_order (G : Pg) : Fn := bodyF N__law_order.length (dens G (Γ__law_order G) sg__law_order t__law_order).s
def N__law_moved_k16 : List Str := ["told", "some", "point"]
def sg__law_moved_k16 : Sg := { fn := [], mks := [], me := [], cl := [], er := [], gl := [] }
def t__law_moved_k16 : St := (.cons (.ret (.bi .tuple (.cons (.bi .sorted (.cons (.comp (.sq (.var 1)) .yes (.idx (.var 0) (.var 2)) (.nm 2) [2]) .nil)) .nil))) .nil)
noncomputable def Γ__law_moved_k16 (G : Pg) : Gam := { fn := [], mks := [], me := [] }
noncomputable def F__law_moved_k16 (G : Pg) : Fn := bodyF N__law_moved_k16.length (dens G (Γ__law_moved_k16 G) sg__law_moved_k16 t__law_moved_k16).s
def N_choices : List Str := ["some", "size", "found", "one", "row"]
def sg_choices : Sg := { fn := [], mks := [], me := [], cl := [], er := [], gl := [] }
def t_choices_b0 : St := (.cons (.ext 2 (.comp (.sq (.var 2)) (.tst (.cmp .Lt (.bi .len (.cons (.var 4) .nil)) (.var 1))) (.op .Add (.var 4) (.tup (.cons (.var 3) .nil))) (.nm 4) [4])) .nil)
def t_choices : St := (.cons (.set true 2 (.lst (.cons (.tup .nil) .nil))) (.cons (.loop false (.sq (.var 0)) (.nm 3) t_choices_b0 [3]) (.cons (.ret (.bi .sorted (.cons (.comp (.sq (.var 2)) (.tst (.cmp .Eq (.bi .len (.cons (.var 4) .nil)) (.var 1))) (.var 4) (.nm 4) [4]) .nil))) .nil)))
noncomputable def Γ_choices (G : Pg) : Gam := { fn := [], mks := [], me := [] }
noncomputable def F_choices (G : Pg) : Fn := bodyF N_choices.length (dens G (Γ_choices G) sg_choices t_choices).s
def N_Space_are_on_k02 : List Str := ["self", "a", "b", "c"]
def sg_Space_are_on_k02 : Sg := { fn := [], mks := [], me := [("line", 0, 3)], cl := [], er := [], gl := [] }
def t_Space_are_on_k02 : St := (.cons (.ret (.cmp .In (.var 3) (.meth 0 0 (.var 0) (.cons (.var 1) (.cons (.var 2) .nil))))) .nil)
noncomputable def Γ_Space_are_on_k02 (G : Pg) : Gam := { fn := [], mks := [], me := [F_Space_line G] }
@[simp] theorem Γ_Space_are_on_k02_me (G : Pg) : (Γ_Space_are_on_k02 G).me = [F_Space_line G] := rfl
noncomputable def F_Space_are_on_k02 (G : Pg) : Fn := bodyF N_Space_are_on_k02.length (dens G (Γ_Space_are_on_k02 G) sg_Space_are_on_k02 t_Space_are_on_k02).s
def N_check_other : List Str := ["other"]
def sg_check_other : Sg := { fn := [], mks := [], me := [], cl := [("Space", 0)], er := [("BadOther", 12)], gl := [] }
def t_check_other : St := (.cons (.iff (.not (.isi (.own 0) (.var 0))) (.cons (.rais 12 (.var 0)) .nil) .nil) .nil)
noncomputable def Γ_check_other (G : Pg) : Gam := { fn := [], mks := [], me := [] }
noncomputable def F_check_other (G : Pg) : Fn := bodyF N_check_other.length (dens G (Γ_check_other G) sg_check_other t_check_other).s
def N__law_number : List Str := ["thing", "many"]
def sg__law_number : Sg := { fn := [], mks := [], me := [], cl := [], er := [], gl := [] }
def t__law_number : St := (.cons (.ret (.and (.ac (.isi (.bt "int") (.var 0)) (.ac (.not (.isi (.bt "bool") (.var 0))) (.a1 (.ch .LtE .Lt (.int 0) (.var 0) (.var 1))))))) .nil)
noncomputable def Γ__law_number (G : Pg) : Gam := { fn := [], mks := [], me := [] }
noncomputable def F__law_number (G : Pg) : Fn := bodyF N__law_number.length (dens G (Γ__law_number G) sg__law_number t__law_number).s
def N__law_on : List Str := ["lines", "a", "b", "c"]
def sg__law_on : Sg := { fn := [("_law_through", 3)], mks := [], me := [], cl := [], er := [], gl := [] }
def t__law_on : St := (.cons (.ret (.cmp .In (.var 3) (.call 0 (.cons (.var 0) (.cons (.var 1) (.cons (.var 2) .nil)))))) .nil)
noncomputable def Γ__law_on (G : Pg) : Gam := { fn := [F__law_through G], mks := [], me := [] }
@[simp] theorem Γ__law_on_fn (G : Pg) : (Γ__law_on G).fn = [F__law_through G] := rfl
noncomputable def F__law_on (G : Pg) : Fn := bodyF N__law_on.length (dens G (Γ__law_on G) sg__law_on t__law_on).s
def N__law_is_map : List Str := ["points", "lines", "others", "thing", "one"]
def sg__law_is_map : Sg := { fn := [("_law_named", 2), ("_law_unlike", 1), ("_law_number", 2)], mks := [], me := [], cl := [], er := [], gl := [] }
def t__law_is_map : St := (.cons (.iff (.or (.oc (.not (.isi (.bt "tuple") (.var 3))) (.oc (.cmp .NotEq (.bi .len (.cons (.var 3) .nil)) (.var 0)) (.o1 (.cmp .NotEq (.comp (.sq (.var 3)) (.tst (.not (.call 2 (.cons (.var 4) (.cons (.var 0) .nil))))) (.var 4) (.nm 4) [4]) (.lst .nil)))))) (.cons (.ret (.bl false)) .nil) .nil) (.cons (.ret (.and (.ac (.cmp .Eq (.bi .len (.cons (.call 1 (.cons (.var 3) .nil)) .nil)) (.var 0)) (.a1 (.cmp .Eq (.call 0 (.cons (.var 3) (.cons (.var 1) .nil))) (.bi .sorted (.cons (.var 2) .nil))))))) .nil))
noncomputable def Γ__law_is_map (G : Pg) : Gam := { fn := [F__law_named G, F__law_unlike G, F__law_number G], mks := [], me := [] }
@[simp] theorem Γ__law_is_map_fn (G : Pg) : (Γ__law_is_map G).fn = [F__law_named G, F__law_unlike G, F__law_number G] := rfl
noncomputable def F__law_is_map (G : Pg) : Fn := bodyF N__law_is_map.length (dens G (Γ__law_is_map G) sg__law_is_map t__law_is_map).s
def N__law_good_set : List Str := ["points", "thing", "one"]
def sg__law_good_set : Sg := { fn := [("_law_unlike", 1), ("_law_number", 2)], mks := [], me := [], cl := [], er := [], gl := [] }
def t__law_good_set : St := (.cons (.iff (.or (.oc (.not (.isi (.bt "tuple") (.var 1))) (.o1 (.cmp .NotEq (.comp (.sq (.var 1)) (.tst (.not (.call 1 (.cons (.var 2) (.cons (.var 0) .nil))))) (.var 2) (.nm 2) [2]) (.lst .nil))))) (.cons (.ret (.bl false)) .nil) .nil) (.cons (.ret (.cmp .Eq (.bi .list (.cons (.var 1) .nil)) (.call 0 (.cons (.var 1) .nil)))) .nil))
noncomputable def Γ__law_good_set (G : Pg) : Gam := { fn := [F__law_unlike G, F__law_number G], mks := [], me := [] }
@[simp] theorem Γ__law_good_set_fn (G : Pg) : (Γ__law_good_set G).fn = [F__law_unlike G, F__law_number G] := rfl
noncomputable def F__law_good_set (G : Pg) : Fn := bodyF N__law_good_set.length (dens G (Γ__law_good_set G) sg__law_good_set t__law_good_set).s
def N__law_span : List Str := ["lines", "some", "found", "turn", "line", "point"]
def sg__law_span : Sg := { fn := [("_law_unlike", 1)], mks := [], me := [], cl := [], er := [], gl := [] }
def t__law_span_b1 : St := (.cons (.iff (.cmp .Gt (.bi .len (.cons (.comp (.sq (.var 4)) (.tst (.cmp .In (.var 5) (.var 2))) (.var 5) (.nm 5) [5]) .nil)) (.int 1)) (.cons (.set false 2 (.call 0 (.cons (.op .Add (.var 2) (.bi .list (.cons (.var 4) .nil))) .nil))) .nil) .nil) .nil)
def t__law_span_b0 : St := (.cons (.loop false (.sq (.var 0)) (.nm 4) t__law_span_b1 [4]) .nil)
def t__law_span : St := (.cons (.set false 2 (.bi .list (.cons (.var 1) .nil))) (.cons (.loop false (.sq (.bi .range (.cons (.int 14) .nil))) (.nm 3) t__law_span_b0 [3, 4]) (.cons (.ret (.bi .tuple (.cons (.bi .sorted (.cons (.var 2) .nil)) .nil))) .nil)))
noncomputable def Γ__law_span (G : Pg) : Gam := { fn := [F__law_unlike G], mks := [], me := [] }
@[simp] theorem Γ__law_span_fn (G : Pg) : (Γ__law_span G).fn = [F__law_unlike G] := rfl
noncomputable def F__law_span (G : Pg) : Fn := bodyF N__law_span.length (dens G (Γ__law_span G) sg__law_span t__law_span).s
def N__law_meet : List Str := ["one", "other", "point"]
def sg__law_meet : Sg := { fn := [], mks := [], me := [], cl := [], er := [], gl := [] }
def t__law_meet : St := (.cons (.ret (.cmp .NotEq (.comp (.sq (.var 0)) (.tst (.cmp .In (.var 2) (.var 1))) (.var 2) (.nm 2) [2]) (.lst .nil))) .nil)
noncomputable def Γ__law_meet (G : Pg) : Gam := { fn := [], mks := [], me := [] }
noncomputable def F__law_meet (G : Pg) : Fn := bodyF N__law_meet.length (dens G (Γ__law_meet G) sg__law_meet t__law_meet).s
def N__law_size : List Str := ["thing"]
def sg__law_size : Sg := { fn := [], mks := [], me := [], cl := [], er := [], gl := [] }
def t__law_size : St := (.cons (.ret (.ite (.cmp .Is (.var 0) .non) .non (.bi .len (.cons (.var 0) .nil)))) .nil)
noncomputable def Γ__law_size (G : Pg) : Gam := { fn := [], mks := [], me := [] }
noncomputable def F__law_size (G : Pg) : Fn := bodyF N__law_size.length (dens G (Γ__law_size G) sg__law_size t__law_size).s
def N_as_count : List Str := ["word", "most", "sign"]
def sg_as_count : Sg := { fn := [], mks := [], me := [], cl := [], er := [], gl := [] }
def t_as_count : St := (.cons (.iff (.or (.oc (.not (.ch .LtE .LtE (.int 1) (.bi .len (.cons (.var 0) .nil)) (.int 9))) (.o1 (.not (.bi .all (.cons (.comp (.sq (.var 0)) .yes (.cmp .In (.var 2) (.str "0123456789")) (.nm 2) [2]) .nil)))))) (.cons (.ret .non) .nil) .nil) (.cons (.iff (.or (.oc (.and (.ac (.cmp .Eq (.idx (.var 0) (.int 0)) (.str "0")) (.a1 (.cmp .NotEq (.var 0) (.str "0"))))) (.o1 (.cmp .Gt (.bi .int (.cons (.var 0) .nil)) (.var 1))))) (.cons (.ret .non) .nil) .nil) (.cons (.ret (.bi .int (.cons (.var 0) .nil))) .nil)))
noncomputable def Γ_as_count (G : Pg) : Gam := { fn := [], mks := [], me := [] }
noncomputable def F_as_count (G : Pg) : Fn := bodyF N_as_count.length (dens G (Γ_as_count G) sg_as_count t_as_count).s
def N__law_small : List Str := ["row", "points", "lines"]
def sg__law_small : Sg := { fn := [("_law_less_points", 3), ("_law_space", 2)], mks := [], me := [], cl := [], er := [], gl := [] }
def t__law_small : St := (.cons (.tgt (.tup [1, 2]) (.call 1 (.cons (.var 0) (.cons (.int 7) .nil)))) (.cons (.ret (.ite (.cmp .Gt (.var 1) (.int 7)) (.call 0 (.cons (.var 1) (.cons (.var 2) (.cons (.bi .list (.cons (.bi .range (.cons (.int 7) (.cons (.var 1) .nil))) .nil)) .nil)))) (.tup (.cons (.var 1) (.cons (.var 2) .nil))))) .nil))
noncomputable def Γ__law_small (G : Pg) : Gam := { fn := [F__law_less_points G, F__law_space G], mks := [], me := [] }
@[simp] theorem Γ__law_small_fn (G : Pg) : (Γ__law_small G).fn = [F__law_less_points G, F__law_space G] := rfl
noncomputable def F__law_small (G : Pg) : Fn := bodyF N__law_small.length (dens G (Γ__law_small G) sg__law_small t__law_small).s
def N__law_fits_on : List Str := ["lines", "others", "told", "image", "point", "b", "a"]
def sg__law_fits_on : Sg := { fn := [("_law_on", 4)], mks := [], me := [], cl := [], er := [], gl := [] }
def t__law_fits_on_b1 : St := (.cons (.iff (.cmp .NotEq (.call 0 (.cons (.var 0) (.cons (.var 6) (.cons (.var 5) (.cons (.var 4) .nil))))) (.call 0 (.cons (.var 1) (.cons (.idx (.var 2) (.var 6)) (.cons (.idx (.var 2) (.var 5)) (.cons (.var 3) .nil)))))) (.cons (.ret (.bl false)) .nil) .nil) .nil)
def t__law_fits_on_b0 : St := (.cons (.loop false (.sq (.bi .range (.cons (.var 5) .nil))) (.nm 6) t__law_fits_on_b1 [6]) .nil)
def t__law_fits_on : St := (.cons (.set false 4 (.bi .len (.cons (.var 2) .nil))) (.cons (.iff (.cmp .In (.var 3) (.var 2)) (.cons (.ret (.bl false)) .nil) .nil) (.cons (.loop false (.sq (.bi .range (.cons (.var 4) .nil))) (.nm 5) t__law_fits_on_b0 [5, 6]) (.cons (.ret (.bl true)) .nil))))
noncomputable def Γ__law_fits_on (G : Pg) : Gam := { fn := [F__law_on G], mks := [], me := [] }
@[simp] theorem Γ__law_fits_on_fn (G : Pg) : (Γ__law_fits_on G).fn = [F__law_on G] := rfl
noncomputable def F__law_fits_on (G : Pg) : Fn := bodyF N__law_fits_on.length (dens G (Γ__law_fits_on G) sg__law_fits_on t__law_fits_on).s
def N__law_marked_maps : List Str := ["space", "marks", "other", "others", "found", "point", "longer", "told", "some", "image"]
def sg__law_marked_maps : Sg := { fn := [("_law_fits_on", 4)], mks := [], me := [], cl := [], er := [], gl := [] }
def t__law_marked_maps_b1 : St := (.cons (.set false 8 (.comp (.sq (.bi .range (.cons (.idx (.var 0) (.int 0)) .nil))) (.tst (.cmp .Eq (.idx (.var 3) (.var 9)) (.idx (.var 1) (.var 5)))) (.var 9) (.nm 9) [9])) (.cons (.set false 6 (.op .Add (.var 6) (.comp (.sq (.var 8)) (.tst (.call 0 (.cons (.idx (.var 0) (.int 1)) (.cons (.idx (.var 2) (.int 1)) (.cons (.var 7) (.cons (.var 9) .nil)))))) (.op .Add (.var 7) (.tup (.cons (.var 9) .nil))) (.nm 9) [9]))) .nil))
def t__law_marked_maps_b0 : St := (.cons (.set false 6 (.lst .nil)) (.cons (.loop false (.sq (.var 4)) (.nm 7) t__law_marked_maps_b1 [7, 8]) (.cons (.set false 4 (.var 6)) .nil)))
def t__law_marked_maps : St := (.cons (.set false 4 (.lst (.cons (.tup .nil) .nil))) (.cons (.iff (.cmp .NotEq (.idx (.var 0) (.int 0)) (.idx (.var 2) (.int 0))) (.cons (.ret (.lst .nil)) .nil) .nil) (.cons (.loop false (.sq (.bi .range (.cons (.idx (.var 0) (.int 0)) .nil))) (.nm 5) t__law_marked_maps_b0 [5, 6, 7, 8]) (.cons (.ret (.var 4)) .nil))))
noncomputable def Γ__law_marked_maps (G : Pg) : Gam := { fn := [F__law_fits_on G], mks := [], me := [] }
@[simp] theorem Γ__law_marked_maps_fn (G : Pg) : (Γ__law_marked_maps G).fn = [F__law_fits_on G] := rfl
noncomputable def F__law_marked_maps (G : Pg) : Fn := bodyF N__law_marked_maps.length (dens G (Γ__law_marked_maps G) sg__law_marked_maps t__law_marked_maps).s
end GP
-- MB
set_option maxRecDepth 100000
set_option maxHeartbeats 4000000
namespace GP
open PySem PySem.Spec PyProof.Rows L2
def known (G : Pg) : PV → Bool
  | .obj t _ => G.ts.contains t
  | p => (tyn p).isSome
def isInt : PV → Bool
  | .int _ => true
  | _ => false
def isBl : PV → Bool
  | .bl _ => true
  | _ => false
def isTup' : PV → Bool
  | .tup _ => true
  | _ => false
def isLs : PV → Bool
  | .lst _ => true
  | _ => false
def isDic : PV → Bool
  | .dic _ _ _ => true
  | _ => false
def isStr : PV → Bool
  | .str _ => true
  | _ => false
def isOb (t : Nat) : PV → Bool
  | .obj t' _ => t' == t
  | _ => false
def within (a b : Int) : PV → Bool
  | .int n => decide (a ≤ n) && decide (n ≤ b)
  | _ => false
section
variable {G : Pg} {ω : Rw} {p : PV} {a b : Int} {ps : List PV} {t : Nat} {fs : List PV} {n c d : Int} {k : Bool} {s : Str} {t2 : Nat} {v : V} {ks vs : List PV}
@[simp] theorem known_int : known G (.int n) = true := by unfold known; rfl
@[simp] theorem known_bl : known G (.bl k) = true := by unfold known; rfl
@[simp] theorem known_non : known G .non = true := by unfold known; rfl
@[simp] theorem known_str : known G (.str s) = true := by unfold known; rfl
@[simp] theorem known_tup : known G (.tup ps) = true := by unfold known; rfl
@[simp] theorem known_lst : known G (.lst ps) = true := by unfold known; rfl
@[simp] theorem known_tupI {l : List Int} : known G (tupI l) = true := by unfold known; rfl
@[simp] theorem known_dic {ks vs : List PV} : known G (.dic k ks vs) = true := by unfold known; rfl
@[simp] theorem isInt_int : isInt (.int n) = true := rfl
@[simp] theorem isInt_bl : isInt (.bl k) = false := rfl
@[simp] theorem isInt_non : isInt .non = false := rfl
@[simp] theorem isInt_str : isInt (.str s) = false := rfl
@[simp] theorem isInt_tup : isInt (.tup ps) = false := rfl
@[simp] theorem isInt_lst : isInt (.lst ps) = false := rfl
@[simp] theorem isInt_dic : isInt (.dic k ks vs) = false := rfl
@[simp] theorem isInt_obj : isInt (.obj t2 fs) = false := rfl
@[simp] theorem isInt_raw : isInt (.raw v) = false := rfl
@[simp] theorem isInt_fn : isInt (.fn s) = false := rfl
@[simp] theorem isInt_row : isInt .row = false := rfl
@[simp] theorem isInt_rng : isInt (.rng a b) = false := rfl
@[simp] theorem isBl_int : isBl (.int n) = false := rfl
@[simp] theorem isBl_bl : isBl (.bl k) = true := rfl
@[simp] theorem isBl_non : isBl .non = false := rfl
@[simp] theorem isBl_str : isBl (.str s) = false := rfl
@[simp] theorem isBl_tup : isBl (.tup ps) = false := rfl
@[simp] theorem isBl_lst : isBl (.lst ps) = false := rfl
@[simp] theorem isBl_dic : isBl (.dic k ks vs) = false := rfl
@[simp] theorem isBl_obj : isBl (.obj t2 fs) = false := rfl
@[simp] theorem isBl_raw : isBl (.raw v) = false := rfl
@[simp] theorem isBl_fn : isBl (.fn s) = false := rfl
@[simp] theorem isBl_row : isBl .row = false := rfl
@[simp] theorem isBl_rng : isBl (.rng a b) = false := rfl
@[simp] theorem isTup_int : isTup' (.int n) = false := rfl
@[simp] theorem isTup_bl : isTup' (.bl k) = false := rfl
@[simp] theorem isTup_non : isTup' .non = false := rfl
@[simp] theorem isTup_str : isTup' (.str s) = false := rfl
@[simp] theorem isTup_tup : isTup' (.tup ps) = true := rfl
@[simp] theorem isTup_lst : isTup' (.lst ps) = false := rfl
@[simp] theorem isTup_dic : isTup' (.dic k ks vs) = false := rfl
@[simp] theorem isTup_obj : isTup' (.obj t2 fs) = false := rfl
@[simp] theorem isTup_raw : isTup' (.raw v) = false := rfl
@[simp] theorem isTup_fn : isTup' (.fn s) = false := rfl
@[simp] theorem isTup_row : isTup' .row = false := rfl
@[simp] theorem isTup_rng : isTup' (.rng a b) = false := rfl
@[simp] theorem isLs_int : isLs (.int n) = false := rfl
@[simp] theorem isLs_bl : isLs (.bl k) = false := rfl
@[simp] theorem isLs_non : isLs .non = false := rfl
@[simp] theorem isLs_str : isLs (.str s) = false := rfl
@[simp] theorem isLs_tup : isLs (.tup ps) = false := rfl
@[simp] theorem isLs_lst : isLs (.lst ps) = true := rfl
@[simp] theorem isLs_dic : isLs (.dic k ks vs) = false := rfl
@[simp] theorem isLs_obj : isLs (.obj t2 fs) = false := rfl
@[simp] theorem isLs_raw : isLs (.raw v) = false := rfl
@[simp] theorem isLs_fn : isLs (.fn s) = false := rfl
@[simp] theorem isLs_row : isLs .row = false := rfl
@[simp] theorem isLs_rng : isLs (.rng a b) = false := rfl
@[simp] theorem isDic_int : isDic (.int n) = false := rfl
@[simp] theorem isDic_bl : isDic (.bl k) = false := rfl
@[simp] theorem isDic_non : isDic .non = false := rfl
@[simp] theorem isDic_str : isDic (.str s) = false := rfl
@[simp] theorem isDic_tup : isDic (.tup ps) = false := rfl
@[simp] theorem isDic_lst : isDic (.lst ps) = false := rfl
@[simp] theorem isDic_dic : isDic (.dic k ks vs) = true := rfl
@[simp] theorem isDic_obj : isDic (.obj t2 fs) = false := rfl
@[simp] theorem isDic_raw : isDic (.raw v) = false := rfl
@[simp] theorem isDic_fn : isDic (.fn s) = false := rfl
@[simp] theorem isDic_row : isDic .row = false := rfl
@[simp] theorem isDic_rng : isDic (.rng a b) = false := rfl
@[simp] theorem isStr_int : isStr (.int n) = false := rfl
@[simp] theorem isStr_bl : isStr (.bl k) = false := rfl
@[simp] theorem isStr_non : isStr .non = false := rfl
@[simp] theorem isStr_str : isStr (.str s) = true := rfl
@[simp] theorem isStr_tup : isStr (.tup ps) = false := rfl
@[simp] theorem isStr_lst : isStr (.lst ps) = false := rfl
@[simp] theorem isStr_dic : isStr (.dic k ks vs) = false := rfl
@[simp] theorem isStr_obj : isStr (.obj t2 fs) = false := rfl
@[simp] theorem isStr_raw : isStr (.raw v) = false := rfl
@[simp] theorem isStr_fn : isStr (.fn s) = false := rfl
@[simp] theorem isStr_row : isStr .row = false := rfl
@[simp] theorem isStr_rng : isStr (.rng a b) = false := rfl
@[simp] theorem isNon_int : isNon (.int n) = false := rfl
@[simp] theorem isNon_bl : isNon (.bl k) = false := rfl
@[simp] theorem isNon_non : isNon .non = true := rfl
@[simp] theorem isNon_str : isNon (.str s) = false := rfl
@[simp] theorem isNon_tup : isNon (.tup ps) = false := rfl
@[simp] theorem isNon_lst : isNon (.lst ps) = false := rfl
@[simp] theorem isNon_dic : isNon (.dic k ks vs) = false := rfl
@[simp] theorem isNon_obj : isNon (.obj t2 fs) = false := rfl
@[simp] theorem isNon_raw : isNon (.raw v) = false := rfl
@[simp] theorem isNon_fn : isNon (.fn s) = false := rfl
@[simp] theorem isNon_row : isNon .row = false := rfl
@[simp] theorem isNon_rng : isNon (.rng a b) = false := rfl
@[simp] theorem isOb_int : isOb t (.int n) = false := rfl
@[simp] theorem within_int : within a b (.int n) = (decide (a ≤ n) && decide (n ≤ b)) := rfl
@[simp] theorem isOb_bl : isOb t (.bl k) = false := rfl
@[simp] theorem within_bl : within c d (.bl k) = false := rfl
@[simp] theorem isOb_non : isOb t .non = false := rfl
@[simp] theorem within_non : within c d .non = false := rfl
@[simp] theorem isOb_str : isOb t (.str s) = false := rfl
@[simp] theorem within_str : within c d (.str s) = false := rfl
@[simp] theorem isOb_tup : isOb t (.tup ps) = false := rfl
@[simp] theorem within_tup : within c d (.tup ps) = false := rfl
@[simp] theorem isOb_lst : isOb t (.lst ps) = false := rfl
@[simp] theorem within_lst : within c d (.lst ps) = false := rfl
@[simp] theorem isOb_dic : isOb t (.dic k ks vs) = false := rfl
@[simp] theorem within_dic : within c d (.dic k ks vs) = false := rfl
@[simp] theorem isOb_obj : isOb t (.obj t2 fs) = (t2 == t) := rfl
@[simp] theorem within_obj : within c d (.obj t2 fs) = false := rfl
@[simp] theorem isOb_raw : isOb t (.raw v) = false := rfl
@[simp] theorem within_raw : within c d (.raw v) = false := rfl
@[simp] theorem isOb_fn : isOb t (.fn s) = false := rfl
@[simp] theorem within_fn : within c d (.fn s) = false := rfl
@[simp] theorem isOb_row : isOb t .row = false := rfl
@[simp] theorem within_row : within c d .row = false := rfl
@[simp] theorem isOb_rng : isOb t (.rng a b) = false := rfl
@[simp] theorem within_rng : within c d (.rng a b) = false := rfl
theorem within_of (h : within a b p = true) : ∃ n, p = .int n ∧ a ≤ n ∧ n ≤ b := by
  cases p <;> first | (simp at h; done) | skip
  rename_i n
  simp at h
  exact ⟨n, rfl, h⟩
theorem isi_obj (h : known G (.obj t fs) = true) (s : String) (hs : bNames.contains s = true) : isiP G (.bt s) (.obj t fs) = some (.bl false) := by
  unfold isiP isB
  simp only [hs, if_true]
  have : G.ts.contains t = true := h
  simp only [this, if_true]
  rfl
@[simp] theorem isi_int (h : known G p = true) : isiP G (.bt "int") p = some (.bl (isInt p || isBl p)) := by
  cases p <;> first | rfl | (cases h; done) | exact isi_obj h _ (by decide)
@[simp] theorem isi_bool (h : known G p = true) : isiP G (.bt "bool") p = some (.bl (isBl p)) := by
  cases p <;> first | rfl | (cases h; done) | exact isi_obj h _ (by decide)
@[simp] theorem isi_str (h : known G p = true) : isiP G (.bt "str") p = some (.bl (isStr p)) := by
  cases p <;> first | rfl | (cases h; done) | exact isi_obj h _ (by decide)
@[simp] theorem isi_tuple (h : known G p = true) : isiP G (.bt "tuple") p = some (.bl (isTup' p)) := by
  cases p <;> first | rfl | (cases h; done) | exact isi_obj h _ (by decide)
@[simp] theorem isi_list (h : known G p = true) : isiP G (.bt "list") p = some (.bl (isLs p)) := by
  cases p <;> first | rfl | (cases h; done) | exact isi_obj h _ (by decide)
@[simp] theorem isi_dict (h : known G p = true) : isiP G (.bt "dict") p = some (.bl (isDic p)) := by
  cases p <;> first | rfl | (cases h; done) | exact isi_obj h _ (by decide)
@[simp] theorem isi_own (ht : t ∈ G.ts) (h : known G p = true) : isiP G (.own t) p = some (.bl (isOb t p)) := by
  have ht : G.ts.contains t = true := List.contains_iff_mem.mpr ht
  unfold isiP isB
  simp only [if_pos ht]
  cases p <;> first | rfl | (cases h; done) | skip
  rename_i t' fs
  have : G.ts.contains t' = true := h
  simp only [this, if_true]
  rfl
theorem isi_two {n m : String} {c d : Bool}  (h1 : isiP G (.bt n) p = some (.bl c)) (h2 : isiP G (.bt m) p = some (.bl d)) : isiP2 G [.bt n, .bt m] p = some (.bl (c || d)) := by
  unfold isiP at h1 h2
  cases e1 : isB G p (.bt n) with
  | none => rw [e1] at h1; cases h1
  | some c' =>
    cases e2 : isB G p (.bt m) with
    | none => rw [e2] at h2; cases h2
    | some d' =>
      rw [e1] at h1; rw [e2] at h2
      cases h1; cases h2
      simp only [isiP2, isAny, e1, e2]
      cases c <;> cases d <;> rfl
@[simp] theorem isi_tl (h : known G p = true) : isiP2 G [.bt "tuple", .bt "list"] p = some (.bl (isTup' p || isLs p)) := isi_two (isi_tuple h) (isi_list h)
@[simp] theorem isi_lt (h : known G p = true) : isiP2 G [.bt "list", .bt "tuple"] p = some (.bl (isLs p || isTup' p)) := isi_two (isi_list h) (isi_tuple h)
@[simp] theorem isP_int : isP (.int n) .non = some (.bl false) := rfl
@[simp] theorem isntP_int : isntP (.int n) .non = some (.bl true) := rfl
@[simp] theorem isP_bl : isP (.bl k) .non = some (.bl false) := rfl
@[simp] theorem isntP_bl : isntP (.bl k) .non = some (.bl true) := rfl
@[simp] theorem isP_non : isP .non .non = some (.bl true) := rfl
@[simp] theorem isntP_non : isntP .non .non = some (.bl false) := rfl
@[simp] theorem isP_str : isP (.str s) .non = some (.bl false) := rfl
@[simp] theorem isntP_str : isntP (.str s) .non = some (.bl true) := rfl
@[simp] theorem isP_tup : isP (.tup ps) .non = some (.bl false) := rfl
@[simp] theorem isntP_tup : isntP (.tup ps) .non = some (.bl true) := rfl
@[simp] theorem isP_lst : isP (.lst ps) .non = some (.bl false) := rfl
@[simp] theorem isntP_lst : isntP (.lst ps) .non = some (.bl true) := rfl
@[simp] theorem isP_dic : isP (.dic k ks vs) .non = some (.bl false) := rfl
@[simp] theorem isntP_dic : isntP (.dic k ks vs) .non = some (.bl true) := rfl
@[simp] theorem isP_obj : isP (.obj t2 fs) .non = some (.bl false) := rfl
@[simp] theorem isntP_obj : isntP (.obj t2 fs) .non = some (.bl true) := rfl
@[simp] theorem isP_fn : isP (.fn s) .non = some (.bl false) := rfl
@[simp] theorem isntP_fn : isntP (.fn s) .non = some (.bl true) := rfl
@[simp] theorem isP_rng : isP (.rng a b) .non = some (.bl false) := rfl
@[simp] theorem isntP_rng : isntP (.rng a b) .non = some (.bl true) := rfl
@[simp] theorem isP_tupI {l : List Int} : isP (tupI l) .non = some (.bl false) := rfl
@[simp] theorem isntP_tupI {l : List Int} : isntP (tupI l) .non = some (.bl true) := rfl
@[simp] theorem isP_bls {c d : Bool} : isP (.bl c) (.bl d) = some (.bl (decide (c = d))) := rfl
@[simp] theorem isntP_bls {c d : Bool} : isntP (.bl c) (.bl d) = some (.bl (!decide (c = d))) := rfl
@[simp] theorem isInt_tupI {l : List Int} : isInt (tupI l) = false := rfl
@[simp] theorem isBl_tupI {l : List Int} : isBl (tupI l) = false := rfl
@[simp] theorem isTup_tupI {l : List Int} : isTup' (tupI l) = true := rfl
@[simp] theorem isLs_tupI {l : List Int} : isLs (tupI l) = false := rfl
@[simp] theorem isStr_tupI {l : List Int} : isStr (tupI l) = false := rfl
@[simp] theorem isDic_tupI {l : List Int} : isDic (tupI l) = false := rfl
@[simp] theorem isNon_tupI {l : List Int} : isNon (tupI l) = false := rfl
@[simp] theorem isOb_tupI {l : List Int} : isOb t (tupI l) = false := rfl
@[simp] theorem within_tupI {l : List Int} : within c d (tupI l) = false := rfl
theorem okB {b c : Bool} {r : R PV} (h : r = .ok (.bl b) ω) (e : b = c) : r = .ok (.bl c) ω := by rw [h, e]
def itms : PV → List PV
  | .tup ps => ps
  | .lst ps => ps
  | _ => []
def kn (G : Pg) (p : PV) : Bool := known G p && (itms p).all (known G) && decide ((itms p).length ≤ 1000)
@[simp] theorem m_is_integer (h : known G p = true) : F_is_integer G [p] ω = .ok (.bl (isInt p)) ω := by
  refine sat_eq ?_
  simp only [F_is_integer, t_is_integer, sg_is_integer, Γ_is_integer, dens, den, dv, N_is_integer]
  cases p <;> simp [h]
@[simp] theorem m_is_within (h : known G p = true) : F_is_within G [p, .int a, .int b] ω = .ok (.bl (within a b p)) ω := by
  refine sat_eq ?_
  simp only [F_is_within, t_is_within, sg_is_within, Γ_is_within, dens, den, dv, N_is_within]
  cases p <;> simp [h]
  omega
@[simp] theorem m_is_row (h : known G p = true) : F_is_row G [p] ω = .ok (.bl (isLs p || isTup' p)) ω := by
  refine sat_eq ?_
  simp only [F_is_row, t_is_row, sg_is_row, Γ_is_row, dens, den, dv, N_is_row]
  simp [h]
@[simp] theorem m_is_tuple_of {n : Int} (h : kn G p = true) : F_is_tuple_of G [p, .int n] ω = .ok (.bl (isTup' p && decide (((itms p).length : Int) = n))) ω := by
  refine sat_eq ?_
  simp only [kn, Bool.and_eq_true, decide_eq_true_eq] at h
  simp only [F_is_tuple_of, t_is_tuple_of, sg_is_tuple_of, Γ_is_tuple_of, dens, den, dv, N_is_tuple_of]
  cases p <;> simp [h] <;> rfl
def isSetI (m : Int) (l : List Int) : Bool := l.all (fun x => decide (0 ≤ x) && decide (x ≤ m)) && (l.zip l.tail).all fun z => decide (z.1 < z.2)
def isSet (m : Int) : PV → Bool
  | .tup ps => match intsOf ps with
    | some l => isSetI m l
    | none => false
  | _ => false
theorem ints_of_within {a b : Int} : ∀ {ps : List PV}, (∀ x ∈ ps, within a b x = true) → ∃ l : List Int, ps = l.map .int ∧ ∀ x ∈ l, a ≤ x ∧ x ≤ b
  | [], _ => ⟨[], rfl, by simp⟩
  | p :: ps, h => by
    obtain ⟨n, rfl, h1⟩ := within_of (h p (by simp))
    obtain ⟨l, rfl, h2⟩ := ints_of_within (ps := ps) fun x hx => h x (by simp [hx])
    exact ⟨n :: l, rfl, by simpa using ⟨h1, h2⟩⟩
@[simp] theorem isSet_ints {m : Int} {l : List Int} : isSet m (.tup (l.map .int)) = isSetI m l := by simp [isSet]
@[simp] theorem isSet_tupI {m : Int} {l : List Int} : isSet m (tupI l) = isSetI m l := isSet_ints
theorem isSet_out {m : Int} {ps : List PV} {x : PV} (hx : x ∈ ps) (h : within 0 m x = false) : isSet m (.tup ps) = false := by
  simp only [isSet]
  split
  · rename_i l e
    rw [intsOf_eq e] at hx
    obtain ⟨n, hn, rfl⟩ := List.mem_map.mp hx
    simp only [within_int] at h
    unfold isSetI
    rw [show (l.all fun x => decide (0 ≤ x) && decide (x ≤ m)) = false from List.all_eq_false.mpr ⟨n, hn, by simp [h]⟩]
    rfl
  · rfl
theorem m_is_set {m : Int} (h : kn G p = true) : F_is_set G [p, .int m] ω = .ok (.bl (isSet m p)) ω := by
  refine sat_eq ?_
  simp only [F_is_set, t_is_set, sg_is_set, Γ_is_set, dens, den, dv, N_is_set]
  simp only [kn, Bool.and_eq_true, decide_eq_true_eq] at h
  obtain ⟨⟨h1, h2⟩, h3⟩ := h
  cases hp : isTup' p with
  | false =>
    simp [h1, hp]
    cases p <;> first | rfl | (simp at hp; done)
  | true =>
    cases p <;> first | (simp at hp; done) | skip
    rename_i ps
    simp only [itms, List.all_eq_true] at h2 h3
    simp
    refine ⟨le_size h3, ?_⟩
    have e : ps = ps.map id := by simp
    rw [e]
    refine comp_map PV.bl ps id (within 0 m) (fun x hx => by simp [h2 x hx]) ?_
    rw [← e]
    simp [-List.map_map]
    refine ⟨fun x hx hw => isSet_out hx hw, fun hw => ?_⟩
    obtain ⟨l, rfl, hl⟩ := ints_of_within hw
    simp [-List.map_map]
    have := size_big
    simp at h3
    refine ⟨by omega, ?_⟩
    refine comp_map PV.bl _ _ (fun z => decide (z.1 < z.2)) (fun x hx => by simp) ?_
    simp [-List.map_map]
    unfold isSetI
    congr 1
    rw [Bool.eq_iff_iff]
    simp
    intro a b hz
    exact hl _ hz
theorem asc_zip : ∀ {l : List Int}, (∀ a b, (a, b) ∈ l.zip l.tail → a < b) ↔ l.Pairwise (· < ·)
  | [] => by simp
  | [a] => by simp
  | a :: b :: l => by
    have ih := asc_zip (l := b :: l)
    simp only [List.tail_cons, List.zip_cons_cons, List.mem_cons, Prod.mk.injEq] at ih ⊢
    constructor
    · intro h
      have h2 : (b :: l).Pairwise (· < ·) := ih.mp fun x y hx => h x y (.inr hx)
      refine List.pairwise_cons.mpr ⟨fun x hx => ?_, h2⟩
      have h3 : a < b := h a b (.inl ⟨rfl, rfl⟩)
      rcases List.mem_cons.mp hx with rfl | hx
      · exact h3
      · have := (List.pairwise_cons.mp h2).1 x hx
        omega
    · intro h x y hx
      rcases hx with ⟨rfl, rfl⟩ | hx
      · exact (List.pairwise_cons.mp h).1 _ (by simp)
      · exact ih.mpr (List.pairwise_cons.mp h).2 x y hx
theorem isSetI_iff {m : Int} {l : List Int} : isSetI m l = true ↔ (∀ x ∈ l, 0 ≤ x ∧ x ≤ m) ∧ l.Pairwise (· < ·) := by
  unfold isSetI
  rw [Bool.and_eq_true, ← asc_zip]
  simp
end
end GP
-- MC
set_option maxRecDepth 100000
set_option maxHeartbeats 4000000
namespace GP
open PySem PySem.Spec PyProof.Rows L2
def dT {β : Type} (enc : β → PV) (D : List (List Int × β)) : PV := .dic true (D.map fun e => tupI e.1) (D.map fun e => enc e.2)
def dI {β : Type} (enc : β → PV) (D : List (Int × β)) : PV := .dic false (D.map fun e => .int e.1) (D.map fun e => enc e.2)
section
variable {β : Type} {enc : β → PV}
theorem keysOf_int : ∀ l : List Int, keysOf (l.map .int) = some (l.map .inl)
  | [] => rfl
  | x :: l => by simp [keysOf, keyOf, keysOf_int l]
theorem tkey_tupI (k : List Int) : tkeyOf (tupI k) = some (k.map .inl) := keysOf_int k
theorem tkeys_D : ∀ D : List (List Int × β), tkeysOf (D.map fun e => tupI e.1) = some (D.map fun e => e.1.map Sum.inl)
  | [] => rfl
  | e :: D => by simp [tkeysOf, tkey_tupI, tkeys_D D]
theorem keys_D : ∀ D : List (Int × β), keysOf (D.map fun e => .int e.1) = some (D.map fun e => Sum.inl e.1)
  | [] => rfl
  | e :: D => by simp [keysOf, keyOf, keys_D D]
theorem inl_inj : ∀ {a b : List Int}, (a.map Sum.inl : List Key) = b.map Sum.inl ↔ a = b
  | [], [] => by simp
  | [], _ :: _ => by simp
  | _ :: _, [] => by simp
  | x :: a, y :: b => by simp [inl_inj (a := a) (b := b)]
theorem look_T (k : List Int) : ∀ D : List (List Int × β), look (k.map Sum.inl : List Key) (D.map fun e => e.1.map Sum.inl) (D.map fun e => enc e.2) = (D.lookup k).map enc
  | [] => rfl
  | e :: D => by
    simp only [List.map_cons, look, List.lookup]
    by_cases h : e.1 = k
    · subst h; simp
    · rw [if_neg (by rw [inl_inj]; exact h), look_T k D]
      have : (k == e.1) = false := by simp [Ne.symm h]
      rw [this]
theorem look_I (k : Int) : ∀ D : List (Int × β), look (Sum.inl k : Key) (D.map fun e => Sum.inl e.1) (D.map fun e => enc e.2) = (D.lookup k).map enc
  | [] => rfl
  | e :: D => by
    simp only [List.map_cons, look, List.lookup]
    by_cases h : e.1 = k
    · subst h; simp
    · rw [if_neg (by intro z; cases z; exact h rfl), look_I k D]
      have : (k == e.1) = false := by simp [Ne.symm h]
      rw [this]
theorem dget_T (k : List Int) (D : List (List Int × β)) : dget true (D.map fun e => tupI e.1) (D.map fun e => enc e.2) (tupI k) = some ((D.lookup k).map enc) := by
  simp only [dget, tkey_tupI, tkeys_D, look_T]
theorem dget_I (k : Int) (D : List (Int × β)) : dget false (D.map fun e => .int e.1) (D.map fun e => enc e.2) (.int k) = some ((D.lookup k).map enc) := by
  simp only [dget, keyOf, keys_D, look_I]
def hasD {κ : Type} [BEq κ] (D : List (κ × β)) (k : κ) : Bool := (D.lookup k).isSome
theorem hasD_iff {κ : Type} [BEq κ] {D : List (κ × β)} {k : κ} : hasD D k = (D.lookup k).isSome := rfl
@[simp] theorem inB_dT {k : List Int} {D : List (List Int × β)} : inB (tupI k) (dT enc D) = some (hasD D k) := by
  unfold dT hasD
  simp only [inB, dget_T]
  simp
@[simp] theorem inB_dI {k : Int} {D : List (Int × β)} : inB (.int k) (dI enc D) = some (hasD D k) := by
  unfold dI hasD
  simp only [inB, dget_I]
  simp
@[simp] theorem idxP_dT {k : List Int} {D : List (List Int × β)} : idxP (dT enc D) (tupI k) = (D.lookup k).map enc := by
  unfold dT
  simp only [idxP, dget_T]
  rfl
@[simp] theorem idxP_dI {k : Int} {D : List (Int × β)} : idxP (dI enc D) (.int k) = (D.lookup k).map enc := by
  unfold dI
  simp only [idxP, dget_I]
  rfl
def putD {κ : Type} [BEq κ] [DecidableEq κ] (D : List (κ × β)) (k : κ) (v : β) : List (κ × β) := if (D.lookup k).isSome = true then D.map fun e => if e.1 = k then (k, v) else e else D ++ [(k, v)]
theorem lookup_any {κ : Type} [BEq κ] [LawfulBEq κ] [DecidableEq κ] (k : κ) : ∀ D : List (κ × β), (D.lookup k).isSome = D.any fun e => decide (e.1 = k)
  | [] => rfl
  | e :: D => by
    simp only [List.lookup, List.any_cons]
    by_cases h : e.1 = k
    · subst h; simp
    · have : (k == e.1) = false := by simp [Ne.symm h]
      rw [this, lookup_any k D]; simp [h]
theorem putAll_T (k : List Int) (v : β) : ∀ D : List (List Int × β), putAll (k.map Sum.inl : List Key) (enc v) (D.map fun e => e.1.map Sum.inl) (D.map fun e => enc e.2) = (D.map fun e => if e.1 = k then (k, v) else e).map fun e => enc e.2
  | [] => rfl
  | e :: D => by
    simp only [List.map_cons, putAll, putAll_T k v D]
    by_cases h : e.1 = k
    · subst h; simp
    · rw [if_neg (by rw [inl_inj]; exact h), if_neg h]
theorem putAll_I (k : Int) (v : β) : ∀ D : List (Int × β), putAll (Sum.inl k : Key) (enc v) (D.map fun e => Sum.inl e.1) (D.map fun e => enc e.2) = (D.map fun e => if e.1 = k then (k, v) else e).map fun e => enc e.2
  | [] => rfl
  | e :: D => by
    simp only [List.map_cons, putAll, putAll_I k v D]
    by_cases h : e.1 = k
    · subst h; simp
    · rw [if_neg (by intro z; cases z; exact h rfl), if_neg h]
theorem dput_T0 {k : List Int} {v : β} {D : List (List Int × β)} (h : D.length + 1 ≤ sizeLine) : dputP true (D.map fun e => tupI e.1) (D.map fun e => enc e.2) (tupI k) (enc v) = some (dT enc (putD D k v)) := by
  simp only [dputP, tkey_tupI, tkeys_D, List.length_map]
  have hk : hasK (k.map Sum.inl : List Key) (D.map fun e => e.1.map Sum.inl) = (D.lookup k).isSome := by
    rw [lookup_any]
    unfold hasK
    rw [List.any_map]
    congr 1
    funext e
    simp [inl_inj]
  rw [if_pos (show fits (D.length + 1) = true from decide_eq_true h), hk, putAll_T]
  unfold putD dT
  split
  · congr 2
    rw [List.map_map]
    apply List.map_congr_left
    intro e _
    show tupI e.1 = tupI (if e.1 = k then (k, v) else e).1
    by_cases q : e.1 = k
    · rw [if_pos q, q]
    · rw [if_neg q]
  · simp
theorem dput_I0 {k : Int} {v : β} {D : List (Int × β)} (h : D.length + 1 ≤ sizeLine) : dputP false (D.map fun e => .int e.1) (D.map fun e => enc e.2) (.int k) (enc v) = some (dI enc (putD D k v)) := by
  simp only [dputP, keyOf, keys_D, List.length_map]
  have hk : hasK (Sum.inl k : Key) (D.map fun e => Sum.inl e.1) = (D.lookup k).isSome := by
    rw [lookup_any]
    unfold hasK
    rw [List.any_map]
    congr 1
    funext e
    simp
  rw [if_pos (show fits (D.length + 1) = true from decide_eq_true h), hk, putAll_I]
  unfold putD dI
  split
  · congr 2
    rw [List.map_map]
    apply List.map_congr_left
    intro e _
    show PV.int e.1 = PV.int (if e.1 = k then (k, v) else e).1
    by_cases q : e.1 = k
    · rw [if_pos q, q]
    · rw [if_neg q]
  · simp
@[simp] theorem imm_dT {D : List (List Int × β)} : imm (dT enc D) = false := rfl
@[simp] theorem imm_dI {D : List (Int × β)} : imm (dI enc D) = false := rfl
@[simp] theorem dicO_T {D : List (List Int × β)} : dicO true (some (.ow (dT enc D))) = true := rfl
@[simp] theorem dicO_I {D : List (Int × β)} : dicO false (some (.ow (dI enc D))) = true := rfl
theorem tup2 {a b : Int} : PV.tup [.int a, .int b] = tupI [a, b] := rfl
@[simp] theorem inB_dT2 {a b : Int} {D : List (List Int × β)} : inB (.tup [.int a, .int b]) (dT enc D) = some (hasD D [a, b]) := inB_dT (k := [a, b])
@[simp] theorem idxP_dT2 {a b : Int} {D : List (List Int × β)} : idxP (dT enc D) (.tup [.int a, .int b]) = (D.lookup [a, b]).map enc := idxP_dT (k := [a, b])
@[simp] theorem dput_T {k : List Int} {v : β} {D : List (List Int × β)} : dputP true (D.map fun e => tupI e.1) (D.map fun e => enc e.2) (tupI k) (enc v) = if D.length + 1 ≤ sizeLine then some (dT enc (putD D k v)) else none := by
  by_cases h : D.length + 1 ≤ sizeLine
  · rw [if_pos h]; exact dput_T0 h
  · rw [if_neg h]
    simp only [dputP, tkey_tupI, tkeys_D, List.length_map]
    rw [if_neg (show ¬ fits (D.length + 1) = true from fun z => h (of_decide_eq_true z))]
@[simp] theorem dput_I {k : Int} {v : β} {D : List (Int × β)} : dputP false (D.map fun e => .int e.1) (D.map fun e => enc e.2) (.int k) (enc v) = if D.length + 1 ≤ sizeLine then some (dI enc (putD D k v)) else none := by
  by_cases h : D.length + 1 ≤ sizeLine
  · rw [if_pos h]; exact dput_I0 h
  · rw [if_neg h]
    simp only [dputP, keyOf, keys_D, List.length_map]
    rw [if_neg (show ¬ fits (D.length + 1) = true from fun z => h (of_decide_eq_true z))]
@[simp] theorem dput_T2 {a b : Int} {v : β} {D : List (List Int × β)} : dputP true (D.map fun e => tupI e.1) (D.map fun e => enc e.2) (.tup [.int a, .int b]) (enc v) = if D.length + 1 ≤ sizeLine then some (dT enc (putD D [a, b] v)) else none := dput_T (k := [a, b])
@[simp] theorem dputO_T {k w : PV} {i : Nat} {ρ : Sto} {D : List (List Int × β)} : dputO true k w i ρ (some (.ow (dT enc D))) = (dputP true (D.map fun e => tupI e.1) (D.map fun e => enc e.2) k w).map fun d => (.nx, ρ.set i (.ow d)) := rfl
@[simp] theorem dputO_I {k w : PV} {i : Nat} {ρ : Sto} {D : List (Int × β)} : dputO false k w i ρ (some (.ow (dI enc D))) = (dputP false (D.map fun e => .int e.1) (D.map fun e => enc e.2) k w).map fun d => (.nx, ρ.set i (.ow d)) := rfl
theorem putD_new {κ : Type} [BEq κ] [LawfulBEq κ] [DecidableEq κ] {D : List (κ × β)} {k : κ} {v : β} (h : hasD D k = false) : putD D k v = D ++ [(k, v)] := by
  unfold putD; rw [hasD_iff] at h; rw [h]; rfl
theorem lookup_put {κ : Type} [BEq κ] [LawfulBEq κ] [DecidableEq κ] {D : List (κ × β)} {k k' : κ} {v : β} : (putD D k v).lookup k' = if k' = k then some v else D.lookup k' := by
  unfold putD
  split
  · rename_i h
    revert h
    induction D with
    | nil => intro h; simp at h
    | cons e D ih =>
      intro h
      simp only [List.map_cons, List.lookup]
      by_cases q : e.1 = k
      · rw [if_pos q]
        by_cases r : k' = k
        · subst r; simp
        · have h1 : (k' == k) = false := by simp [r]
          have h2 : (k' == e.1) = false := by rw [q]; exact h1
          rw [h1, h2, if_neg r]
          show List.lookup k' (D.map _) = List.lookup k' D
          by_cases s : (D.lookup k).isSome = true
          · rw [ih s, if_neg r]
          · have : D.map (fun e => if e.1 = k then (k, v) else e) = D := by
              rw [lookup_any] at s
              simp only [List.any_eq_true, decide_eq_true_eq, not_exists, not_and] at s
              conv => rhs; rw [← List.map_id D]
              apply List.map_congr_left
              intro x hx
              rw [if_neg (s x hx)]; rfl
            rw [this]
      · rw [if_neg q]
        have h3 : (D.lookup k).isSome = true := by
          simp only [List.lookup] at h
          rw [show (k == e.1) = false by simp [Ne.symm q]] at h
          exact h
        by_cases r : k' = e.1
        · subst r
          simp [q]
        · rw [show (k' == e.1) = false by simp [r]]
          exact ih h3
  · rename_i h
    rw [Bool.not_eq_true, Option.isSome_eq_false_iff, Option.isNone_iff_eq_none] at h
    induction D with
    | nil =>
      simp only [List.nil_append, List.lookup]
      by_cases r : k' = k
      · subst r; simp
      · rw [show (k' == k) = false by simp [r], if_neg r]
    | cons e D ih =>
      simp only [List.cons_append, List.lookup] at h ⊢
      by_cases q : k = e.1
      · rw [show (k == e.1) = true by simp [q]] at h; cases h
      · rw [show (k == e.1) = false by simp [q]] at h
        by_cases r : k' = e.1
        · subst r
          rw [if_neg (Ne.symm q)]; simp
        · rw [show (k' == e.1) = false by simp [r]]
          exact ih h
end
end GP
-- MD
set_option maxRecDepth 100000
set_option maxHeartbeats 4000000
namespace GP
open PySem PySem.Spec PyProof.Rows L2
theorem sat_is {α : Type} {r x : R α} (h : Sat r (fun a ω' => x = .ok a ω') (fun t v ω' => x = .exn t v ω')) : r = x := by
  cases r with
  | ok a ω => exact (sat_ok.mp h).symm
  | exn t v ω => exact (sat_exn.mp h).symm
  | bad => exact (sat_bad.mp h).elim
def prs : List Int → List (List Int)
  | [] => []
  | a :: l => l.map (fun b => [a, b]) ++ prs l
abbrev Thr := List (List Int × List Int)
def addPairs (l : List Int) : List (List Int) → Thr → Option Thr
  | [], D => some D
  | k :: ks, D => if hasD D k then none else addPairs l ks (D ++ [(k, l)])
theorem addPairs_app {l : List Int} : ∀ {ks ks' : List (List Int)} {D : Thr}, addPairs l (ks ++ ks') D = (addPairs l ks D).bind (addPairs l ks')
  | [], ks', D => rfl
  | k :: ks, ks', D => by
    simp only [List.cons_append, addPairs]
    split
    · rfl
    · exact addPairs_app
theorem addPairs_len {l : List Int} : ∀ {ks : List (List Int)} {D D' : Thr}, addPairs l ks D = some D' → D'.length = D.length + ks.length
  | [], D, D', h => by cases h; rfl
  | k :: ks, D, D', h => by
    simp only [addPairs] at h
    split at h
    · cases h
    · rw [addPairs_len h]; simp; omega
inductive Scan where
  | bad (i : Nat) | ok (D : Thr)
def scan (n : Int) : List PV → Nat → Thr → Scan
  | [], i, D => .ok D
  | p :: ps, i, D => if isSet (n - 1) p && decide (2 ≤ (itms p).length) then (match intsOf (itms p) with
    | some l => (match addPairs l (prs l) D with
      | some D' => scan n ps (i + 1) D'
      | none => .bad i)
    | none => .bad i) else .bad i
structure Sp0 (G : Pg) : Prop where
  fl : G.fl 0 = ["points", "lines", "through"].map Str.ofString
  ts : 0 ∈ G.ts
def spc (n : Int) (L : List (List Int)) (D : Thr) : PV := .obj 0 [.int n, tT L, dT tupI D]
theorem asc_len {a m : Int} : ∀ {l : List Int}, (∀ x ∈ l, a ≤ x ∧ x ≤ m) → l.Pairwise (· < ·) → (l.length : Int) ≤ max 0 (m - a + 1)
  | [], _, _ => by simp; omega
  | x :: l, h, p => by
    have h1 := h x (by simp)
    have ih := asc_len (a := x + 1) (m := m) (l := l) (fun y hy => ⟨by have := (List.pairwise_cons.mp p).1 y hy; omega, (h y (by simp [hy])).2⟩) (List.pairwise_cons.mp p).2
    simp only [List.length_cons]
    omega
theorem prs_len : ∀ l : List Int, (prs l).length ≤ l.length * l.length
  | [] => by simp [prs]
  | a :: l => by
    have := prs_len l
    simp only [prs, List.length_append, List.length_map, List.length_cons]
    rw [Nat.add_mul, Nat.mul_add]
    omega
section
variable {G : Pg} {ω : Rw} {p q : PV} {n : Int} {L : List (List Int)} {D : Thr} {QS : Fl × Sto → Rw → Prop} {E : Nat → PV → Rw → Prop} {v1 v2 v3 v4 : PV} {i : Nat}
def miss (n : Int) (D : Thr) : Option (List Int) := (prs (rgI 0 n)).find? fun k => !hasD D k
noncomputable abbrev bdS (G : Pg) (t : St) : MS := (dens G (Γ_Space___init__ G) sg_Space___init__ t).s
def OptE {α : Type} (o : Option α) (K : α → Prop) (N : Prop) : Prop := match o with
  | some a => K a
  | none => N
theorem sp_b4 {l : List Int} {a : Int} (bs : List Int) (hD : D.length + bs.length ≤ 1000000)
    (h : OptE (addPairs l (bs.map fun b => [a, b]) D) (fun D' => QS (.nx, [.ow v1, .sh v2, .sh v3, .ow (dT tupI D'), .sh (.int i), .sh (tupI l), .sh v4, .sh (.int a), .no]) ω) (E 7 (.int i) ω)) :
    Sat (forL (.nm 8) (bdS G t_Space___init___b4) [8] (bs.map .int) [.ow v1, .sh v2, .sh v3, .ow (dT tupI D), .sh (.int i), .sh (tupI l), .sh v4, .sh (.int a), .no] ω) QS E := by
  refine for_ind bs .int (fun rest ρ ω' => ω' = ω ∧ ∃ D, D.length + rest.length ≤ 1000000 ∧ ρ = [.ow v1, .sh v2, .sh v3, .ow (dT tupI D), .sh (.int i), .sh (tupI l), .sh v4, .sh (.int a), .no] ∧
      OptE (addPairs l (rest.map fun b => [a, b]) D) (fun D' => QS (.nx, [.ow v1, .sh v2, .sh v3, .ow (dT tupI D'), .sh (.int i), .sh (tupI l), .sh v4, .sh (.int a), .no]) ω) (E 7 (.int i) ω)) ⟨rfl, D, hD, rfl, h⟩ ?_ ?_
  · rintro b rest ρ ω ⟨rfl, D, hD, rfl, h⟩
    simp only [bdS, t_Space___init___b4, dens, den, dv]
    simp only [List.map_cons, addPairs, List.length_cons] at h hD
    have := size_big
    cases hk : hasD D [a, b] with
    | true =>
      simp [hk, OptE] at h ⊢
      exact h
    | false =>
      simp [hk] at h ⊢
      exact ⟨by omega, D ++ [([a, b], l)], by simp; omega, by rw [putD_new hk], h⟩
  · rintro ρ ω' ⟨rfl, D, hD, rfl, h⟩
    exact h
theorem sp_b3 {l : List Int} (at0 : Nat) (as : List Int) (hl : l.drop at0 = as) (hD : D.length + (prs as).length ≤ 1000000)
    (h : OptE (addPairs l (prs as) D) (fun D' => QS (.nx, [.ow v1, .sh v2, .sh v3, .ow (dT tupI D'), .sh (.int i), .sh (tupI l), .no, .no, .no]) ω) (E 7 (.int i) ω)) :
    Sat (forL (.tup [6, 7]) (bdS G t_Space___init___b3) [6, 7, 8] ((as.zipIdx at0).map fun z => .tup [.int z.2, .int z.1]) [.ow v1, .sh v2, .sh v3, .ow (dT tupI D), .sh (.int i), .sh (tupI l), .no, .no, .no] ω) QS E := by
  induction as generalizing at0 D with
  | nil => exact for_nil.mpr h
  | cons a as ih =>
    rw [List.zipIdx_cons, List.map_cons]
    simp only [bdS, t_Space___init___b3, dens, den, dv]
    simp [-List.map_map, -List.map_drop, -List.map_tail, -List.map_take, -Bool.exists_bool, -Bool.forall_bool, drop_map, take_map, tail_map]
    have e : l.drop (at0 + 1) = as := by rw [← List.drop_drop, hl]; rfl
    rw [e]
    simp only [prs, List.length_append, List.length_map] at hD
    refine sp_b4 as (by omega) ?_
    simp only [prs] at h
    rw [addPairs_app] at h
    cases h1 : addPairs l (as.map fun b => [a, b]) D with
    | none => rw [h1] at h; exact h
    | some D' =>
      rw [h1] at h
      have := addPairs_len h1
      simp [-List.map_map, -List.map_drop, -List.map_tail, -List.map_take, -Bool.exists_bool, -Bool.forall_bool, drop_map, take_map, tail_map, OptE]
      exact ih (at0 + 1) e (by rw [this]; simp; omega) h
theorem isSet_of {m : Int} (h : isSet m p = true) : ∃ l, p = tupI l ∧ isSetI m l = true := by
  cases p <;> first | (simp [isSet] at h; done) | skip
  rename_i ps
  simp only [isSet] at h
  cases e : intsOf ps with
  | none => rw [e] at h; cases h
  | some l =>
    rw [e] at h
    exact ⟨l, by rw [intsOf_eq e]; rfl, h⟩
@[simp] theorem itms_tupI {l : List Int} : itms (tupI l) = l.map .int := rfl
theorem sp_b2 (h2 : 2 ≤ n) (h21 : n ≤ 21) (ps : List PV) (hk : ∀ x ∈ ps, kn G x = true) (i : Nat) (D : Thr) (hD : D.length + 500 * ps.length ≤ 1000000)
    (h : match scan n ps i D with
      | .ok D' => QS (.nx, [.ow v1, .sh (.int n), .sh v3, .ow (dT tupI D'), .no, .no, .no, .no, .no]) ω
      | .bad j => E 7 (.int j) ω) :
    Sat (forL (.tup [4, 5]) (bdS G t_Space___init___b2) [4, 5, 6, 7, 8] (enumFrom i ps) [.ow v1, .sh (.int n), .sh v3, .ow (dT tupI D), .no, .no, .no, .no, .no] ω) QS E := by
  induction ps generalizing i D with
  | nil => exact for_nil.mpr h
  | cons p ps ih =>
    simp only [enumFrom]
    simp only [bdS, t_Space___init___b2, dens, den, dv]
    have kp := hk p (by simp)
    simp only [scan] at h
    simp only [List.length_cons] at hD
    simp [m_is_set kp]
    cases hs : isSet (n - 1) p with
    | false =>
      rw [hs] at h
      simp
      exact h
    | true =>
      obtain ⟨l, rfl, hl⟩ := isSet_of hs
      rw [hs] at h
      have hl' := isSetI_iff.mp hl
      have len := asc_len (a := 0) (m := n - 1) hl'.1 hl'.2
      by_cases hlen : 2 ≤ l.length
      · simp only [itms_tupI, List.length_map, hlen, intsOf_map, decide_true, Bool.and_true, if_true] at h
        simp
        have pl := prs_len l
        have : l.length * l.length ≤ 21 * 21 := Nat.mul_le_mul (by omega) (by omega)
        refine ⟨fun z => by omega, fun z => sp_b3 0 l rfl (by omega) ?_⟩
        cases ha : addPairs l (prs l) D with
        | none => rw [ha] at h; exact h
        | some D' =>
          rw [ha] at h
          have hd := addPairs_len ha
          simp [OptE]
          exact ih (fun x hx => hk x (by simp [hx])) (i + 1) D' (by omega) h
      · simp [hlen] at h
        simp
        refine ⟨fun z => h, fun z => by omega⟩
theorem sp_b1 (a : Int) (bs : List Int) 
    (h : match (bs.map fun b => [a, b]).find? fun k => !hasD D k with
      | none => QS (.nx, [.ow v1, .sh v2, .sh v3, .ow (dT tupI D), .no, .no, .no, .sh (.int a), .no]) ω
      | some k => E 24 (tupI k) ω) :
    Sat (forL (.nm 8) (bdS G t_Space___init___b1) [8] (bs.map .int) [.ow v1, .sh v2, .sh v3, .ow (dT tupI D), .no, .no, .no, .sh (.int a), .no] ω) QS E := by
  induction bs with
  | nil => exact for_nil.mpr h
  | cons b bs ih =>
    rw [List.map_cons]
    simp only [bdS, t_Space___init___b1, dens, den, dv]
    simp only [List.map_cons, List.find?] at h
    simp [-List.map_map, -List.map_drop, -List.map_tail, -List.map_take, -Bool.exists_bool, -Bool.forall_bool, drop_map, take_map, tail_map]
    cases hk : hasD D [a, b] with
    | true =>
      rw [hk] at h
      simp
      exact ih h
    | false =>
      rw [hk] at h
      simp
      exact h
theorem sp_b0 (h21 : n ≤ 21) (k : Nat) (a : Int) (ha : 0 ≤ a) (hk : (n - a).toNat = k)
    (h : match (prs (rgI a n)).find? fun k => !hasD D k with
      | none => QS (.nx, [.ow v1, .sh (.int n), .sh v3, .ow (dT tupI D), .no, .no, .no, .no, .no]) ω
      | some k => E 24 (tupI k) ω) :
    Sat (forL (.nm 7) (bdS G t_Space___init___b0) [7, 8] ((rgI a n).map .int) [.ow v1, .sh (.int n), .sh v3, .ow (dT tupI D), .no, .no, .no, .no, .no] ω) QS E := by
  induction k generalizing a with
  | zero => rw [rgI_nil (by omega)] at h ⊢; exact for_nil.mpr h
  | succ k ih =>
    rw [rgI_cons (by omega)] at h ⊢
    rw [List.map_cons]
    simp only [prs, List.find?_append] at h
    simp only [bdS, t_Space___init___b0, dens, den, dv]
    simp [-List.map_map, -List.map_drop, -List.map_tail, -List.map_take, -Bool.exists_bool, -Bool.forall_bool, drop_map, take_map, tail_map]
    refine ⟨rg62_of (by omega) (by omega) (by omega) (by omega), sp_b1 a _ ?_⟩
    cases hf : ((rgI (a + 1) n).map fun b => [a, b]).find? fun k => !hasD D k with
    | some k => rw [hf] at h; exact h
    | none =>
      rw [hf] at h
      simp
      exact ih (a + 1) (by omega) (by omega) h
theorem scan_tups : ∀ {ps : List PV} {i : Nat} {D D' : Thr}, scan n ps i D = .ok D' → ∃ L : List (List Int), ps = L.map tupI ∧ (∀ l ∈ L, isSetI (n - 1) l = true ∧ 2 ≤ l.length)
  | [], i, D, D', h => ⟨[], rfl, by simp⟩
  | p :: ps, i, D, D', h => by
    simp only [scan] at h
    split at h
    · rename_i c
      simp only [Bool.and_eq_true, decide_eq_true_eq] at c
      obtain ⟨l, rfl, hl⟩ := isSet_of c.1
      rw [itms_tupI, intsOf_map] at h
      simp only at h
      cases ha : addPairs l (prs l) D with
      | none => rw [ha] at h; cases h
      | some D1 =>
        rw [ha] at h
        obtain ⟨L, rfl, hL⟩ := scan_tups h
        exact ⟨l :: L, rfl, by
          intro x hx
          rcases List.mem_cons.mp hx with rfl | hx
          · exact ⟨hl, by simpa using c.2⟩
          · exact hL x hx⟩
    · cases h
theorem tupsOf_map' : ∀ L : List (List Int), tupsOf (L.map tupI) = some L
  | [] => rfl
  | l :: L => by
    have := tupsOf_map' L
    show (match intsOf (l.map .int), tupsOf (L.map tupI) with
      | some ns, some nss => some (ns :: nss)
      | _, _ => none) = _
    rw [this, intsOf_map]
def fin0 (G : Pg) (n : Int) (q : PV) (ω : Rw) : Scan → R PV
  | .bad i => .exn 7 (.int i) ω
  | .ok D => match miss n D with
    | some k => .exn 24 (tupI k) ω
    | none => .ok (spc n (tsort ((tupsOf (itms q)).getD [])) D) ω
theorem m_Space_init (S : Sp0 G) (hp : known G p = true) (hq : known G q = true) (hi : ∀ x ∈ itms q, kn G x = true) (hl : (itms q).length ≤ 1000) :
    F_Space___init__ G [p, q] ω = match p with
      | .int n => if within 2 21 (.int n) then (if isLs q || isTup' q then fin0 G n q ω (scan n (itms q) 0 []) else .exn 7 (.int (-1)) ω) else .exn 6 p ω
      | _ => .exn 6 p ω := by
  refine sat_is ?_
  simp only [F_Space___init__, t_Space___init__, dens, den, dv, N_Space___init__]
  cases hw : within 2 21 p with
  | false =>
    simp [hp, hw]
    cases p <;> first | rfl | skip
    simp [hw]
    intro a b
    simp [within, a, b] at hw
  | true =>
    obtain ⟨n, rfl, h1, h2⟩ := within_of hw
    simp [hp, hw, m_is_row, hq]
    refine ⟨fun a b c => by simp [a, b] at c, fun hr => ?_⟩
    have sq : sqP q = some (itms q) := by cases q <;> simp at hr ⊢ <;> rfl
    rw [sq]
    refine sp_b2 h1 h2 (itms q) hi 0 [] (by simp; omega) ?_
    simp only [hr, if_true]
    cases hs : scan n (itms q) 0 [] with
    | bad j => rfl
    | ok D =>
      simp
      refine ⟨rg62_of (by omega) (by omega) (by omega) (by omega), sp_b0 h2 n.toNat 0 (by omega) (by omega) ?_⟩
      show match miss n D with
        | none => _
        | some k => _
      obtain ⟨L, eL, hL⟩ := scan_tups hs
      have so : sortedP [q] = some (.lst ((tsort L).map tupI)) := by
        have : sortL (itms q) = some ((tsort L).map tupI) := by
          rw [eL]
          unfold sortL
          cases L with
          | nil => simp [tsort, isort, intsOf]
          | cons l L =>
            have : intsOf ((l :: L).map tupI) = none := rfl
            rw [this]
            simp only [tupsOf_map']
            rw [if_pos]
            simp only [Bool.or_eq_true, List.all_eq_true]
            right
            intro x hx
            have := (hL x hx).2
            cases x <;> simp at this ⊢
        cases q <;> simp at hr
        · simp only [itms] at this
          simp [sortedP, this]
        · simp only [itms] at this
          simp [sortedP, this]
      cases hm : miss n D with
      | some k => simp [fin0, hm]
      | none =>
        simp [S.fl, so, fin0, hm, eL, tupsOf_map', spc, tT]
end
end GP
-- ME
set_option maxRecDepth 100000
set_option maxHeartbeats 4000000
namespace GP
open PySem PySem.Spec PyProof.Rows L2
structure Lin (n : Int) (L : List (List Int)) : Prop where
  lo : 2 ≤ n
  hi : n ≤ 21
  ok : ∀ l ∈ L, (∀ x ∈ l, 0 ≤ x ∧ x < n) ∧ l.Pairwise (· < ·) ∧ 2 ≤ l.length
  nd : L.Nodup
  un : ∀ l ∈ L, ∀ l' ∈ L, ∀ a b, a ≠ b → a ∈ l → b ∈ l → a ∈ l' → b ∈ l' → l = l'
  ex : ∀ a b, 0 ≤ a → a < b → b < n → ∃ l ∈ L, a ∈ l ∧ b ∈ l
theorem mem_prs : ∀ {l : List Int} {k : List Int}, l.Pairwise (· < ·) → (k ∈ prs l ↔ ∃ a b, k = [a, b] ∧ a < b ∧ a ∈ l ∧ b ∈ l)
  | [], k, _ => by simp [prs]
  | x :: l, k, h => by
    have ih := mem_prs (l := l) (k := k) (List.pairwise_cons.mp h).2
    simp only [prs, List.mem_append, List.mem_map, ih]
    have hx := (List.pairwise_cons.mp h).1
    constructor
    · rintro (⟨b, hb, rfl⟩ | ⟨a, b, rfl, h1, h2, h3⟩)
      · exact ⟨x, b, rfl, hx b hb, by simp, by simp [hb]⟩
      · exact ⟨a, b, rfl, h1, by simp [h2], by simp [h3]⟩
    · rintro ⟨a, b, rfl, h1, h2, h3⟩
      rcases List.mem_cons.mp h2 with e | h2'
      · rcases List.mem_cons.mp h3 with e' | h3'
        · omega
        · exact .inl ⟨b, h3', by rw [e]⟩
      · rcases List.mem_cons.mp h3 with e' | h3'
        · have := hx a h2'; omega
        · exact .inr ⟨a, b, rfl, h1, h2', h3'⟩
theorem nodup_prs : ∀ {l : List Int}, l.Pairwise (· < ·) → (prs l).Nodup
  | [], _ => by simp [prs]
  | x :: l, h => by
    have hl := (List.pairwise_cons.mp h).2
    have hx := (List.pairwise_cons.mp h).1
    rw [prs, List.nodup_append]
    refine ⟨?_, nodup_prs hl, ?_⟩
    · refine List.Pairwise.map _ (fun a b hab => ?_) (hl.imp (S := fun a b => a ≠ b) fun q => by omega)
      intro z
      simp at z
      exact hab z
    · intro k hk k' hk' e
      subst e
      obtain ⟨b, hb, rfl⟩ := List.mem_map.mp hk
      obtain ⟨a, b', e, h1, h2, h3⟩ := (mem_prs hl).mp hk'
      simp at e
      have := hx a h2
      omega
theorem addPairs_eq {l : List Int} : ∀ {ks : List (List Int)} {D : Thr}, ks.Nodup → (∀ k ∈ ks, hasD D k = false) → addPairs l ks D = some (D ++ ks.map fun k => (k, l))
  | [], D, _, _ => by simp [addPairs]
  | k :: ks, D, h, h2 => by
    simp only [addPairs]
    rw [h2 k (by simp)]
    simp only [Bool.false_eq_true, if_false]
    rw [addPairs_eq (List.nodup_cons.mp h).2]
    · simp
    · intro k' hk'
      have h3 := h2 k' (by simp [hk'])
      have : k' ≠ k := fun z => (List.nodup_cons.mp h).1 (z ▸ hk')
      rw [hasD_iff, lookup_any] at h3 ⊢
      simp at h3 ⊢
      exact ⟨h3, Ne.symm this⟩
theorem addPairs_none {l : List Int} : ∀ {ks : List (List Int)} {D : Thr}, (∃ k ∈ ks, hasD D k = true) → addPairs l ks D = none
  | [], D, ⟨_, h, _⟩ => by simp at h
  | k :: ks, D, ⟨k', h, h2⟩ => by
    simp only [addPairs]
    cases hk : hasD D k with
    | true => rfl
    | false =>
      simp only [Bool.false_eq_true, if_false]
      rcases List.mem_cons.mp h with rfl | h
      · rw [hk] at h2; cases h2
      · refine addPairs_none ⟨k', h, ?_⟩
        rw [hasD_iff, lookup_any] at h2 ⊢
        simp at h2 ⊢
        exact .inl h2
def allPr (L : List (List Int)) : Thr := L.flatMap fun l => (prs l).map fun k => (k, l)
theorem mem_allPr {L : List (List Int)} {k l : List Int} : (k, l) ∈ allPr L ↔ l ∈ L ∧ k ∈ prs l := by
  simp only [allPr, List.mem_flatMap, List.mem_map, Prod.mk.injEq]
  constructor
  · rintro ⟨l', h1, k', h2, rfl, rfl⟩; exact ⟨h1, h2⟩
  · rintro ⟨h1, h2⟩; exact ⟨l, h1, k, h2, rfl, rfl⟩
theorem hasD_mem {κ β : Type} [BEq κ] [LawfulBEq κ] [DecidableEq κ] {D : List (κ × β)} {k : κ} : hasD D k = true ↔ ∃ v, (k, v) ∈ D := by
  rw [hasD_iff, lookup_any]
  simp only [List.any_eq_true, decide_eq_true_eq]
  constructor
  · rintro ⟨⟨a, b⟩, h, rfl⟩; exact ⟨b, h⟩
  · rintro ⟨v, h⟩; exact ⟨_, h, rfl⟩
def okL (n : Int) (l : List Int) : Bool := isSetI (n - 1) l && decide (2 ≤ l.length)
theorem okL_iff {n : Int} {l : List Int} : okL n l = true ↔ (∀ x ∈ l, 0 ≤ x ∧ x < n) ∧ l.Pairwise (· < ·) ∧ 2 ≤ l.length := by
  unfold okL
  rw [Bool.and_eq_true, isSetI_iff, decide_eq_true_eq]
  constructor
  · rintro ⟨⟨h1, h2⟩, h3⟩
    exact ⟨fun x hx => by have := h1 x hx; omega, h2, h3⟩
  · rintro ⟨h1, h2, h3⟩
    exact ⟨⟨fun x hx => by have := h1 x hx; omega, h2⟩, h3⟩
theorem scan_cons {n : Int} {l : List Int} {ps : List PV} {i : Nat} {D : Thr} : scan n (tupI l :: ps) i D = if okL n l = true then (match addPairs l (prs l) D with
    | some D' => scan n ps (i + 1) D'
    | none => .bad i) else .bad i := by
  simp only [scan, isSet_tupI, itms_tupI, List.length_map, intsOf_map, okL]
  rfl
def Apart2 (L : List (List Int)) : Prop := L.Pairwise fun l l' => ∀ k ∈ prs l, k ∉ prs l'
theorem scan_ok {n : Int} : ∀ {L : List (List Int)} {ps : List PV} {i : Nat} {D : Thr}, (∀ l ∈ L, okL n l = true) → Apart2 L → (∀ l ∈ L, ∀ k ∈ prs l, hasD D k = false) →
    scan n (L.map tupI ++ ps) i D = scan n ps (i + L.length) (D ++ allPr L)
  | [], ps, i, D, _, _, _ => by simp [allPr]
  | l :: L, ps, i, D, h1, h2, h3 => by
    have hl := okL_iff.mp (h1 l (by simp))
    rw [List.map_cons, List.cons_append, scan_cons, if_pos (h1 l (by simp)), addPairs_eq (nodup_prs hl.2.1) (h3 l (by simp))]
    simp only
    rw [scan_ok (fun x hx => h1 x (by simp [hx])) (List.pairwise_cons.mp h2).2]
    · simp only [List.length_cons, allPr, List.flatMap_cons, List.append_assoc]
      rw [show i + 1 + L.length = i + (L.length + 1) by omega]
    · intro l' hl' k hk
      have h4 := h3 l' (by simp [hl']) k hk
      have h5 : k ∉ prs l := fun z => (List.pairwise_cons.mp h2).1 l' hl' k z hk
      cases q : hasD (D ++ (prs l).map fun k => (k, l)) k with
      | false => rfl
      | true =>
        obtain ⟨v, hv⟩ := hasD_mem.mp q
        rcases List.mem_append.mp hv with hv | hv
        · rw [hasD_mem.mpr ⟨v, hv⟩] at h4; cases h4
        · obtain ⟨k', hk', e⟩ := List.mem_map.mp hv
          cases e
          exact absurd hk' h5
theorem Lin.okL {n : Int} {L : List (List Int)} (h : Lin n L) : ∀ l ∈ L, okL n l = true := fun l hl => okL_iff.mpr (h.ok l hl)
theorem Lin.apart {n : Int} {L : List (List Int)} (h : Lin n L) : Apart2 L := by
  refine List.Pairwise.imp_of_mem ?_ h.nd
  intro l l' hl hl' ne k hk hk'
  obtain ⟨a, b, rfl, h1, h2, h3⟩ := (mem_prs (h.ok l hl).2.1).mp hk
  obtain ⟨a', b', e, h4, h5, h6⟩ := (mem_prs (h.ok l' hl').2.1).mp hk'
  simp at e
  obtain ⟨rfl, rfl⟩ := e
  exact ne (h.un l hl l' hl' a b (by omega) h2 h3 h5 h6)
structure SpOk (n : Int) (L : List (List Int)) (D : Thr) : Prop where
  lin : Lin n L
  thr : ∀ a b, 0 ≤ a → a < b → b < n → ∀ l, D.lookup [a, b] = some l ↔ l ∈ L ∧ a ∈ l ∧ b ∈ l
theorem lookup_mem' {κ β : Type} [BEq κ] [LawfulBEq κ] {k : κ} {v : β} : ∀ {D : List (κ × β)}, D.lookup k = some v → (k, v) ∈ D
  | [], h => by simp at h
  | (a, b) :: D, h => by
    simp only [List.lookup] at h
    split at h
    · rename_i e
      cases h
      rw [eq_of_beq e]; simp
    · simp [lookup_mem' h]
theorem Lin.scan {n : Int} {L : List (List Int)} (h : Lin n L) (i : Nat) : GP.scan n (L.map tupI) i [] = .ok (allPr L) := by
  have := scan_ok (ps := []) (i := i) (D := []) h.okL h.apart (fun l hl k hk => rfl)
  rw [List.append_nil] at this
  rw [this]; rfl
theorem Lin.look {n : Int} {L : List (List Int)} (h : Lin n L) (a b : Int) (h1 : a < b) (l : List Int) : (allPr L).lookup [a, b] = some l ↔ l ∈ L ∧ a ∈ l ∧ b ∈ l := by
  have key : ∀ l, ([a, b], l) ∈ allPr L ↔ l ∈ L ∧ a ∈ l ∧ b ∈ l := by
    intro l
    rw [mem_allPr]
    constructor
    · rintro ⟨h3, h4⟩
      obtain ⟨a', b', e, h5, h6, h7⟩ := (mem_prs (h.ok l h3).2.1).mp h4
      simp at e
      obtain ⟨rfl, rfl⟩ := e
      exact ⟨h3, h6, h7⟩
    · rintro ⟨h3, h4, h5⟩
      exact ⟨h3, (mem_prs (h.ok l h3).2.1).mpr ⟨a, b, rfl, h1, h4, h5⟩⟩
  constructor
  · intro e
    exact (key l).mp (lookup_mem' e)
  · intro e
    have : hasD (allPr L) [a, b] = true := hasD_mem.mpr ⟨l, (key l).mpr e⟩
    rw [hasD_iff] at this
    obtain ⟨l', hl'⟩ := Option.isSome_iff_exists.mp this
    rw [hl']
    obtain ⟨h3, h4, h5⟩ := (key l').mp (lookup_mem' hl')
    rw [h.un l' h3 l e.1 a b (by omega) h4 h5 e.2.1 e.2.2]
theorem rgI_asc : ∀ {a b : Int}, (rgI a b).Pairwise (· < ·) := by
  intro a b
  unfold rgI
  refine List.Pairwise.map _ (R := fun (i j : Nat) => i < j) (fun i j h => by omega) List.pairwise_lt_range
theorem Lin.miss {n : Int} {L : List (List Int)} (h : Lin n L) : GP.miss n (allPr L) = none := by
  unfold GP.miss
  rw [List.find?_eq_none]
  intro k hk
  obtain ⟨a, b, rfl, h1, h2, h3⟩ := (mem_prs rgI_asc).mp hk
  rw [mem_rgI] at h2 h3
  obtain ⟨l, h4, h5, h6⟩ := h.ex a b h2.1 h1 h3.2
  simp
  rw [hasD_iff, (h.look a b h1 l).mpr ⟨h4, h5, h6⟩]; rfl
theorem Lin.perm {n : Int} {L L' : List (List Int)} (h : Lin n L) (p : L.Perm L') : Lin n L' where
  lo := h.lo
  hi := h.hi
  ok := fun l hl => h.ok l (p.mem_iff.mpr hl)
  nd := p.nodup_iff.mp h.nd
  un := fun l hl l' hl' => h.un l (p.mem_iff.mpr hl) l' (p.mem_iff.mpr hl')
  ex := fun a b h1 h2 h3 => by
    obtain ⟨l, h4, h5⟩ := h.ex a b h1 h2 h3
    exact ⟨l, p.mem_iff.mp h4, h5⟩
theorem Lin.spOk {n : Int} {L L' : List (List Int)} (h : Lin n L) (p : L.Perm L') : SpOk n L' (allPr L) :=
  ⟨h.perm p, fun a b _ h2 _ l => by rw [h.look a b h2 l, p.mem_iff]⟩
theorem take2 {l : List Int} (h : 2 ≤ l.length) (p : l.Pairwise (· < ·)) : ∃ a b, l.take 2 = [a, b] ∧ a < b ∧ a ∈ l ∧ b ∈ l := by
  cases l with
  | nil => simp at h
  | cons a l =>
    cases l with
    | nil => simp at h
    | cons b l => exact ⟨a, b, rfl, (List.pairwise_cons.mp p).1 b (by simp), by simp, by simp⟩
theorem Lin.len {n : Int} {L : List (List Int)} (h : Lin n L) : L.length ≤ 441 := by
  have h1 : (L.map (List.take 2)).Nodup := by
    refine List.Pairwise.map _ (R := fun l l' => l ∈ L ∧ l' ∈ L ∧ l ≠ l') (fun l l' ⟨hl, hl', ne⟩ z => ?_) ?_
    · obtain ⟨a, b, e, h3, h4, h5⟩ := take2 (h.ok l hl).2.2 (h.ok l hl).2.1
      obtain ⟨a', b', e', h3', h4', h5'⟩ := take2 (h.ok l' hl').2.2 (h.ok l' hl').2.1
      rw [e, e'] at z
      simp at z
      obtain ⟨rfl, rfl⟩ := z
      exact ne (h.un l hl l' hl' a b (by omega) h4 h5 h4' h5')
    · exact List.Pairwise.imp_of_mem (fun ha hb r => ⟨ha, hb, r⟩) h.nd
  have h2 : L.map (List.take 2) ⊆ prs (rgI 0 n) := by
    intro k hk
    obtain ⟨l, hl, rfl⟩ := List.mem_map.mp hk
    obtain ⟨a, b, e, h3, h4, h5⟩ := take2 (h.ok l hl).2.2 (h.ok l hl).2.1
    rw [e]
    refine (mem_prs rgI_asc).mpr ⟨a, b, rfl, h3, mem_rgI.mpr ?_, mem_rgI.mpr ?_⟩
    · exact (h.ok l hl).1 a h4
    · exact (h.ok l hl).1 b h5
  have h3 := h1.length_le_of_subset h2
  have h4 := prs_len (rgI 0 n)
  rw [rgI_len] at h4
  have h5 : (n - 0).toNat ≤ 21 := by have := h.hi; omega
  have h6 : (n - 0).toNat * (n - 0).toNat ≤ 21 * 21 := Nat.mul_le_mul h5 h5
  simp at h3
  omega
section
variable {G : Pg} {ω : Rw} {n : Int} {L : List (List Int)}
theorem kn_tupI {l : List Int} (h : l.length ≤ 1000) : kn G (tupI l) = true := by
  simp only [kn, itms_tupI, List.length_map, Bool.and_eq_true, decide_eq_true_eq, List.all_eq_true]
  refine ⟨⟨by simp, fun x hx => ?_⟩, h⟩
  obtain ⟨y, _, rfl⟩ := List.mem_map.mp hx
  simp
theorem Lin.line_len (h : Lin n L) {l : List Int} (hl : l ∈ L) : l.length ≤ 21 := by
  have h1 := h.ok l hl
  have := asc_len (a := 0) (m := n - 1) (l := l) (fun x hx => by have := h1.1 x hx; omega) h1.2.1
  have := h.hi
  have := h.lo
  omega
theorem sat_self {α : Type} {r : R α} (h : r ≠ .bad) : Sat r (fun a ω' => r = .ok a ω') (fun t v ω' => r = .exn t v ω') := by
  cases r with
  | ok a ω => exact sat_ok.mpr rfl
  | exn t v ω => exact sat_exn.mpr rfl
  | bad => exact absurd rfl h
theorem m_Space_nb (S : Sp0 G) {p q : PV} (hp : known G p = true) (hq : known G q = true) (hi : ∀ x ∈ itms q, kn G x = true) (hl : (itms q).length ≤ 1000) : F_Space___init__ G [p, q] ω ≠ .bad := by
  rw [m_Space_init S hp hq hi hl]
  cases p <;> first | (intro z; cases z; done) | skip
  dsimp only
  split
  · split
    · rename_i n _ _
      cases scan n (itms q) 0 [] with
      | bad j => intro z; cases z
      | ok D =>
        unfold fin0
        dsimp only
        split <;> (intro z; cases z)
    · intro z; cases z
  · intro z; cases z
theorem m_Space_nbL (S : Sp0 G) {p : PV} (hp : known G p = true) (hL : L.length ≤ 1000) (hl : ∀ l ∈ L, l.length ≤ 1000) : F_Space___init__ G [p, .lst (L.map tupI)] ω ≠ .bad := by
  refine m_Space_nb S hp (by simp) (fun x hx => ?_) (by simpa [itms] using hL)
  obtain ⟨l, hl', rfl⟩ := List.mem_map.mp hx
  exact kn_tupI (hl l hl')
theorem m_Space_lin (S : Sp0 G) (h : Lin n L) {q : PV} (hq : q = .lst (L.map tupI) ∨ q = .tup (L.map tupI)) : F_Space___init__ G [.int n, q] ω = .ok (spc n (tsort L) (allPr L)) ω := by
  have hi : itms q = L.map tupI := by rcases hq with rfl | rfl <;> rfl
  have kq : known G q = true := by rcases hq with rfl | rfl <;> simp
  have iq : (isLs q || isTup' q) = true := by rcases hq with rfl | rfl <;> simp
  rw [m_Space_init S (by simp) kq]
  · have h1 := h.lo
    have h2 := h.hi
    simp only [within_int, decide_eq_true h1, decide_eq_true h2, iq, Bool.and_self, if_true, hi, h.scan, fin0, h.miss, tupsOf_map', Option.getD_some]
  · rw [hi]
    intro x hx
    obtain ⟨l, hl, rfl⟩ := List.mem_map.mp hx
    have := h.line_len hl
    exact kn_tupI (by omega)
  · rw [hi, List.length_map]
    have := h.len
    omega
end
end GP
-- MF
set_option maxRecDepth 100000
set_option maxHeartbeats 400000
namespace GP
open PySem PySem.Spec PyProof.Rows L2
def lineT (L : List (List Int)) (a b : Int) : List Int := (L.find? fun l => decide (a ∈ l) && decide (b ∈ l)).getD []
def apartL : List (List Int) → Option (List Int × List Int)
  | [] => none
  | l :: L => match L.find? fun m => !(l.any fun x => decide (x ∈ m)) with
    | some m => some (l, m)
    | none => apartL L
def apP : Option (List Int × List Int) → PV
  | none => .non
  | some z => .tup [tupI z.1, tupI z.2]
def isPlaneB (L : List (List Int)) : Bool := decide (2 ≤ L.length) && (L.all fun l => decide (2 < l.length)) && (apartL L).isNone
section
variable {G : Pg} {ω : Rw} {n : Int} {L : List (List Int)} {D : Thr} {p : PV} {a b : Int}
theorem Lin.lineT (h : Lin n L) (ha : 0 ≤ a ∧ a < n) (hb : 0 ≤ b ∧ b < n) (ne : a ≠ b) : lineT L a b ∈ L ∧ a ∈ lineT L a b ∧ b ∈ lineT L a b := by
  have : ∃ l ∈ L, a ∈ l ∧ b ∈ l := by
    rcases Int.lt_or_gt_of_ne ne with c | c
    · exact h.ex a b ha.1 c hb.2
    · obtain ⟨l, h1, h2, h3⟩ := h.ex b a hb.1 c ha.2
      exact ⟨l, h1, h3, h2⟩
  obtain ⟨l, h1, h2, h3⟩ := this
  unfold GP.lineT
  cases e : L.find? fun l => decide (a ∈ l) && decide (b ∈ l) with
  | none =>
    have := List.find?_eq_none.mp e l h1
    simp [h2, h3] at this
  | some m =>
    have h4 := List.find?_some e
    have h5 := List.mem_of_find?_eq_some e
    simp at h4
    exact ⟨h5, h4⟩
theorem Lin.lineT_uniq (h : Lin n L) (ne : a ≠ b) {l : List Int} (hl : l ∈ L) (ha : a ∈ l) (hb : b ∈ l) : GP.lineT L a b = l := by
  have h1 := h.ok l hl
  have h2 := h.lineT (h1.1 a ha) (h1.1 b hb) ne
  exact h.un _ h2.1 l hl a b ne h2.2.1 h2.2.2 ha hb
theorem SpOk.line (h : SpOk n L D) (ha : 0 ≤ a ∧ a < n) (hb : 0 ≤ b ∧ b < n) (ne : a ≠ b) : D.lookup [if b < a then b else a, if b > a then b else a] = some (lineT L a b) := by
  have h1 := h.lin.lineT ha hb ne
  by_cases c : b < a
  · rw [if_pos c, if_neg (by omega)]
    exact (h.thr b a hb.1 c ha.2 _).mpr ⟨h1.1, h1.2.2, h1.2.1⟩
  · rw [if_neg c, if_pos (by omega)]
    exact (h.thr a b ha.1 (by omega) hb.2 _).mpr h1
theorem fld_points (S : Sp0 G) : fldP G "points" (spc n L D) = some (.int n) := by simp [spc, fldP, S.fl, fieldAt]
theorem fld_lines (S : Sp0 G) : fldP G "lines" (spc n L D) = some (.tup (L.map tupI)) := by simp [spc, fldP, S.fl, fieldAt, tT]
theorem fld_through (S : Sp0 G) : fldP G "through" (spc n L D) = some (dT tupI D) := by simp [spc, fldP, S.fl, fieldAt]
theorem known_spc (S : Sp0 G) : known G (spc n L D) = true := List.contains_iff_mem.mpr S.ts
@[simp] theorem isOb_spc {t : Nat} : isOb t (spc n L D) = (0 == t) := rfl
@[simp] theorem objK_spc {K : List PV → Prop} : ObjK 0 (spc n L D) K ↔ K [.int n, tT L, dT tupI D] := ⟨fun h => h.2, fun h => ⟨rfl, h⟩⟩
theorem m_line (S : Sp0 G) (h : SpOk n L D) (ha : 0 ≤ a ∧ a < n) (hb : 0 ≤ b ∧ b < n) (ne : a ≠ b) : F_Space_line G [.obj 0 [.int n, tT L, dT tupI D], .int a, .int b] ω = .ok (tupI (lineT L a b)) ω := by
  refine sat_eq ?_
  simp only [F_Space_line, t_Space_line, dens, den, dv, N_Space_line]
  have e : fldP G (Str.ofString "through") (.obj 0 [.int n, tT L, dT tupI D]) = some (dT tupI D) := fld_through (n := n) (L := L) S
  simp [e, minP, maxP, h.line ha hb ne]
theorem m_check_space (S : Sp0 G) (h : known G p = true) : F_check_space G [p] ω = if isOb 0 p = true then .ok .non ω else .exn 8 p ω := by
  refine sat_is ?_
  simp only [F_check_space, t_check_space, dens, den, dv, N_check_space]
  simp [h, S.ts]
theorem m_check_point (S : Sp0 G) (h : known G p = true) : F_check_point G [spc n L D, p] ω = if within 0 (n - 1) p = true then .ok .non ω else .exn 13 p ω := by
  refine sat_is ?_
  simp only [F_check_point, t_check_point, dens, den, dv, N_check_point]
  simp [h, fld_points S]
theorem m_check_set (S : Sp0 G) (h : kn G p = true) : F_check_set G [spc n L D, p] ω = if isSet (n - 1) p = true then .ok .non ω else .exn 14 p ω := by
  refine sat_is ?_
  simp only [F_check_set, t_check_set, dens, den, dv, N_check_set]
  simp [m_is_set h, fld_points S]
theorem m_check_space' (S : Sp0 G) : F_check_space G [spc n L D] ω = .ok .non ω := by
  rw [m_check_space S (known_spc S)]; simp
theorem m_line_through (S : Sp0 G) (h : SpOk n L D) (ha : 0 ≤ a ∧ a < n) (hb : 0 ≤ b ∧ b < n) : F_line_through G [spc n L D, .int a, .int b] ω = .ok (if a = b then .non else tupI (lineT L a b)) ω := by
  refine sat_eq ?_
  simp only [F_line_through, t_line_through, dens, den, dv, N_line_through]
  have h1 : 0 ≤ a ∧ a ≤ n - 1 := by omega
  have h2 : 0 ≤ b ∧ b ≤ n - 1 := by omega
  simp [m_check_space' S, m_check_point S, h1, h2]
  by_cases c : a = b
  · simp [c]
  · simp [c, m_line S h ha hb c]
theorem m_lines_on (S : Sp0 G) (h : SpOk n L D) (ha : 0 ≤ a ∧ a < n) : F_lines_on G [spc n L D, .int a] ω = .ok (.lst ((L.filter fun l => decide (a ∈ l)).map tupI)) ω := by
  refine sat_eq ?_
  simp only [F_lines_on, t_lines_on, dens, den, dv, N_lines_on]
  have h1 : 0 ≤ a ∧ a ≤ n - 1 := by omega
  simp [-List.map_map, -List.map_drop, -List.map_tail, -List.map_take, -Bool.exists_bool, -Bool.forall_bool, drop_map, take_map, tail_map, m_check_space' S, m_check_point S, h1, fld_lines S]
  have := h.lin.len
  have := size_big
  refine ⟨by omega, comp_pure tupI L tupI (fun l => decide (a ∈ l)) id (fun x hx => ?_) ?_⟩
  · simp
  · simp
theorem m_are_on_line0 (S : Sp0 G) (h : SpOk n L D) {l : List Int} (hl : isSetI (n - 1) l = true) (hs : l.length < 3) : F_are_on_line G [spc n L D, tupI l] ω = .ok (.bl true) ω := by
  refine sat_eq ?_
  simp only [F_are_on_line, t_are_on_line, dens, den, dv, N_are_on_line]
  have kl : kn G (tupI l) = true := kn_tupI (by omega)
  simp [-List.map_map, -List.map_drop, -List.map_tail, -List.map_take, -Bool.exists_bool, -Bool.forall_bool, drop_map, take_map, tail_map, m_check_space' S, m_check_set S kl, hl]
  omega
theorem m_are_on_line1 (S : Sp0 G) (h : SpOk n L D) {a b : Int} {z : List Int} (hl : isSetI (n - 1) z = true) (z0 : z[0]? = some a) (z1 : z[1]? = some b) (z2 : 3 ≤ z.length) : F_are_on_line G [spc n L D, tupI z] ω = .ok (.bl (z.all fun x => decide (x ∈ lineT L a b))) ω := by
  have hl' := isSetI_iff.mp hl
  have len := asc_len (a := 0) (m := n - 1) hl'.1 hl'.2
  have n21 := h.lin.hi
  have n2 := h.lin.lo
  have := size_big
  have kl : kn G (tupI z) = true := kn_tupI (by omega)
  have ha := hl'.1 a (List.mem_of_getElem? z0)
  have hb := hl'.1 b (List.mem_of_getElem? z1)
  have ab : a < b := by
    match z, hl', z0, z1 with
    | x :: y :: z, hl', z0, z1 =>
      simp at z0 z1
      subst z0 z1
      exact (List.pairwise_cons.mp hl'.2).1 y (by simp)
  have ml := fun ω => m_line (ω := ω) S h (a := a) (b := b) (by omega) (by omega) (by omega)
  refine sat_eq ?_
  simp only [F_are_on_line, t_are_on_line, dens, den, dv, N_are_on_line]
  simp [-List.map_map, -List.map_drop, -List.map_tail, -List.map_take, -Bool.exists_bool, -Bool.forall_bool, drop_map, take_map, tail_map, m_check_space' S, m_check_set S kl, hl]
  refine ⟨fun q => by omega, fun _ => ⟨by omega, comp_map PV.bl z .int (fun x => decide (x ∈ lineT L a b)) (fun x hx => ?_) ?_⟩⟩
  · simp [-List.map_map, -List.map_drop, -List.map_tail, -List.map_take, -Bool.exists_bool, -Bool.forall_bool, drop_map, take_map, tail_map, z0, z1, ml]
  · simp [-List.map_map, -List.map_drop, -List.map_tail, -List.map_take, -Bool.exists_bool, -Bool.forall_bool, drop_map, take_map, tail_map]
theorem ap_b1 (k : Nat) (l : List Int) (hl : l.length ≤ 1000) (ms : List (List Int)) {QS : Fl × Sto → Rw → Prop} {E : Nat → PV → Rw → Prop} {v : PV} 
    (h : match ms.find? fun m => !(l.any fun x => decide (x ∈ m)) with
      | some m => QS (.ret (.tup [tupI l, tupI m]), [.sh v, .sh (.int k), .sh (tupI l), .sh (tupI m), .no]) ω
      | none => QS (.nx, [.sh v, .sh (.int k), .sh (tupI l), .no, .no]) ω) :
    Sat (forL (.nm 3) (dens G (Γ_apart_lines G) sg_apart_lines t_apart_lines_b1).s [3] (ms.map tupI) [.sh v, .sh (.int k), .sh (tupI l), .no, .no] ω) QS E := by
  induction ms with
  | nil => exact for_nil.mpr h
  | cons m ms ih =>
    rw [List.map_cons]
    simp only [t_apart_lines_b1, dens, den, dv]
    simp only [List.find?] at h
    simp [-List.map_map, -List.map_drop, -List.map_tail, -List.map_take, -Bool.exists_bool, -Bool.forall_bool, drop_map, take_map, tail_map]
    refine ⟨le_size hl, comp_map PV.bl l .int (fun x => decide (x ∈ m)) (fun x hx => by simp [-List.map_map, -List.map_drop, -List.map_tail, -List.map_take, -Bool.exists_bool, -Bool.forall_bool, drop_map, take_map, tail_map]) ?_⟩
    simp [-List.map_map, -List.map_drop, -List.map_tail, -List.map_take, -Bool.exists_bool, -Bool.forall_bool, drop_map, take_map, tail_map]
    cases hq : l.any fun x => decide (x ∈ m) with
    | true =>
      rw [hq] at h
      simp at h hq
      obtain ⟨x, hx, hm⟩ := hq
      refine ⟨fun z => absurd hm (z x hx), fun y h1 h2 => ih h⟩
    | false =>
      rw [hq] at h
      simp at h hq
      refine ⟨fun z => h, fun y h1 h2 => absurd h2 (hq y h1)⟩
theorem ap_b0 (S : Sp0 G) (hL : ∀ l ∈ L, l.length ≤ 1000) (k : Nat) (R : List (List Int)) (hR : L.drop k = R) {QS : Fl × Sto → Rw → Prop} {E : Nat → PV → Rw → Prop}
    (h : match apartL R with
      | some z => ∀ ρ, QS (.ret (.tup [tupI z.1, tupI z.2]), ρ) ω
      | none => QS (.nx, [.sh (spc n L D), .no, .no, .no, .no]) ω) :
    Sat (forL (.tup [1, 2]) (dens G (Γ_apart_lines G) sg_apart_lines t_apart_lines_b0).s [1, 2, 3] ((R.zipIdx k).map fun z => .tup [.int z.2, tupI z.1]) [.sh (spc n L D), .no, .no, .no, .no] ω) QS E := by
  induction R generalizing k with
  | nil => exact for_nil.mpr h
  | cons l R ih =>
    rw [List.zipIdx_cons, List.map_cons]
    simp only [t_apart_lines_b0, dens, den, dv]
    have e : L.drop (k + 1) = R := by rw [← List.drop_drop, hR]; rfl
    have ml : l ∈ L := List.mem_of_mem_drop (i := k) (by rw [hR]; simp)
    simp [-List.map_map, -List.map_drop, -List.map_tail, -List.map_take, -Bool.exists_bool, -Bool.forall_bool, drop_map, take_map, tail_map, fld_lines S, e]
    simp only [apartL] at h
    refine ap_b1 k l (hL l ml) R ?_
    cases hf : R.find? fun m => !(l.any fun x => decide (x ∈ m)) with
    | some m =>
      rw [hf] at h
      simp [-List.map_map, -List.map_drop, -List.map_tail, -List.map_take, -Bool.exists_bool, -Bool.forall_bool, drop_map, take_map, tail_map]
      exact h _
    | none =>
      rw [hf] at h
      simp [-List.map_map, -List.map_drop, -List.map_tail, -List.map_take, -Bool.exists_bool, -Bool.forall_bool, drop_map, take_map, tail_map]
      exact ih (k + 1) e h
theorem m_apart_lines (S : Sp0 G) (h : SpOk n L D) : F_apart_lines G [spc n L D] ω = .ok (apP (apartL L)) ω := by
  refine sat_eq ?_
  simp only [F_apart_lines, t_apart_lines, dens, den, dv, N_apart_lines]
  simp [-List.map_map, -List.map_drop, -List.map_tail, -List.map_take, -Bool.exists_bool, -Bool.forall_bool, drop_map, take_map, tail_map, m_check_space' S, fld_lines S]
  refine ap_b0 S (fun l hl => by have := h.lin.line_len hl; omega) 0 L rfl ?_
  cases apartL L with
  | none => simp [apP]
  | some z => simp [apP]
theorem m_is_plane (S : Sp0 G) (h : SpOk n L D) : F_is_plane G [spc n L D] ω = .ok (.bl (isPlaneB L)) ω := by
  refine sat_eq ?_
  simp only [F_is_plane, t_is_plane, dens, den, dv, N_is_plane]
  have := h.lin.len
  have := size_big
  simp [-List.map_map, -List.map_drop, -List.map_tail, -List.map_take, -Bool.exists_bool, -Bool.forall_bool, drop_map, take_map, tail_map, m_check_space' S, fld_lines S, m_apart_lines S h]
  refine ⟨fun q => ?_, fun q => ⟨by omega, comp_map PV.bl L tupI (fun l => decide (2 < l.length)) (fun x hx => by simp [-List.map_map, -List.map_drop, -List.map_tail, -List.map_take, -Bool.exists_bool, -Bool.forall_bool, drop_map, take_map, tail_map]; omega) ?_⟩⟩
  · unfold isPlaneB
    rw [decide_eq_false (by omega)]; rfl
  · simp [-List.map_map, -List.map_drop, -List.map_tail, -List.map_take, -Bool.exists_bool, -Bool.forall_bool, drop_map, take_map, tail_map]
    unfold isPlaneB
    rw [decide_eq_true (by omega), Bool.true_and]
    refine ⟨fun x hx h2 => ?_, fun hq => ?_⟩
    · rw [show (L.all fun l => decide (2 < l.length)) = false from List.all_eq_false.mpr ⟨x, hx, by simp; omega⟩]; rfl
    · rw [show (L.all fun l => decide (2 < l.length)) = true from List.all_eq_true.mpr fun x hx => by simp; exact hq x hx]
      cases apartL L <;> simp [apP]
def encNP (L : List (List Int)) (r : R PV) (ω : Rw) : R PV := if isPlaneB L = true then r else .exn 25 (.int (-1)) ω
theorem m_size_of (S : Sp0 G) (h : SpOk n L D) : F_size_of G [spc n L D] ω = if isPlaneB L = true then .ok (.int (((L[0]?).getD []).length - 1)) ω else .exn 25 (.int (-1)) ω := by
  refine sat_is ?_
  simp only [F_size_of, t_size_of, dens, den, dv, N_size_of]
  simp [-List.map_map, -List.map_drop, -List.map_tail, -List.map_take, -Bool.exists_bool, -Bool.forall_bool, drop_map, take_map, tail_map, m_is_plane S h, fld_lines S]
  intro z
  cases L with
  | nil => simp [isPlaneB] at z
  | cons l L => simp [z]
def dualL (n : Int) (L : List (List Int)) : List (List Int) := (rgI 0 n).map fun p => (L.zipIdx.filter fun z => decide (p ∈ z.1)).map fun z => (z.2 : Int)
theorem m_dual (S : Sp0 G) (h : SpOk n L D) : F_dual G [spc n L D] ω = if isPlaneB L = true then F_Space___init__ G [.int n, .lst ((dualL n L).map tupI)] ω else .exn 25 (.int (-1)) ω := by
  cases hp : isPlaneB L with
  | false =>
    refine sat_is ?_
    simp only [F_dual, t_dual, dens, den, dv, N_dual]
    simp [-List.map_map, -List.map_drop, -List.map_tail, -List.map_take, -Bool.exists_bool, -Bool.forall_bool, drop_map, take_map, tail_map, m_size_of S h, hp]
  | true =>
    simp only [if_true]
    have n2 := h.lin.lo
    have n21 := h.lin.hi
    have hl := h.lin.len
    have sz := size_big
    refine sat_is ?_
    simp only [F_dual, t_dual, dens, den, dv, N_dual]
    simp [-List.map_map, -List.map_drop, -List.map_tail, -List.map_take, -Bool.exists_bool, -Bool.forall_bool, drop_map, take_map, tail_map, m_size_of S h, hp, fld_points S]
    refine ⟨rg62_of (by omega) (by omega) (by omega) (by omega), ?_⟩
    refine for_inv (rgI 0 n) .int (fun done ρ ω' => ω' = ω ∧ ρ = [.sh (spc n L D), .ow (.lst ((done.map fun p => (L.zipIdx.filter fun z => decide (p ∈ z.1)).map fun z => (z.2 : Int)).map tupI)), .no, .no, .no]) ⟨rfl, rfl⟩ ?_ ?_
    · rintro done x rest ρ ω' hx ⟨rfl, rfl⟩
      simp only [t_dual_b0, dens, den, dv]
      simp [-List.map_map, -List.map_drop, -List.map_tail, -List.map_take, -Bool.exists_bool, -Bool.forall_bool, drop_map, take_map, tail_map, fld_lines S]
      refine ⟨by omega, comp_pure .int L.zipIdx _ (fun z => decide (x ∈ z.1)) (fun z => (z.2 : Int)) (fun z hz => by simp [-List.map_map, -List.map_drop, -List.map_tail, -List.map_take, -Bool.exists_bool, -Bool.forall_bool, drop_map, take_map, tail_map]) ?_⟩
      have hd : done.length ≤ 21 := by
        have := congrArg List.length hx
        rw [rgI_len] at this
        simp at this
        omega
      simp [-List.map_map, -List.map_drop, -List.map_tail, -List.map_take, -Bool.exists_bool, -Bool.forall_bool, drop_map, take_map, tail_map]
      exact ⟨by omega, rfl⟩
    · rintro ρ ω' ⟨rfl, rfl⟩
      simp [-List.map_map, -List.map_drop, -List.map_tail, -List.map_take, -Bool.exists_bool, -Bool.forall_bool, drop_map, take_map, tail_map, fld_points S]
      refine sat_self (m_Space_nbL S (by simp) ?_ ?_)
      · simp; omega
      · intro l hl'
        obtain ⟨p, _, rfl⟩ := List.mem_map.mp hl'
        have := List.length_filter_le (fun z : List Int × Nat => decide (p ∈ z.1)) L.zipIdx
        simp only [List.length_map, List.length_zipIdx] at this ⊢
        omega
def restL (n : Int) (s : List Int) : List Int := (rgI 0 n).filter fun x => !decide (x ∈ s)
def lessL (n : Int) (L : List (List Int)) (s : List Int) : List (List Int) := (L.map fun l => (l.filter fun x => !decide (x ∈ s)).map fun x => ((restL n s).idxOf x : Int)).filter fun l => decide (1 < l.length)
theorem m_without (S : Sp0 G) (h : SpOk n L D) {s : List Int} (hs : isSetI (n - 1) s = true) : F_without G [spc n L D, tupI s] ω = F_Space___init__ G [.int (restL n s).length, .lst ((lessL n L s).map tupI)] ω := by
  have n2 := h.lin.lo
  have n21 := h.lin.hi
  have hl := h.lin.len
  have sz := size_big
  have hs' := isSetI_iff.mp hs
  have len := asc_len (a := 0) (m := n - 1) hs'.1 hs'.2
  have kl : kn G (tupI s) = true := kn_tupI (by omega)
  refine sat_is ?_
  simp only [F_without, t_without, dens, den, dv, N_without]
  simp [-List.map_map, -List.map_drop, -List.map_tail, -List.map_take, -Bool.exists_bool, -Bool.forall_bool, drop_map, take_map, tail_map, m_check_space' S, m_check_set S kl, hs, fld_points S]
  refine ⟨rg62_of (by omega) (by omega) (by omega) (by omega), by omega, comp_pure .int (rgI 0 n) .int (fun x => !decide (x ∈ s)) id (fun x hx => by simp [-List.map_map, -List.map_drop, -List.map_tail, -List.map_take, -Bool.exists_bool, -Bool.forall_bool, drop_map, take_map, tail_map]) ?_⟩
  simp [-List.map_map, -List.map_drop, -List.map_tail, -List.map_take, -Bool.exists_bool, -Bool.forall_bool, drop_map, take_map, tail_map, fld_lines S]
  refine ⟨by omega, comp_map tupI L tupI (fun l => (l.filter fun x => !decide (x ∈ s)).map fun x => ((restL n s).idxOf x : Int)) (fun l hl' => ?_) ?_⟩
  · simp [-List.map_map, -List.map_drop, -List.map_tail, -List.map_take, -Bool.exists_bool, -Bool.forall_bool, drop_map, take_map, tail_map]
    have := h.lin.line_len hl'
    refine ⟨by omega, comp_pure .int l .int (fun x => !decide (x ∈ s)) (fun x => ((restL n s).idxOf x : Int)) (fun x hx => ?_) ?_⟩
    · simp [-List.map_map, -List.map_drop, -List.map_tail, -List.map_take, -Bool.exists_bool, -Bool.forall_bool, drop_map, take_map, tail_map]
      intro hxs
      have hx2 := (h.lin.ok l hl').1 x hx
      have : x ∈ (rgI 0 n).filter fun x => !decide (x ∈ s) := List.mem_filter.mpr ⟨mem_rgI.mpr hx2, by simp [hxs]⟩
      rw [indexP_int this]
      exact ⟨hxs, rfl⟩
    · simp [-List.map_map, -List.map_drop, -List.map_tail, -List.map_take, -Bool.exists_bool, -Bool.forall_bool, drop_map, take_map, tail_map]
      rfl
  · simp [-List.map_map, -List.map_drop, -List.map_tail, -List.map_take, -Bool.exists_bool, -Bool.forall_bool, drop_map, take_map, tail_map]
    refine ⟨by omega, comp_pure tupI _ tupI (fun l => decide (1 < l.length)) id (fun l hl' => ?_) ?_⟩
    · simp [-List.map_map, -List.map_drop, -List.map_tail, -List.map_take, -Bool.exists_bool, -Bool.forall_bool, drop_map, take_map, tail_map]
      omega
    · simp [-List.map_map, -List.map_drop, -List.map_tail, -List.map_take, -Bool.exists_bool, -Bool.forall_bool, drop_map, take_map, tail_map]
      refine sat_self (m_Space_nbL S (by simp) ?_ ?_)
      · have := List.length_filter_le (fun l : List Int => decide (1 < l.length)) (L.map fun l => (l.filter fun x => !decide (x ∈ s)).map fun x => ((restL n s).idxOf x : Int))
        simp only [List.length_map] at this
        simp only [restL] at this ⊢
        omega
      · intro l hl'
        obtain ⟨l', h1, rfl⟩ := List.mem_map.mp (List.mem_filter.mp hl').1
        have := h.lin.line_len h1
        have := List.length_filter_le (fun x => !decide (x ∈ s)) l'
        simp only [List.length_map]
        omega
end
end GP
-- ML
set_option maxRecDepth 100000
set_option maxHeartbeats 400000
namespace GP
open PySem PySem.Spec PyProof.Rows L2
section
variable {G : Pg} {ω : Rw} {Q : PV → Rw → Prop} {E : Nat → PV → Rw → Prop} {n m : Int} {ps qs : List PV} {p q : PV}
theorem s_taken (h0 : 0 < m) (h1 : m < 1073741824) (o : OkRw ω) (k : ∀ n, 0 ≤ n → n < m → ∀ ω', OkRw ω' → Q (.int n) ω') : Sat (F_tk G [.row, .int m] ω) Q E :=
  (taken G m ω h0 h1 o).of fun r ω' ⟨n, e, a, b, o'⟩ => by rw [e]; exact k n a b ω' o'
theorem s_pick (h0 : ps ≠ []) (h1 : ps.length ≤ 1000000) (o : OkRw ω) (k : ∀ r ∈ ps, ∀ ω', OkRw ω' → Q r ω') : Sat (F__law_pick G [.row, .lst ps] ω) Q E := by
  simp only [F__law_pick, t__law_pick, dens, den, dv, N__law_pick]
  have hp := List.length_pos_iff.mpr h0
  simp [-List.map_map, -List.map_drop, -List.map_tail, -List.map_take, -Bool.exists_bool, -Bool.forall_bool, drop_map, take_map, tail_map]
  refine s_taken (by omega) (by omega) o fun n a b ω' o' => ?_
  obtain ⟨x, h2, h3⟩ := atI_some (l := ps) a (by omega)
  simp [-List.map_map, -List.map_drop, -List.map_tail, -List.map_take, -Bool.exists_bool, -Bool.forall_bool, drop_map, take_map, tail_map, h2]
  exact k x (List.mem_of_getElem? h3) ω' o'
mutual
def okD : Nat → PV → Bool
  | _, .non => true
  | _, .bl _ => true
  | _, .int _ => true
  | _, .str s => PyData.strOk s
  | n, .tup ps => decide (0 < n) && decide (ps.length ≤ 1000000) && okDL (n - 1) ps
  | n, .lst ps => decide (0 < n) && decide (ps.length ≤ 1000000) && okDL (n - 1) ps
  | _, _ => false
def okDL : Nat → List PV → Bool
  | _, [] => true
  | n, p :: ps => okD n p && okDL n ps
end
theorem okDL_mem : ∀ {ps : List PV} {k : Nat} {p : PV}, okDL k ps = true → p ∈ ps → okD k p = true
  | q :: ps, k, p, h, hp => by
    simp only [okDL, Bool.and_eq_true] at h
    rcases List.mem_cons.mp hp with rfl | hp
    · exact h.1
    · exact okDL_mem h.2 hp
theorem plain_int {k : Nat} : ∀ l : List Int, okDL k (l.map .int) = true
  | [] => by simp [okDL]
  | x :: l => by simp [okDL, okD, plain_int l]
theorem plain_tup {k : Nat} : ∀ L : List (List Int), (∀ l ∈ L, l.length ≤ 1000000) → okDL (k + 1) (L.map tupI) = true
  | [], _ => by simp [okDL]
  | x :: l, h => by simp [okDL, okD, tupI, plain_int, plain_tup l (fun y hy => h y (by simp [hy])), h x (by simp)]
theorem eqv_refl_list (eqv : ∀ p : PV, PyData.eqv (pd p) (pd p) = true) : ∀ ps : List PV, PyData.eqvAll (pdL ps) (pdL ps) = true
  | [] => by simp [pdL, PyData.eqvAll]
  | p :: ps => by simp [pdL, PyData.eqvAll, eqv p, eqv_refl_list eqv ps]
theorem alike_seq {F : Fn} (ps : List PV) (hl : ps.length ≤ 1000000) (h : ∀ p ∈ ps, F [p, p] ω = .ok (.bl true) ω) (c : PV) (hc : c = .tup ps ∨ c = .lst ps) : B__law_alike G F [c, c] ω = .ok (.bl true) ω := by
  have := size_big
  refine sat_eq ?_
  simp only [B__law_alike, t__law_alike, dens, den, dv, N__law_alike]
  have key : ∀ ρ : Sto, ρ = [.sh c, .sh c, .no, .no] → CompS (tNot' (dTru (dCallN F (dCons (d2 idxP (dVar 0) (dVar 2)) (dCons (d2 idxP (dVar 1) (dVar 2)) dNil))))) (dVar 2) (.nm 2) ρ ((rgI 0 (ps.length : Int)).map .int) ω fun l ω2 => OptS (eqB (.lst l) (.lst [])) fun x => x = true ∧ ω2 = ω := by
    rintro ρ rfl
    refine comp_pure .int _ .int (fun _ => false) id (fun x hx => ?_) (by simp [eqB, okn, oknL, pd, PyData.eqv, pdL, PyData.eqvAll])
    rw [mem_rgI] at hx
    obtain ⟨y, h2, h3⟩ := atI_some (l := ps) hx.1 hx.2
    have h4 := h y (List.mem_of_getElem? h3)
    have h5 : idxP c (.int x) = some y := by rcases hc with rfl | rfl <;> simp [h2]
    simp [-List.map_map, -List.map_drop, -List.map_tail, -List.map_take, -Bool.exists_bool, -Bool.forall_bool, drop_map, take_map, tail_map, h5, h4]
  rcases hc with rfl | rfl
  · simp [-List.map_map, -List.map_drop, -List.map_tail, -List.map_take, -Bool.exists_bool, -Bool.forall_bool, drop_map, take_map, tail_map]
    exact ⟨rg62_of (by omega) (by omega) (by omega) (by omega), by omega, key _ rfl⟩
  · simp [-List.map_map, -List.map_drop, -List.map_tail, -List.map_take, -Bool.exists_bool, -Bool.forall_bool, drop_map, take_map, tail_map]
    exact ⟨rg62_of (by omega) (by omega) (by omega) (by omega), by omega, key _ rfl⟩
theorem alike_base {F : Fn} (h : p = .non ∨ (∃ b, p = .bl b) ∨ (∃ n, p = .int n) ∨ ∃ s, p = .str s ∧ PyData.strOk s = true) : B__law_alike G F [p, p] ω = .ok (.bl true) ω := by
  refine sat_eq ?_
  simp only [B__law_alike, t__law_alike, dens, den, dv, N__law_alike]
  rcases h with rfl | ⟨b, rfl⟩ | ⟨n, rfl⟩ | ⟨s, rfl, hs⟩
  · simp [-List.map_map, -List.map_drop, -List.map_tail, -List.map_take, -Bool.exists_bool, -Bool.forall_bool, drop_map, take_map, tail_map]
    simp [eqB, okn, pd, PyData.eqv]
  · simp [-List.map_map, -List.map_drop, -List.map_tail, -List.map_take, -Bool.exists_bool, -Bool.forall_bool, drop_map, take_map, tail_map]
  · simp [-List.map_map, -List.map_drop, -List.map_tail, -List.map_take, -Bool.exists_bool, -Bool.forall_bool, drop_map, take_map, tail_map]
  · simp [-List.map_map, -List.map_drop, -List.map_tail, -List.map_take, -Bool.exists_bool, -Bool.forall_bool, drop_map, take_map, tail_map]
    simp [eqB, okn, hs, pd, PyData.eqv]
theorem m_alike (k : Nat) : ∀ (j : Nat), k ≤ j → ∀ (p : PV) (ω : Rw), okD k p = true → F__law_alike G (j + 1) [p, p] ω = .ok (.bl true) ω := by
  induction k with
  | zero =>
    intro j _ p ω h
    refine alike_base ?_
    cases p <;> simp_all [okD]
  | succ k ih =>
    intro j hj p ω h
    obtain ⟨j, rfl⟩ : ∃ i, j = i + 1 := ⟨j - 1, by omega⟩
    show B__law_alike G (F__law_alike G (j + 1)) [p, p] ω = _
    cases p <;> first | (simp [okD] at h; done) | skip
    · exact alike_base (by simp)
    · exact alike_base (by simp)
    · exact alike_base (by simp)
    · exact alike_base (by simpa [okD] using h)
    · simp [okD] at h
      exact alike_seq _ h.1 (fun q hq => ih j (by omega) q ω (okDL_mem h.2 hq)) _ (.inl rfl)
    · simp [okD] at h
      exact alike_seq _ h.1 (fun q hq => ih j (by omega) q ω (okDL_mem h.2 hq)) _ (.inr rfl)
theorem alike_ok {k : Nat} (h : okD k p = true) (hk : k ≤ 59 := by decide) : F__law_alike G 60 [p, p] ω = .ok (.bl true) ω := m_alike k 59 hk p ω h
theorem s_alike {k : Nat} (e : p = q) (h : okD k q = true) (hQ : Q (.bl true) ω) (hk : k ≤ 59 := by decide) : Sat (F__law_alike G 60 [p, q] ω) Q E := by
  subst e
  rw [alike_ok h hk]; exact sat_ok.mpr hQ
@[simp] theorem tup_ints {l : List Int} : PV.tup (l.map .int) = tupI l := rfl
def unl {α : Type} [DecidableEq α] : List α → List α → List α
  | acc, [] => acc
  | acc, x :: xs => unl (if acc.getLast? = some x then acc else acc ++ [x]) xs
theorem m_unlike {α : Type} [DecidableEq α] (enc : α → PV) (srt : List α → List α) (he : ∀ a b, eqB (enc a) (enc b) = some (decide (a = b)))
    (h0 : ∀ l : List α, eqB (.lst (l.map enc)) (.lst []) = some (decide (l = []))) (hi : ∀ a, imm (enc a) = true) (l : List α) (hs : sortedP [.lst (l.map enc)] = some (.lst ((srt l).map enc))) (hl : (srt l).length ≤ 1000000) (hq : q = .lst (l.map enc) ∨ q = .tup (l.map enc)) : F__law_unlike G [q] ω = .ok (.lst ((unl [] (srt l)).map enc)) ω := by
  refine sat_eq ?_
  have sz := size_big
  simp only [F__law_unlike, t__law_unlike, dens, den, dv, N__law_unlike]
  have e : listP [q] = some (.lst (l.map enc)) := by rcases hq with rfl | rfl <;> rfl
  simp [-List.map_map, -List.map_drop, -List.map_tail, -List.map_take, -Bool.exists_bool, -Bool.forall_bool, drop_map, take_map, tail_map, e, hs]
  refine for_ind (srt l) enc (fun rest ρ ω' => ω' = ω ∧ ∃ acc : List α, acc.length + rest.length ≤ 1000000 ∧ ρ = [.sh q, .ow (.lst (acc.map enc)), .no] ∧ unl acc rest = unl [] (srt l)) ⟨rfl, [], by simpa using hl, rfl, rfl⟩ ?_ ?_
  · rintro x rest ρ ω' ⟨rfl, acc, h1, rfl, h2⟩
    simp only [t__law_unlike_b0, dens, den, dv]
    simp [-List.map_map, -List.map_drop, -List.map_tail, -List.map_take, -Bool.exists_bool, -Bool.forall_bool, drop_map, take_map, tail_map, h0, hi, he]
    simp only [List.length_cons, unl] at h1 h2
    refine ⟨fun z => ⟨by omega, acc ++ [x], by simp; omega, by simp, ?_⟩, fun z => ?_⟩
    · subst z
      exact h2
    · obtain ⟨y, hy⟩ : ∃ y, acc.getLast? = some y := ⟨_, List.getLast?_eq_some_getLast z⟩
      rw [hy] at h2
      rw [hy]
      simp only [optS_some, Option.some.injEq] at h2 ⊢
      refine ⟨fun ne => ⟨by omega, acc ++ [x], by simp; omega, by simp, ?_⟩, fun eq => ⟨acc, by omega, rfl, ?_⟩⟩
      · rw [if_neg ne] at h2; exact h2
      · rw [if_pos eq] at h2; exact h2
  · rintro ρ ω' ⟨rfl, acc, h1, rfl, h2⟩
    simp [-List.map_map, -List.map_drop, -List.map_tail, -List.map_take, -Bool.exists_bool, -Bool.forall_bool, drop_map, take_map, tail_map]
    simp only [unl] at h2
    rw [h2]
theorem unl_spec {α : Type} [DecidableEq α] {le : α → α → Prop} (anti : ∀ a b, le a b → le b a → a = b) : ∀ (xs acc : List α), (acc ++ xs).Pairwise le → acc.Pairwise (fun a b => le a b ∧ a ≠ b) →
    (unl acc xs).Pairwise (fun a b => le a b ∧ a ≠ b) ∧ ∀ y, y ∈ unl acc xs ↔ y ∈ acc ∨ y ∈ xs
  | [], acc, _, h => ⟨h, fun y => by simp [unl]⟩
  | x :: xs, acc, h, h2 => by
    simp only [unl]
    by_cases c : acc.getLast? = some x
    · rw [if_pos c]
      have hx : x ∈ acc := List.mem_of_getLast? c
      obtain ⟨a, b⟩ := unl_spec anti xs acc (h.sublist (List.Sublist.append (List.Sublist.refl _) (List.sublist_cons_self x xs))) h2
      refine ⟨a, fun y => ?_⟩
      rw [b y]
      constructor
      · rintro (z | z)
        · exact .inl z
        · exact .inr (by simp [z])
      · rintro (z | z)
        · exact .inl z
        · rcases List.mem_cons.mp z with rfl | z
          · exact .inl hx
          · exact .inr z
    · rw [if_neg c]
      have e : acc ++ x :: xs = (acc ++ [x]) ++ xs := by simp
      have h3 : ∀ a ∈ acc, le a x := fun a ha => (List.pairwise_append.mp h).2.2 a ha x (by simp)
      have h4 : (acc ++ [x]).Pairwise (fun a b => le a b ∧ a ≠ b) := by
        rw [List.pairwise_append]
        refine ⟨h2, by simp, fun a ha b hb => ?_⟩
        simp at hb
        subst hb
        refine ⟨h3 a ha, fun z => ?_⟩
        subst z
        obtain ⟨l, y, rfl⟩ : ∃ l y, acc = l ++ [y] := by
          rcases List.eq_nil_or_concat acc with rfl | ⟨l, y, rfl⟩
          · simp at ha
          · exact ⟨l, y, by simp⟩
        rw [List.getLast?_concat] at c
        rcases List.mem_append.mp ha with ha | ha
        · have h5 := (List.pairwise_append.mp h2).2.2 a ha y (by simp)
          exact h5.2 (anti _ _ h5.1 (h3 y (by simp)))
        · simp at ha
          exact c (by rw [ha])
      obtain ⟨a, b⟩ := unl_spec anti xs (acc ++ [x]) (by rw [← e]; exact h) h4
      refine ⟨a, fun y => ?_⟩
      rw [b y]
      simp
      constructor
      · rintro ((z | z) | z)
        · exact .inl z
        · exact .inr (.inl z)
        · exact .inr (.inr z)
      · rintro (z | z | z)
        · exact .inl (.inl z)
        · exact .inl (.inr z)
        · exact .inr z
def unlI (l : List Int) : List Int := unl [] (isort l)
def unlT (l : List (List Int)) : List (List Int) := unl [] (tsort l)
theorem unlI_spec (l : List Int) : (unlI l).Pairwise (· < ·) ∧ ∀ y, y ∈ unlI l ↔ y ∈ l := by
  obtain ⟨a, b⟩ := unl_spec (le := fun a b : Int => a ≤ b) (fun a b h1 h2 => by omega) (isort l) [] (isort_pair l) (by simp)
  refine ⟨a.imp fun h => by omega, fun y => ?_⟩
  unfold unlI
  rw [b y, (isort_perm l).mem_iff]
  simp
theorem unlT_spec (l : List (List Int)) : (unlT l).Pairwise (fun a b => tle a b = true ∧ a ≠ b) ∧ ∀ y, y ∈ unlT l ↔ y ∈ l := by
  obtain ⟨a, b⟩ := unl_spec (le := fun a b => tle a b = true) (fun a b h1 h2 => tle_anti a b h1 h2) (tsort l) [] (tsort_pair l) (by simp)
  refine ⟨a, fun y => ?_⟩
  unfold unlT
  rw [b y, (tsort_perm l).mem_iff]
  simp
theorem unlT_uniq {l r : List (List Int)} (h : r.Pairwise (fun a b => tle a b = true ∧ a ≠ b)) (m : ∀ y, y ∈ r ↔ y ∈ l) : unlT l = r := by
  obtain ⟨a, b⟩ := unlT_spec l
  refine perm_uniq (r := fun a b => tle a b = true) tle_anti ?_ (a.imp fun q => q.1) (h.imp fun q => q.1)
  rw [List.perm_ext_iff_of_nodup (a.imp fun q => q.2) (h.imp fun q => q.2)]
  intro y
  rw [b y, m y]
theorem sorted_I (l : List Int) : sortedP [.lst (l.map .int)] = some (.lst ((isort l).map .int)) := by simp [sortedP, sortL]
theorem sorted_T (l : List (List Int)) (h : ∀ x ∈ l, x ≠ []) : sortedP [.lst (l.map tupI)] = some (.lst ((tsort l).map tupI)) := by
  simp only [sortedP]
  cases l with
  | nil => simp [sortL, tsort, isort, intsOf]
  | cons x l =>
    unfold sortL
    rw [show intsOf ((x :: l).map tupI) = none from rfl]
    simp only [tupsOf_map']
    rw [if_pos]
    · rfl
    · simp only [Bool.or_eq_true, List.all_eq_true]
      right
      intro y hy
      have := h y hy
      cases y <;> simp at this ⊢
theorem isort_len (l : List Int) : (isort l).length = l.length := (isort_perm l).length_eq
theorem tsort_len (l : List (List Int)) : (tsort l).length = l.length := (tsort_perm l).length_eq
theorem m_unlike_I (l : List Int) (hl : l.length ≤ 1000000) (hq : q = .lst (l.map .int) ∨ q = .tup (l.map .int)) : F__law_unlike G [q] ω = .ok (.lst ((unlI l).map .int)) ω :=
  m_unlike .int isort (fun a b => eqB_int) (fun l => eqB_lI_nil) (fun a => rfl) l (sorted_I l) (by rw [isort_len]; exact hl) hq
theorem s_shuffled (hl : ps.length ≤ 1000000) (hq : seqP q = some ps) (o : OkRw ω) (k : ∀ qs : List PV, qs.Perm ps → ∀ ω', OkRw ω' → Q (.lst qs) ω') : Sat (F__law_shuffled G [.row, q] ω) Q E := by
  have sz := size_big
  simp only [F__law_shuffled, t__law_shuffled, dens, den, dv, N__law_shuffled]
  simp [-List.map_map, -List.map_drop, -List.map_tail, -List.map_take, -Bool.exists_bool, -Bool.forall_bool, drop_map, take_map, tail_map, hq]
  rw [show ps = ps.map id by simp]
  refine for_inv ps id (fun done ρ ω' => OkRw ω' ∧ ∃ qs : List PV, qs.Perm done ∧ ρ = [.sh .row, .sh q, .sh (.lst qs), .no, .no]) ⟨o, [], .refl _, rfl⟩ ?_ ?_
  · rintro done x rest ρ ω' hx ⟨o, qs, hp, rfl⟩
    have hd : qs.length + 1 ≤ 1000000 := by
      have := congrArg List.length hx
      have := hp.length_eq
      simp at *
      omega
    simp only [t__law_shuffled_b0, dens, den, dv]
    simp [-List.map_map, -List.map_drop, -List.map_tail, -List.map_take, -Bool.exists_bool, -Bool.forall_bool, drop_map, take_map, tail_map]
    refine s_taken (by omega) (by omega) o fun n a b ω' o' => ?_
    obtain ⟨j, rfl⟩ := Int.eq_ofNat_of_zero_le a
    simp [-List.map_map, -List.map_drop, -List.map_tail, -List.map_take, -Bool.exists_bool, -Bool.forall_bool, drop_map, take_map, tail_map, cut_from]
    refine ⟨by omega, by omega, o', ?_⟩
    refine List.perm_middle.trans ?_
    rw [List.take_append_drop]
    exact (List.Perm.cons x hp).trans (List.perm_append_singleton x done).symm
  · rintro ρ ω' ⟨o, qs, hp, rfl⟩
    simp [-List.map_map, -List.map_drop, -List.map_tail, -List.map_take, -Bool.exists_bool, -Bool.forall_bool, drop_map, take_map, tail_map]
    exact k qs hp ω' o
theorem m_within (l : List Int) (r : List Int) (hl : l.length ≤ 1000000) : F__law_within G [tupI l, tupI r] ω = .ok (.bl (l.all fun x => decide (x ∈ r))) ω := by
  have sz := size_big
  refine sat_eq ?_
  simp only [F__law_within, t__law_within, dens, den, dv, N__law_within]
  simp [-List.map_map, -List.map_drop, -List.map_tail, -List.map_take, -Bool.exists_bool, -Bool.forall_bool, drop_map, take_map, tail_map]
  refine ⟨by omega, comp_pure .int l .int (fun x => !decide (x ∈ r)) id (fun x hx => by simp [-List.map_map, -List.map_drop, -List.map_tail, -List.map_take, -Bool.exists_bool, -Bool.forall_bool, drop_map, take_map, tail_map]) ?_⟩
  simp [-List.map_map, -List.map_drop, -List.map_tail, -List.map_take, -Bool.exists_bool, -Bool.forall_bool, drop_map, take_map, tail_map]
  rw [Bool.eq_iff_iff]
  simp [List.filter_eq_nil_iff]
theorem m_unlike_T (l : List (List Int)) (h : ∀ x ∈ l, x ≠ []) (hl : l.length ≤ 1000000) (hq : q = .lst (l.map tupI) ∨ q = .tup (l.map tupI)) : F__law_unlike G [q] ω = .ok (.lst ((unlT l).map tupI)) ω :=
  m_unlike tupI tsort (fun a b => eqB_tup) (fun l => eqB_lT_nil) (fun a => imm_tupI) l (sorted_T l h) (by rw [tsort_len]; exact hl) hq
def rotB (n : Int) (b : List Int) : List (List Int) := (rgI 0 n).map fun t => isort (b.map fun p => (p + t) % n)
theorem m_ring (bs : List (List Int)) (h0 : 0 < n) (h1 : n ≤ 21) (hb : bs.length ≤ 1000) (hl : ∀ b ∈ bs, b ≠ [] ∧ b.length ≤ 1000) : F__law_ring G [.int n, .lst (bs.map tupI)] ω = .ok (.lst ((unlT (bs.flatMap (rotB n))).map tupI)) ω := by
  have sz := size_big
  refine sat_eq ?_
  simp only [F__law_ring, t__law_ring, dens, den, dv, N__law_ring]
  simp [-List.map_map, -List.map_drop, -List.map_tail, -List.map_take, -Bool.exists_bool, -Bool.forall_bool, drop_map, take_map, tail_map]
  have hr : ∀ b, (rotB n b).length = n.toNat := fun b => by simp [rotB]
  have hf : ∀ l : List (List Int), (l.flatMap (rotB n)).length = l.length * n.toNat := by
    intro l
    induction l with
    | nil => simp
    | cons b l ih => rw [List.flatMap_cons, List.length_append, hr, ih, List.length_cons, Nat.add_mul]; omega
  refine for_inv bs tupI (fun done ρ ω' => ω' = ω ∧ ρ = [.sh (.int n), .sh (.lst (bs.map tupI)), .sh (.lst ((done.flatMap (rotB n)).map tupI)), .no, .no, .no]) ⟨rfl, rfl⟩ ?_ ?_
  · rintro done b rest ρ ω' hx ⟨rfl, rfl⟩
    simp only [t__law_ring_b0, dens, den, dv]
    simp [-List.map_map, -List.map_drop, -List.map_tail, -List.map_take, -Bool.exists_bool, -Bool.forall_bool, drop_map, take_map, tail_map]
    refine ⟨rg62_of (by omega) (by omega) (by omega) (by omega), ?_⟩
    refine for_inv (rgI 0 n) .int (fun d2 ρ ω2 => ω2 = ω' ∧ ρ = [.sh (.int n), .sh (.lst (bs.map tupI)), .sh (.lst ((done.flatMap (rotB n) ++ d2.map fun t => isort (b.map fun p => (p + t) % n)).map tupI)), .sh (tupI b), .no, .no]) ⟨rfl, by simp⟩ ?_ ?_
    · rintro d2 t r2 ρ ω2 hx2 ⟨rfl, rfl⟩
      simp only [t__law_ring_b1, dens, den, dv]
      have hb2 := hl b (by rw [hx]; simp)
      simp [-List.map_map, -List.map_drop, -List.map_tail, -List.map_take, -Bool.exists_bool, -Bool.forall_bool, drop_map, take_map, tail_map]
      refine ⟨by omega, comp_map .int b .int (fun p => (p + t) % n) (fun p hp => by simp [-List.map_map, -List.map_drop, -List.map_tail, -List.map_take, -Bool.exists_bool, -Bool.forall_bool, drop_map, take_map, tail_map, h0]) ?_⟩
      have hd : done.length + 1 ≤ 1000 := by
        have := congrArg List.length hx
        simp at this
        omega
      have hd2 : d2.length + 1 ≤ 21 := by
        have := congrArg List.length hx2
        simp at this
        omega
      have : done.length * n.toNat ≤ 1000 * 21 := Nat.mul_le_mul (by omega) (by omega)
      simp [-List.map_map, -List.map_drop, -List.map_tail, -List.map_take, -Bool.exists_bool, -Bool.forall_bool, drop_map, take_map, tail_map, sorted_I]
      rw [← List.length_flatMap, hf]
      omega
    · rintro ρ ω2 ⟨rfl, rfl⟩
      simp [-List.map_map, -List.map_drop, -List.map_tail, -List.map_take, -Bool.exists_bool, -Bool.forall_bool, drop_map, take_map, tail_map]
      rfl
  · rintro ρ ω' ⟨rfl, rfl⟩
    have : bs.length * n.toNat ≤ 1000 * 21 := Nat.mul_le_mul (by omega) (by omega)
    simp [-List.map_map, -List.map_drop, -List.map_tail, -List.map_take, -Bool.exists_bool, -Bool.forall_bool, drop_map, take_map, tail_map]
    rw [m_unlike_T (bs.flatMap (rotB n)) _ (by rw [hf]; omega) (.inl rfl)]
    · simp [-List.map_map, -List.map_drop, -List.map_tail, -List.map_take, -Bool.exists_bool, -Bool.forall_bool, drop_map, take_map, tail_map]
    · intro x hx
      obtain ⟨b, hb, hx⟩ := List.mem_flatMap.mp hx
      obtain ⟨t, _, rfl⟩ := List.mem_map.mp hx
      intro z
      have := congrArg List.length z
      rw [isort_len] at this
      simp at this
      exact (hl b hb).1 this
def open3 : List (List Int) := [[0, 1, 2], [0, 3, 6], [0, 4, 8], [0, 5, 7], [1, 3, 8], [1, 4, 7], [1, 5, 6], [2, 3, 7], [2, 4, 6], [2, 5, 8], [3, 4, 5], [6, 7, 8]]
def op3 (a b c : Int) : List Int := (rgI 0 9).filter fun x => decide ((a * (x / 3) + b * (x % 3)) % 3 = c)
def op3s (z : Int × Int) : List (List Int) := (rgI 0 3).map (op3 z.1 z.2)
theorem open3_sorted : tsort (op3s (0, 1) ++ (op3s (1, 0) ++ (op3s (1, 1) ++ op3s (1, 2)))) = open3 := by
  refine (tsort_uniq (List.isPerm_iff.mp ?_) ?_).symm
  · decide +kernel
  · decide +kernel
theorem m_open_three : F__law_open_three G [] ω = .ok (.lst (open3.map tupI)) ω := by
  have sz := size_big
  refine sat_eq ?_
  simp only [F__law_open_three, t__law_open_three, dens, den, dv, N__law_open_three]
  simp [-List.map_map, -List.map_drop, -List.map_tail, -List.map_take, -Bool.exists_bool, -Bool.forall_bool, drop_map, take_map, tail_map, -for_cons]
  have hr : ∀ z, (op3s z).length = 3 := fun z => by simp [op3s]
  have hf : ∀ l : List (Int × Int), (l.flatMap op3s).length = l.length * 3 := by
    intro l
    induction l with
    | nil => simp
    | cons b l ih => rw [List.flatMap_cons, List.length_append, hr, ih, List.length_cons, Nat.add_mul]; omega
  rw [show [PV.tup [.int 0, .int 1], .tup [.int 1, .int 0], .tup [.int 1, .int 1], .tup [.int 1, .int 2]] = [((0 : Int), (1 : Int)), (1, 0), (1, 1), (1, 2)].map fun z => .tup [.int z.1, .int z.2] from rfl]
  refine for_inv [((0 : Int), (1 : Int)), (1, 0), (1, 1), (1, 2)] _ (fun done ρ ω' => ω' = ω ∧ ρ = [.sh (.lst ((done.flatMap op3s).map tupI)), .no, .no, .no, .no]) ⟨rfl, rfl⟩ ?_ ?_
  · rintro done ⟨a, b⟩ rest ρ ω' hx ⟨rfl, rfl⟩
    simp only [t__law_open_three_b0, dens, den, dv]
    have hd : done.length + 1 ≤ 4 := by
      have := congrArg List.length hx
      simp at this
      omega
    have hm : (a, b) ∈ [((0 : Int), (1 : Int)), (1, 0), (1, 1), (1, 2)] := by rw [hx]; simp
    have ha : 0 ≤ a ∧ a ≤ 2 ∧ 0 ≤ b ∧ b ≤ 2 := by
      simp at hm
      omega
    simp [-List.map_map, -List.map_drop, -List.map_tail, -List.map_take, -Bool.exists_bool, -Bool.forall_bool, drop_map, take_map, tail_map]
    refine ⟨rg62_of (by omega) (by omega) (by omega) (by omega), ?_⟩
    refine for_inv (rgI 0 3) .int (fun d2 ρ ω2 => ω2 = ω' ∧ ρ = [.sh (.lst ((done.flatMap op3s ++ d2.map (op3 a b)).map tupI)), .sh (.int a), .sh (.int b), .no, .no]) ⟨rfl, by simp⟩ ?_ ?_
    · rintro d2 c r2 ρ ω2 hx2 ⟨rfl, rfl⟩
      simp only [t__law_open_three_b1, dens, den, dv]
      simp [-List.map_map, -List.map_drop, -List.map_tail, -List.map_take, -Bool.exists_bool, -Bool.forall_bool, drop_map, take_map, tail_map]
      have hd2 : d2.length + 1 ≤ 3 := by
        have := congrArg List.length hx2
        simp at this
        omega
      refine ⟨rg62_of (by omega) (by omega) (by omega) (by omega), comp_pure .int (rgI 0 9) .int (fun x => decide ((a * (x / 3) + b * (x % 3)) % 3 = c)) id (fun x hx => ?_) ?_⟩
      · rw [mem_rgI] at hx
        simp [-List.map_map, -List.map_drop, -List.map_tail, -List.map_take, -Bool.exists_bool, -Bool.forall_bool, drop_map, take_map, tail_map]
        omega
      · simp [-List.map_map, -List.map_drop, -List.map_tail, -List.map_take, -Bool.exists_bool, -Bool.forall_bool, drop_map, take_map, tail_map]
        rw [← List.length_flatMap, hf]
        exact ⟨by omega, rfl⟩
    · rintro ρ ω2 ⟨rfl, rfl⟩
      simp [-List.map_map, -List.map_drop, -List.map_tail, -List.map_take, -Bool.exists_bool, -Bool.forall_bool, drop_map, take_map, tail_map]
      rfl
  · rintro ρ ω' ⟨rfl, rfl⟩
    simp [-List.map_map, -List.map_drop, -List.map_tail, -List.map_take, -Bool.exists_bool, -Bool.forall_bool, drop_map, take_map, tail_map]
    simp only [← List.map_append]
    rw [sorted_T, open3_sorted]
    · simp [-List.map_map, -List.map_drop, -List.map_tail, -List.map_take, -Bool.exists_bool, -Bool.forall_bool, drop_map, take_map, tail_map]
    · decide +kernel
theorem m_less_points {L : List (List Int)} {s : List Int} (h0 : 0 ≤ n) (h1 : n ≤ 21) (hL : L.length ≤ 441) (hl : ∀ l ∈ L, l.length ≤ 21 ∧ ∀ x ∈ l, 0 ≤ x ∧ x < n) (hq : ∀ a, inB (.int a) q = some (decide (a ∈ s))) (hlen : (lessL n L s).length ≤ 1000) :
    F__law_less_points G [.int n, .lst (L.map tupI), q] ω = .ok (.tup [.int (restL n s).length, .lst ((tsort (lessL n L s)).map tupI)]) ω := by
  have sz := size_big
  refine sat_eq ?_
  simp only [F__law_less_points, t__law_less_points, dens, den, dv, N__law_less_points]
  simp [-List.map_map, -List.map_drop, -List.map_tail, -List.map_take, -Bool.exists_bool, -Bool.forall_bool, drop_map, take_map, tail_map]
  refine ⟨rg62_of (by omega) (by omega) (by omega) (by omega), by omega, comp_pure .int (rgI 0 n) .int (fun x => !decide (x ∈ s)) id (fun x hx => by simp [-List.map_map, -List.map_drop, -List.map_tail, -List.map_take, -Bool.exists_bool, -Bool.forall_bool, drop_map, take_map, tail_map, hq]) ?_⟩
  simp [-List.map_map, -List.map_drop, -List.map_tail, -List.map_take, -Bool.exists_bool, -Bool.forall_bool, drop_map, take_map, tail_map]
  refine for_inv L tupI (fun done ρ ω' => ω' = ω ∧ ρ = [.sh (.int n), .sh (.lst (L.map tupI)), .sh q, .sh (.lst ((restL n s).map .int)), .sh (.lst ((lessL n done s).map tupI)), .no, .no, .no]) ⟨rfl, rfl⟩ ?_ ?_
  · rintro done l rest ρ ω' hx ⟨rfl, rfl⟩
    simp only [t__law_less_points_b0, dens, den, dv]
    have hl' := hl l (by rw [hx]; simp)
    simp [-List.map_map, -List.map_drop, -List.map_tail, -List.map_take, -Bool.exists_bool, -Bool.forall_bool, drop_map, take_map, tail_map]
    refine ⟨by omega, comp_pure .int l .int (fun x => !decide (x ∈ s)) (fun x => ((restL n s).idxOf x : Int)) (fun x hx => ?_) ?_⟩
    · simp [-List.map_map, -List.map_drop, -List.map_tail, -List.map_take, -Bool.exists_bool, -Bool.forall_bool, drop_map, take_map, tail_map, hq]
      intro hxs
      have hx2 := hl'.2 x hx
      have : x ∈ restL n s := List.mem_filter.mpr ⟨mem_rgI.mpr hx2, by simp [hxs]⟩
      rw [indexP_int this]
      exact ⟨hxs, rfl⟩
    · have e : lessL n (done ++ [l]) s = lessL n done s ++ if 1 < ((l.filter fun x => !decide (x ∈ s)).map fun x => ((restL n s).idxOf x : Int)).length then [(l.filter fun x => !decide (x ∈ s)).map fun x => ((restL n s).idxOf x : Int)] else [] := by
        unfold lessL
        rw [List.map_append, List.filter_append]
        congr 1
        simp only [List.map_cons, List.map_nil, List.filter_cons, List.filter_nil, decide_eq_true_eq]
      have hlen' : (lessL n done s).length ≤ (lessL n L s).length := by
        rw [hx]
        unfold lessL
        rw [List.map_append, List.filter_append, List.length_append]
        omega
      simp [-List.map_map, -List.map_drop, -List.map_tail, -List.map_take, -Bool.exists_bool, -Bool.forall_bool, drop_map, take_map, tail_map]
      rw [e]
      refine ⟨fun z => ⟨by omega, ?_⟩, fun z => ⟨by omega, ?_⟩⟩
      · rw [if_pos (by simp; omega)]; simp
      · rw [if_neg (by simp; omega)]; simp
  · rintro ρ ω' ⟨rfl, rfl⟩
    simp [-List.map_map, -List.map_drop, -List.map_tail, -List.map_take, -Bool.exists_bool, -Bool.forall_bool, drop_map, take_map, tail_map]
    rw [sorted_T]
    · simp [-List.map_map, -List.map_drop, -List.map_tail, -List.map_take, -Bool.exists_bool, -Bool.forall_bool, drop_map, take_map, tail_map]
    · intro x hx z
      have := (List.mem_filter.mp hx).2
      rw [z] at this
      simp at this
end
end GP
-- MG
set_option maxRecDepth 100000
set_option maxHeartbeats 400000
namespace GP
open PySem PySem.Spec PyProof.Rows L2
theorem asc_eq {l r : List Int} (hl : l.Pairwise (· < ·)) (hr : r.Pairwise (· < ·)) (m : ∀ x, x ∈ l ↔ x ∈ r) : l = r := by
  refine perm_uniq (r := fun a b : Int => a ≤ b) (fun a b h1 h2 => by omega) ?_ (hl.imp fun h => by omega) (hr.imp fun h => by omega)
  rw [List.perm_ext_iff_of_nodup (hl.imp fun h => by omega) (hr.imp fun h => by omega)]
  exact m
section
variable {n m : Int} {L : List (List Int)} {s l : List Int}
theorem two_of {l : List Int} (h : 2 ≤ l.length) (p : l.Pairwise (· < ·)) : ∃ a b, a < b ∧ a ∈ l ∧ b ∈ l := by
  obtain ⟨a, b, _, h⟩ := take2 h p
  exact ⟨a, b, h⟩
theorem len_two {l : List Int} {a b : Int} (ha : a ∈ l) (hb : b ∈ l) (ne : a ≠ b) : 2 ≤ l.length := by
  match l, ha, hb with
  | [x], ha, hb => simp at ha hb; omega
  | x :: y :: l, _, _ => simp
theorem Lin.img (h : Lin n L) (hm2 : 2 ≤ m) (hm : m ≤ 21) (g : Int → Int) (hg : ∀ a, 0 ≤ a → a < m → 0 ≤ g a ∧ g a < n) (inj : ∀ a b, 0 ≤ a → a < m → 0 ≤ b → b < m → g a = g b → a = b) (H : List Int → List Int)
    (hH : ∀ l ∈ L, (∀ x ∈ H l, 0 ≤ x ∧ x < m) ∧ (H l).Pairwise (· < ·) ∧ ∀ a, 0 ≤ a → a < m → (a ∈ H l ↔ g a ∈ l)) : Lin m ((L.map H).filter fun l => decide (1 < l.length)) := by
  have mem : ∀ {l'}, l' ∈ (L.map H).filter (fun l => decide (1 < l.length)) → ∃ l ∈ L, l' = H l ∧ 2 ≤ (H l).length := by
    intro l' hl'
    obtain ⟨h1, h2⟩ := List.mem_filter.mp hl'
    obtain ⟨l, h3, rfl⟩ := List.mem_map.mp h1
    exact ⟨l, h3, rfl, by simp at h2; omega⟩
  have same : ∀ l ∈ L, ∀ l' ∈ L, ∀ a b, a ≠ b → a ∈ H l → b ∈ H l → a ∈ H l' → b ∈ H l' → l = l' := by
    intro l hl l' hl' a b ne h1 h2 h3 h4
    obtain ⟨r, p, q⟩ := hH l hl
    obtain ⟨r', p', q'⟩ := hH l' hl'
    have ra := r a h1
    have rb := r b h2
    exact h.un l hl l' hl' (g a) (g b) (fun z => ne (inj a b ra.1 ra.2 rb.1 rb.2 z)) ((q a ra.1 ra.2).mp h1) ((q b rb.1 rb.2).mp h2) ((q' a ra.1 ra.2).mp h3) ((q' b rb.1 rb.2).mp h4)
  refine ⟨hm2, hm, ?_, ?_, ?_, ?_⟩
  · intro l' hl'
    obtain ⟨l, h1, rfl, h2⟩ := mem hl'
    exact ⟨(hH l h1).1, (hH l h1).2.1, h2⟩
  · show List.Pairwise _ _
    rw [List.pairwise_filter, List.pairwise_map]
    refine List.Pairwise.imp_of_mem (fun {l l'} hl hl' ne h1 h2 z => ?_) h.nd
    obtain ⟨a, b, ab, ha, hb⟩ := two_of (l := H l) (by simp at h1; omega) (hH l hl).2.1
    exact ne (same l hl l' hl' a b (by omega) ha hb (z ▸ ha) (z ▸ hb))
  · intro l1 h1 l2 h2 a b ne h3 h4 h5 h6
    obtain ⟨l, hl, rfl, _⟩ := mem h1
    obtain ⟨l', hl', rfl, _⟩ := mem h2
    rw [same l hl l' hl' a b ne h3 h4 h5 h6]
  · intro a b h1 h2 h3
    have ha := hg a h1 (by omega)
    have hb := hg b (by omega) h3
    have ne : g a ≠ g b := fun z => by have := inj a b h1 (by omega) (by omega) h3 z; omega
    have : ∃ l ∈ L, g a ∈ l ∧ g b ∈ l := by
      rcases Int.lt_or_gt_of_ne ne with c | c
      · exact h.ex _ _ ha.1 c hb.2
      · obtain ⟨l, q1, q2, q3⟩ := h.ex _ _ hb.1 c ha.2
        exact ⟨l, q1, q3, q2⟩
    obtain ⟨l, q1, q2, q3⟩ := this
    have ma := ((hH l q1).2.2 a h1 (by omega)).mpr q2
    have mb := ((hH l q1).2.2 b (by omega) h3).mpr q3
    exact ⟨H l, List.mem_filter.mpr ⟨List.mem_map.mpr ⟨l, q1, rfl⟩, by have := len_two ma mb (by omega); simp; omega⟩, ma, mb⟩
theorem rest_asc : (restL n s).Pairwise (· < ·) := rgI_asc.filter _
theorem mem_rest {x : Int} : x ∈ restL n s ↔ (0 ≤ x ∧ x < n) ∧ x ∉ s := by
  unfold restL
  rw [List.mem_filter, mem_rgI]
  simp
theorem idx_lt {l : List Int} (p : l.Pairwise (· < ·)) {x y : Int} (hx : x ∈ l) (hy : y ∈ l) (h : x < y) : l.idxOf x < l.idxOf y := by
  have h1 := List.idxOf_lt_length_of_mem hx
  have h2 := List.idxOf_lt_length_of_mem hy
  rcases Nat.lt_trichotomy (l.idxOf x) (l.idxOf y) with c | c | c
  · exact c
  · have e1 := List.getElem_idxOf h1
    have e2 := List.getElem_idxOf h2
    have : l[l.idxOf x] = l[l.idxOf y] := by congr 1
    rw [e1, e2] at this
    omega
  · have := List.pairwise_iff_getElem.mp p _ _ h2 h1 c
    rw [List.getElem_idxOf, List.getElem_idxOf] at this
    omega
theorem Lin.less (h : Lin n L) (hr : 2 ≤ (restL n s).length) : Lin (restL n s).length (lessL n L s) := by
  have nd : (restL n s).Nodup := rest_asc.imp fun h => by omega
  have le21 : (restL n s).length ≤ 21 := by
    have := List.length_filter_le (fun x => !decide (x ∈ s)) (rgI 0 n)
    rw [rgI_len] at this
    have := h.hi
    unfold restL
    omega
  refine h.img (m := (restL n s).length) (by omega) (by omega) (fun a => (restL n s).getD a.toNat 0) ?_ ?_ (fun l => (l.filter fun x => !decide (x ∈ s)).map fun x => ((restL n s).idxOf x : Int)) ?_
  · intro a h1 h2
    have hl : a.toNat < (restL n s).length := by omega
    rw [List.getD_eq_getElem?_getD, List.getElem?_eq_getElem hl]
    exact (mem_rest.mp (List.getElem_mem hl)).1
  · intro a b h1 h2 h3 h4 e
    have la : a.toNat < (restL n s).length := by omega
    have lb : b.toNat < (restL n s).length := by omega
    rw [List.getD_eq_getElem?_getD, List.getElem?_eq_getElem la, List.getD_eq_getElem?_getD, List.getElem?_eq_getElem lb] at e
    simp only [Option.getD_some] at e
    have := (List.getElem_inj nd).mp e
    omega
  · intro l hl
    have hl' := h.ok l hl
    have mr : ∀ x ∈ l.filter (fun x => !decide (x ∈ s)), x ∈ restL n s := by
      intro x hx
      obtain ⟨h1, h2⟩ := List.mem_filter.mp hx
      exact mem_rest.mpr ⟨hl'.1 x h1, by simpa using h2⟩
    refine ⟨?_, ?_, ?_⟩
    · intro x hx
      obtain ⟨y, hy, rfl⟩ := List.mem_map.mp hx
      have := List.idxOf_lt_length_of_mem (mr y hy)
      omega
    · rw [List.pairwise_map]
      refine List.Pairwise.imp_of_mem (fun {x y} hx hy q => ?_) (hl'.2.1.filter _)
      have := idx_lt rest_asc (mr x hx) (mr y hy) q
      omega
    · intro a h1 h2
      have la : a.toNat < (restL n s).length := by omega
      rw [List.getD_eq_getElem?_getD, List.getElem?_eq_getElem la, Option.getD_some]
      constructor
      · intro hx
        obtain ⟨y, hy, e⟩ := List.mem_map.mp hx
        have ly := List.idxOf_lt_length_of_mem (mr y hy)
        have : (restL n s)[a.toNat] = y := by
          have e2 := List.getElem_idxOf ly
          rw [← e2]
          congr 1
          omega
        rw [this]
        exact (List.mem_filter.mp hy).1
      · intro hx
        have hm := mem_rest.mp (List.getElem_mem la)
        refine List.mem_map.mpr ⟨_, List.mem_filter.mpr ⟨hx, by simpa using hm.2⟩, ?_⟩
        rw [nd.idxOf_getElem]
        omega
def namedL (o : List Int) (L : List (List Int)) : List (List Int) := L.map fun l => isort (l.map fun x => o.getD x.toNat 0)
theorem Lin.named (h : Lin n L) {o : List Int} (ho : o.Perm (rgI 0 n)) : Lin n (namedL o L) := by
  have len : o.length = n.toNat := by rw [ho.length_eq, rgI_len]; omega
  have nd : o.Nodup := ho.nodup_iff.mpr (rgI_asc.imp fun h => by omega)
  have n2 := h.lo
  have at_ : ∀ x, 0 ≤ x → x < n → ∃ h : x.toNat < o.length, o.getD x.toNat 0 = o[x.toNat] := fun x h1 h2 => by
    have : x.toNat < o.length := by omega
    exact ⟨this, by rw [List.getD_eq_getElem?_getD, List.getElem?_eq_getElem this]; rfl⟩
  have inj : ∀ x y, 0 ≤ x → x < n → 0 ≤ y → y < n → o.getD x.toNat 0 = o.getD y.toNat 0 → x = y := fun x y h1 h2 h3 h4 e => by
    obtain ⟨lx, ex⟩ := at_ x h1 h2
    obtain ⟨ly, ey⟩ := at_ y h3 h4
    rw [ex, ey] at e
    have := (List.getElem_inj nd).mp e
    omega
  have key := h.img (m := n) h.lo h.hi (fun a => (o.idxOf a : Int)) ?_ ?_ (fun l => isort (l.map fun x => o.getD x.toNat 0)) ?_
  · have e : (L.map fun l => isort (l.map fun x => o.getD x.toNat 0)).filter (fun l => decide (1 < l.length)) = namedL o L := by
      unfold namedL
      rw [List.filter_eq_self]
      intro l hl
      obtain ⟨l', h1, rfl⟩ := List.mem_map.mp hl
      have := (h.ok l' h1).2.2
      simp [isort_len]
      omega
    rw [e] at key
    exact key
  · intro a h1 h2
    have : a ∈ o := ho.mem_iff.mpr (mem_rgI.mpr ⟨h1, h2⟩)
    have := List.idxOf_lt_length_of_mem this
    omega
  · intro a b h1 h2 h3 h4 e
    have ha : a ∈ o := ho.mem_iff.mpr (mem_rgI.mpr ⟨h1, h2⟩)
    have hb : b ∈ o := ho.mem_iff.mpr (mem_rgI.mpr ⟨h3, h4⟩)
    have la := List.idxOf_lt_length_of_mem ha
    have lb := List.idxOf_lt_length_of_mem hb
    have e' : o.idxOf a = o.idxOf b := by omega
    have e1 := List.getElem_idxOf la
    have e2 := List.getElem_idxOf lb
    rw [← e1, ← e2]
    congr 1
  · intro l hl
    have hl' := h.ok l hl
    have mem : ∀ y, y ∈ isort (l.map fun x => o.getD x.toNat 0) ↔ ∃ x ∈ l, o.getD x.toNat 0 = y := fun y => by
      rw [(isort_perm _).mem_iff, List.mem_map]
    refine ⟨?_, ?_, ?_⟩
    · intro y hy
      obtain ⟨x, hx, rfl⟩ := (mem y).mp hy
      obtain ⟨lx, ex⟩ := at_ x (hl'.1 x hx).1 (hl'.1 x hx).2
      rw [ex]
      exact mem_rgI.mp (ho.mem_iff.mp (List.getElem_mem lx))
    · have h1 := isort_pair (l.map fun x => o.getD x.toNat 0)
      have h2 : (isort (l.map fun x => o.getD x.toNat 0)).Nodup := by
        rw [(isort_perm _).nodup_iff]
        show List.Pairwise _ _
        rw [List.pairwise_map]
        refine List.Pairwise.imp_of_mem (fun {x y} hx hy q z => ?_) hl'.2.1
        have := inj x y (hl'.1 x hx).1 (hl'.1 x hx).2 (hl'.1 y hy).1 (hl'.1 y hy).2 z
        omega
      exact (h1.and h2).imp fun ⟨a, b⟩ => by omega
    · intro a h1 h2
      have ha : a ∈ o := ho.mem_iff.mpr (mem_rgI.mpr ⟨h1, h2⟩)
      have la := List.idxOf_lt_length_of_mem ha
      have ea := List.getElem_idxOf la
      rw [mem]
      constructor
      · rintro ⟨x, hx, e⟩
        obtain ⟨lx, ex⟩ := at_ x (hl'.1 x hx).1 (hl'.1 x hx).2
        have : (o.idxOf a : Int) = x := by
          rw [ex] at e
          rw [← e, nd.idxOf_getElem]
          have := (hl'.1 x hx).1
          omega
        rw [this]; exact hx
      · intro hx
        refine ⟨_, hx, ?_⟩
        rw [List.getD_eq_getElem?_getD]
        rw [show ((o.idxOf a : Nat) : Int).toNat = o.idxOf a from rfl, List.getElem?_eq_getElem la, ea]
        rfl
end
end GP
-- MH
set_option maxRecDepth 100000
set_option maxHeartbeats 400000
namespace GP
open PySem PySem.Spec PyProof.Rows L2
def insB {α : Type} (le : α → α → Bool) (x : α) : List α → List α
  | [] => [x]
  | y :: l => if le x y then x :: y :: l else y :: insB le x l
def srtB {α : Type} (le : α → α → Bool) : List α → List α
  | [] => []
  | x :: l => insB le x (srtB le l)
theorem insB_perm {α : Type} (le : α → α → Bool) (x : α) : ∀ l : List α, (insB le x l).Perm (x :: l)
  | [] => .refl _
  | y :: l => by
    unfold insB
    split
    · exact .refl _
    · exact ((insB_perm le x l).cons y).trans (.swap x y l)
theorem srtB_perm {α : Type} (le : α → α → Bool) : ∀ l : List α, (srtB le l).Perm l
  | [] => .refl _
  | x :: l => (insB_perm le x _).trans ((srtB_perm le l).cons x)
theorem insB_pair {α : Type} {le : α → α → Bool} (tot : ∀ a b, (le a b || le b a) = true) (tr : ∀ a b c, le a b = true → le b c = true → le a c = true) (x : α) : ∀ l : List α, l.Pairwise (fun a b => le a b = true) → (insB le x l).Pairwise fun a b => le a b = true
  | [], _ => by simp [insB]
  | y :: l, h => by
    unfold insB
    split
    · rename_i c
      exact List.pairwise_cons.mpr ⟨fun z hz => by
        rcases List.mem_cons.mp hz with rfl | hz
        · exact c
        · exact tr _ _ _ c ((List.pairwise_cons.mp h).1 z hz), h⟩
    · rename_i c
      refine List.pairwise_cons.mpr ⟨fun z hz => ?_, insB_pair tot tr x l (List.pairwise_cons.mp h).2⟩
      rcases List.mem_cons.mp ((insB_perm le x l).mem_iff.mp hz) with rfl | hz
      · have := tot z y
        rw [Bool.not_eq_true] at c
        rw [c] at this
        simpa using this
      · exact (List.pairwise_cons.mp h).1 z hz
theorem srtB_pair {α : Type} {le : α → α → Bool} (tot : ∀ a b, (le a b || le b a) = true) (tr : ∀ a b c, le a b = true → le b c = true → le a c = true) : ∀ l : List α, (srtB le l).Pairwise fun a b => le a b = true
  | [] => .nil
  | x :: l => insB_pair tot tr x _ (srtB_pair tot tr l)
def isS (l : List Int) : List Int := srtB (fun a b => decide (a ≤ b)) l
def tsS (l : List (List Int)) : List (List Int) := srtB tle l
theorem isort_S (l : List Int) : isort l = isS l :=
  (isort_uniq (srtB_perm _ l) ((srtB_pair (by intro a b; simp; omega) (by intro a b c; simp; omega) l).imp fun h => by simpa using h)).symm
theorem tsort_S (l : List (List Int)) : tsort l = tsS l := (tsort_uniq (srtB_perm _ l) (srtB_pair tle_total tle_trans l)).symm
def linB (n : Int) (L : List (List Int)) : Bool := decide (2 ≤ n ∧ n ≤ 21) && L.all (okL n) && decide ((L.flatMap prs).Nodup) && (prs (rgI 0 n)).all fun k => L.any fun l => k.all fun x => decide (x ∈ l)
theorem lin_of {n : Int} {L : List (List Int)} (h : linB n L = true) : Lin n L := by
  unfold linB at h
  simp only [Bool.and_eq_true, decide_eq_true_eq, List.all_eq_true, List.any_eq_true] at h
  obtain ⟨⟨⟨h1, h2⟩, h3⟩, h4⟩ := h
  have ok : ∀ l ∈ L, (∀ x ∈ l, 0 ≤ x ∧ x < n) ∧ l.Pairwise (· < ·) ∧ 2 ≤ l.length := fun l hl => okL_iff.mp (h2 l hl)
  have un : ∀ l ∈ L, ∀ l' ∈ L, ∀ a b, a < b → a ∈ l → b ∈ l → a ∈ l' → b ∈ l' → l = l' := by
    intro l hl l' hl' a b ab q1 q2 q3 q4
    have m1 : [a, b] ∈ prs l := (mem_prs (ok l hl).2.1).mpr ⟨a, b, rfl, ab, q1, q2⟩
    have m2 : [a, b] ∈ prs l' := (mem_prs (ok l' hl').2.1).mpr ⟨a, b, rfl, ab, q3, q4⟩
    by_cases e : l = l'
    · exact e
    · exfalso
      obtain ⟨i, hi, ei⟩ := List.mem_iff_getElem.mp hl
      obtain ⟨j, hj, ej⟩ := List.mem_iff_getElem.mp hl'
      have p := List.pairwise_iff_getElem.mp (List.pairwise_flatMap.mp h3).2
      rcases Nat.lt_trichotomy i j with c | c | c
      · exact p i j hi hj c [a, b] (by rw [ei]; exact m1) [a, b] (by rw [ej]; exact m2) rfl
      · subst c; exact e (ei ▸ ej ▸ rfl)
      · exact p j i hj hi c [a, b] (by rw [ej]; exact m2) [a, b] (by rw [ei]; exact m1) rfl
  refine ⟨h1.1, h1.2, ok, ?_, ?_, ?_⟩
  · refine List.Pairwise.imp_of_mem (fun {l l'} hl hl' q e => ?_) (List.pairwise_flatMap.mp h3).2
    subst e
    obtain ⟨a, b, ab, ha, hb⟩ := two_of (ok l hl).2.2 (ok l hl).2.1
    have m1 : [a, b] ∈ prs l := (mem_prs (ok l hl).2.1).mpr ⟨a, b, rfl, ab, ha, hb⟩
    exact q _ m1 _ m1 rfl
  · intro l hl l' hl' a b ne q1 q2 q3 q4
    rcases Int.lt_or_gt_of_ne ne with c | c
    · exact un l hl l' hl' a b c q1 q2 q3 q4
    · exact un l hl l' hl' b a c q2 q1 q4 q3
  · intro a b q1 q2 q3
    obtain ⟨l, hl, q⟩ := h4 [a, b] ((mem_prs rgI_asc).mpr ⟨a, b, rfl, q2, mem_rgI.mpr (by omega), mem_rgI.mpr (by omega)⟩)
    exact ⟨l, hl, q a (by simp), q b (by simp)⟩
def bs4 : List (Int × List (List Int)) := [(7, [[0, 1, 3]]), (13, [[0, 1, 3, 9]]), (13, [[0, 1, 4], [0, 2, 7]]), (21, [[0, 1, 4, 14, 16]])]
def encB (e : Int × List (List Int)) : PV := .tup [.int e.1, .lst (e.2.map tupI)]
def rotS (n : Int) (b : List Int) : List (List Int) := (rgI 0 n).map fun t => isS (b.map fun p => (p + t) % n)
theorem rot_S (n : Int) : rotB n = rotS n := by
  funext b
  unfold rotB rotS
  congr 1
  funext t
  exact isort_S _
theorem lin_ringS : ∀ e ∈ bs4, linB e.1 (unl [] (tsS (e.2.flatMap (rotS e.1)))) = true := by decide +kernel
theorem lin_ring : ∀ e ∈ bs4, linB e.1 (unlT (e.2.flatMap (rotB e.1))) = true := fun e he => by
  unfold unlT
  rw [rot_S, tsort_S]
  exact lin_ringS e he
theorem lin_open3 : linB 9 open3 = true := by decide +kernel
def penL (n : Int) : List (List Int) := [rgI 0 (n - 1)] ++ (rgI 0 (n - 1)).map fun x => [x, n - 1]
theorem lin_pen (n : Int) (h1 : 3 ≤ n) (h2 : n ≤ 8) : Lin n (penL n) := by
  have : n = 3 ∨ n = 4 ∨ n = 5 ∨ n = 6 ∨ n = 7 ∨ n = 8 := by omega
  rcases this with rfl | rfl | rfl | rfl | rfl | rfl <;> exact lin_of (by decide +kernel)
section
variable {G : Pg} {ω : Rw} {Q : PV → Rw → Prop} {E : Nat → PV → Rw → Prop} {n m : Int} {ps qs : List PV} {p q : PV}
theorem s_base (o : OkRw ω) (k : ∀ n L, Lin n L → 3 ≤ n → (n ≤ m ∨ n ≤ 8) → ∀ ω', OkRw ω' → Q (.tup [.int n, .lst (L.map tupI)]) ω') : Sat (F__law_base G [.row, .int m] ω) Q E := by
  simp only [F__law_base, t__law_base, dens, den, dv, N__law_base]
  simp [-List.map_map, -List.map_drop, -List.map_tail, -List.map_take, -Bool.exists_bool, -Bool.forall_bool, drop_map, take_map, tail_map, -comp_cons]
  refine comp_pure encB bs4 encB (fun e => decide (e.1 ≤ m)) id (fun e he => by simp [-List.map_map, -List.map_drop, -List.map_tail, -List.map_take, -Bool.exists_bool, -Bool.forall_bool, drop_map, take_map, tail_map, encB]) ?_
  have hlen : (bs4.filter fun e => decide (e.1 ≤ m)).length ≤ 4 := List.length_filter_le _ _
  have hmem : ∀ e ∈ bs4.filter (fun e => decide (e.1 ≤ m)), e ∈ bs4 ∧ e.1 ≤ m := fun e he => by
    have := List.mem_filter.mp he
    exact ⟨this.1, by simpa using this.2⟩
  have hb : ∀ e ∈ bs4, 3 ≤ e.1 ∧ e.1 ≤ 21 ∧ e.2.length ≤ 1000 ∧ ∀ b ∈ e.2, b ≠ [] ∧ b.length ≤ 1000 := by decide
  revert hlen hmem
  generalize bs4.filter (fun e => decide (e.1 ≤ m)) = fs
  intro hlen hmem
  simp [-List.map_map, -List.map_drop, -List.map_tail, -List.map_take, -Bool.exists_bool, -Bool.forall_bool, drop_map, take_map, tail_map, -comp_cons]
  refine s_taken (by omega) (by omega) o fun kind h0 h1 ω o => ?_
  simp [-List.map_map, -List.map_drop, -List.map_tail, -List.map_take, -Bool.exists_bool, -Bool.forall_bool, drop_map, take_map, tail_map, -comp_cons]
  refine ⟨fun hk => ?_, fun hk => ?_⟩
  · obtain ⟨e, he, he2⟩ := atI_some (l := fs) h0 hk
    have hm := hmem e (List.mem_of_getElem? he2)
    have hb' := hb e hm.1
    have hr := m_ring (G := G) (ω := ω) (n := e.1) e.2 (by omega) hb'.2.1 hb'.2.2.1 hb'.2.2.2
    simp [-List.map_map, -List.map_drop, -List.map_tail, -List.map_take, -Bool.exists_bool, -Bool.forall_bool, drop_map, take_map, tail_map, he, encB, hr]
    have := k e.1 _ (lin_of (lin_ring e hm.1)) hb'.1 (.inl hm.2) ω o
    simpa using this
  · have pen : ∀ ω, OkRw ω → ∀ j, 0 ≤ j → j < 6 → ∀ (ρ : Sto), ρ = [Sl.sh PV.row, .sh (.int m), .sh (.lst (fs.map encB)), .sh (.int kind), .sh (.int (3 + j)), .no, .no] →
        CompS dYes (dL mkTup (dCons (dVar 6) (dCons (d2 subP (dVar 4) (dC (.int 1))) dNil))) (.nm 6) ρ ((rgI 0 (3 + j - 1)).map .int) ω fun l ω => 1 + l.length ≤ sizeLine ∧ Q (.tup [.int (3 + j), .lst (tupI (rgI 0 (3 + j - 1)) :: l)]) ω := by
      rintro ω o j j0 j1 ρ rfl
      have sz := size_big
      refine comp_map tupI (rgI 0 (3 + j - 1)) .int (fun x => [x, 3 + j - 1]) (fun x hx => by simp [-List.map_map, -List.map_drop, -List.map_tail, -List.map_take, -Bool.exists_bool, -Bool.forall_bool, drop_map, take_map, tail_map]; rfl) ?_
      refine ⟨by simp; omega, ?_⟩
      have := k (3 + j) (penL (3 + j)) (lin_pen _ (by omega) (by omega)) (by omega) (.inr (by omega)) ω o
      simpa [penL] using this
    have fin : ∀ j : Int, 0 ≤ j → j < 6 → ∀ ω, OkRw ω → rg62 0 (3 + j - 1) = true ∧ rgOk 0 (3 + j - 1) = true ∧ (3 + j - 1).toNat ≤ sizeLine := fun j j0 j1 ω o => by
      have sz := size_big
      exact ⟨rg62_of (by omega) (by omega) (by omega) (by omega), rgOk_of (by omega) (by omega) (by omega) (by omega), by omega⟩
    refine ⟨fun e1 => ⟨fun e2 => ?_, fun e2 => ?_⟩, fun e1 => ?_⟩
    · rw [m_open_three]
      simp [-List.map_map, -List.map_drop, -List.map_tail, -List.map_take, -Bool.exists_bool, -Bool.forall_bool, drop_map, take_map, tail_map]
      have := k 9 open3 (lin_of lin_open3) (by omega) (.inl e2) ω o
      simpa using this
    · refine s_taken (by omega) (by omega) o fun j j0 j1 ω o => ?_
      obtain ⟨f1, f2, f3⟩ := fin j j0 j1 ω o
      simp [-List.map_map, -List.map_drop, -List.map_tail, -List.map_take, -Bool.exists_bool, -Bool.forall_bool, drop_map, take_map, tail_map, f1, f2, f3]
      exact ⟨by omega, pen ω o j j0 j1 _ rfl⟩
    · refine s_taken (by omega) (by omega) o fun j j0 j1 ω o => ?_
      obtain ⟨f1, f2, f3⟩ := fin j j0 j1 ω o
      simp [-List.map_map, -List.map_drop, -List.map_tail, -List.map_take, -Bool.exists_bool, -Bool.forall_bool, drop_map, take_map, tail_map, f1, f2, f3]
      exact ⟨by omega, pen ω o j j0 j1 _ rfl⟩
theorem m_named {L : List (List Int)} {o : List Int} (h : Lin n L) (ho : o.Perm (rgI 0 n)) : F__law_named G [.lst (o.map .int), .lst (L.map tupI)] ω = .ok (.lst ((tsort (namedL o L)).map tupI)) ω := by
  have sz := size_big
  have hl := h.len
  have len : o.length = n.toNat := by rw [ho.length_eq, rgI_len]; omega
  refine sat_eq ?_
  simp only [F__law_named, t__law_named, dens, den, dv, N__law_named]
  simp [-List.map_map, -List.map_drop, -List.map_tail, -List.map_take, -Bool.exists_bool, -Bool.forall_bool, drop_map, take_map, tail_map]
  refine for_inv L tupI (fun done ρ ω' => ω' = ω ∧ ρ = [.sh (.lst (o.map .int)), .sh (.lst (L.map tupI)), .sh (.lst ((namedL o done).map tupI)), .no, .no]) ⟨rfl, rfl⟩ ?_ ?_
  · rintro done l rest ρ ω' hx ⟨rfl, rfl⟩
    simp only [t__law_named_b0, dens, den, dv]
    have lm : l ∈ L := by rw [hx]; simp
    have hl' := h.line_len lm
    have hd : done.length + 1 ≤ 441 := by
      have := congrArg List.length hx
      simp at this
      omega
    simp [-List.map_map, -List.map_drop, -List.map_tail, -List.map_take, -Bool.exists_bool, -Bool.forall_bool, drop_map, take_map, tail_map]
    refine ⟨by omega, comp_map .int l .int (fun x => o.getD x.toNat 0) (fun x hx => ?_) ?_⟩
    · have hx2 := (h.ok l lm).1 x hx
      obtain ⟨y, h1, h2⟩ := atI_some (l := o) hx2.1 (by rw [len]; omega)
      simp [-List.map_map, -List.map_drop, -List.map_tail, -List.map_take, -Bool.exists_bool, -Bool.forall_bool, drop_map, take_map, tail_map, h1, List.getD_eq_getElem?_getD, h2]
    · simp [-List.map_map, -List.map_drop, -List.map_tail, -List.map_take, -Bool.exists_bool, -Bool.forall_bool, drop_map, take_map, tail_map, sorted_I, namedL]
      omega
  · rintro ρ ω' ⟨rfl, rfl⟩
    simp [-List.map_map, -List.map_drop, -List.map_tail, -List.map_take, -Bool.exists_bool, -Bool.forall_bool, drop_map, take_map, tail_map]
    rw [sorted_T]
    · simp [-List.map_map, -List.map_drop, -List.map_tail, -List.map_take, -Bool.exists_bool, -Bool.forall_bool, drop_map, take_map, tail_map]
    · intro x hx z
      obtain ⟨l, hl, rfl⟩ := List.mem_map.mp hx
      have h1 := congrArg List.length z
      have h2 := (h.ok l hl).2.2
      rw [isort_len, List.length_map, List.length_nil] at h1
      omega
def unI : PV → Int
  | .int n => n
  | _ => 0
theorem map_unI : ∀ l : List Int, (l.map PV.int).map unI = l
  | [] => rfl
  | x :: l => by rw [List.map_cons, List.map_cons, map_unI l]; rfl
theorem rest_len {n : Int} {s : List Int} (h0 : 0 ≤ n) : n ≤ (restL n s).length + s.length := by
  have nd : (rgI 0 n).Nodup := rgI_asc.imp fun h => by omega
  have : rgI 0 n ⊆ restL n s ++ s := fun x hx => by
    rw [List.mem_append, mem_rest]
    by_cases c : x ∈ s
    · exact .inr c
    · exact .inl ⟨mem_rgI.mp hx, c⟩
  have := nd.length_le_of_subset this
  rw [rgI_len, List.length_append] at this
  omega
theorem rest_le {n : Int} {s : List Int} (h0 : 0 ≤ n) : ((restL n s).length : Int) ≤ n := by
  have := List.length_filter_le (fun x => !decide (x ∈ s)) (rgI 0 n)
  rw [rgI_len] at this
  unfold restL
  omega
theorem tsort_idem {L : List (List Int)} : tsort (tsort L) = tsort L := (tsort_uniq (.refl _) (tsort_pair L)).symm
theorem Lin.tsort {L : List (List Int)} (h : Lin n L) : Lin n (GP.tsort L) := h.perm (tsort_perm L).symm
theorem s_space {mo : Int} (o : OkRw ω) (h21 : mo ≤ 21) (k : ∀ n L, Lin n L → L = tsort L → 3 ≤ n → (n ≤ mo ∨ n ≤ 8) → ∀ ω', OkRw ω' → Q (.tup [.int n, .lst (L.map tupI)]) ω') : Sat (F__law_space G [.row, .int mo] ω) Q E := by
  have sz := size_big
  simp only [F__law_space, t__law_space, dens, den, dv, N__law_space]
  simp [-List.map_map, -List.map_drop, -List.map_tail, -List.map_take, -Bool.exists_bool, -Bool.forall_bool, drop_map, take_map, tail_map]
  refine s_base o fun n L h h3 hm ω o => ?_
  simp [-List.map_map, -List.map_drop, -List.map_tail, -List.map_take, -Bool.exists_bool, -Bool.forall_bool, drop_map, take_map, tail_map]
  refine s_pick (by simp) (by simp) o fun r hr ω o => ?_
  have : ∃ j : Int, r = .int j ∧ 0 ≤ j ∧ j ≤ 3 := by
    simp at hr
    rcases hr with rfl | rfl | rfl | rfl | rfl | rfl <;> exact ⟨_, rfl, by omega, by omega⟩
  obtain ⟨j, rfl, j0, j3⟩ := this
  simp [-List.map_map, -List.map_drop, -List.map_tail, -List.map_take, -Bool.exists_bool, -Bool.forall_bool, drop_map, take_map, tail_map]
  refine ⟨rg62_of (by omega) (by omega) (by omega) (by omega), by omega, ?_⟩
  refine comp_inv (rgI 0 j) .int (fun done out ω => OkRw ω ∧ ∃ s : List Int, out = s.map .int ∧ s.length = done.length ∧ ∀ x ∈ s, 0 ≤ x ∧ x < n) ⟨o, [], rfl, rfl, by simp⟩ ?_ ?_
  · rintro done x rest out ω' hx ⟨o, s, rfl, hs, hs2⟩
    simp [-List.map_map, -List.map_drop, -List.map_tail, -List.map_take, -Bool.exists_bool, -Bool.forall_bool, drop_map, take_map, tail_map]
    have := h.lo
    have := h.hi
    refine s_taken (by omega) (by omega) o fun y y0 y1 ω o => ⟨o, s ++ [y], by simp, by simp [hs], ?_⟩
    intro z hz
    rcases List.mem_append.mp hz with hz | hz
    · exact hs2 z hz
    · simp at hz; omega
  · rintro out ω ⟨o, s, rfl, hs, hs2⟩
    rw [rgI_len] at hs
    rw [m_unlike_I s (by omega) (.inl rfl)]
    have n2 := h.lo
    have n21 := h.hi
    have tail : ∀ (n' : Int) (L' : List (List Int)) (ω : Rw), Lin n' L' → 3 ≤ n' → n' ≤ n → OkRw ω → Sat (F__law_shuffled G [.row, .lst ((rgI 0 n').map .int)] ω) (fun p ω => Sat (F__law_named G [p, .lst (L'.map tupI)] ω) (fun p ω => Q (.tup [.int n', p]) ω) E) E := by
      intro n' L' ω h' a b o
      refine s_shuffled (ps := (rgI 0 n').map .int) (by simp; omega) rfl o fun qs hp ω o => ?_
      obtain ⟨os, rfl, hos⟩ : ∃ os : List Int, qs = os.map .int ∧ os.Perm (rgI 0 n') := by
        have : ∀ x ∈ qs, within 0 (n' - 1) x = true := fun x hx => by
          obtain ⟨y, hy, rfl⟩ := List.mem_map.mp (hp.mem_iff.mp hx)
          rw [mem_rgI] at hy
          simp
          omega
        obtain ⟨os, rfl, _⟩ := ints_of_within this
        refine ⟨os, rfl, ?_⟩
        have := hp.map unI
        rwa [map_unI, map_unI] at this
      rw [m_named h' hos]
      exact sat_ok.mpr (k n' _ (h'.named hos).tsort tsort_idem.symm a (by omega) ω o)
    have less : ∀ s : List Int, (s.length : Int) ≤ n - 3 → F__law_less_points G [.int n, .lst (L.map tupI), .lst (s.map .int)] ω = .ok (.tup [.int (restL n s).length, .lst ((tsort (lessL n L s)).map tupI)]) ω ∧ Lin (restL n s).length (tsort (lessL n L s)) ∧ (3 : Int) ≤ (restL n s).length ∧ ((restL n s).length : Int) ≤ n := by
      intro s hs
      have r1 := rest_len (s := s) (n := n) (by omega)
      have r2 := rest_le (s := s) (n := n) (by omega)
      have hl := h.less (s := s) (by omega)
      refine ⟨m_less_points (by omega) (by omega) h.len (fun l hl' => ⟨h.line_len hl', (h.ok l hl').1⟩) (fun a => by simp) (by have := hl.len; omega), hl.tsort, by omega, r2⟩
    simp [-List.map_map, -List.map_drop, -List.map_tail, -List.map_take, -Bool.exists_bool, -Bool.forall_bool, drop_map, take_map, tail_map]
    refine ⟨fun c => ?_, fun c => ?_⟩
    · obtain ⟨l1, l2, l3, l4⟩ := less (cutP (unlI s) none (some (n - 3))) (by rw [cut_to (by omega), List.length_take]; omega)
      rw [l1]
      simp [-List.map_map, -List.map_drop, -List.map_tail, -List.map_take, -Bool.exists_bool, -Bool.forall_bool, drop_map, take_map, tail_map]
      exact ⟨rgOk_of (by omega) (by omega) (by omega) (by omega), tail _ _ ω l2 l3 l4 o⟩
    · obtain ⟨l1, l2, l3, l4⟩ := less (unlI s) c
      rw [l1]
      simp [-List.map_map, -List.map_drop, -List.map_tail, -List.map_take, -Bool.exists_bool, -Bool.forall_bool, drop_map, take_map, tail_map]
      exact ⟨rgOk_of (by omega) (by omega) (by omega) (by omega), tail _ _ ω l2 l3 l4 o⟩
end
end GP
-- MI
set_option maxRecDepth 100000
set_option maxHeartbeats 400000
namespace GP
open PySem PySem.Spec PyProof.Rows L2
section
variable {G : Pg} {ω : Rw} {Q : PV → Rw → Prop} {E : Nat → PV → Rw → Prop} {n m : Int} {ps qs : List PV} {p q w : PV} {L : List (List Int)} {D : Thr} {a b : Int}
theorem m_through (h : Lin n L) (ha : 0 ≤ a ∧ a < n) (hb : 0 ≤ b ∧ b < n) (ne : a ≠ b) : F__law_through G [.lst (L.map tupI), .int a, .int b] ω = .ok (tupI (lineT L a b)) ω := by
  have sz := size_big
  have hl := h.len
  refine sat_eq ?_
  simp only [F__law_through, t__law_through, dens, den, dv, N__law_through]
  simp [-List.map_map, -List.map_drop, -List.map_tail, -List.map_take, -Bool.exists_bool, -Bool.forall_bool, drop_map, take_map, tail_map]
  refine ⟨by omega, comp_pure tupI L tupI (fun l => decide (a ∈ l) && decide (b ∈ l)) id (fun x hx => ?_) ?_⟩
  · simp [-List.map_map, -List.map_drop, -List.map_tail, -List.map_take, -Bool.exists_bool, -Bool.forall_bool, drop_map, take_map, tail_map]
    by_cases c : a ∈ x <;> by_cases d : b ∈ x <;> simp [c, d]
  simp [-List.map_map, -List.map_drop, -List.map_tail, -List.map_take, -Bool.exists_bool, -Bool.forall_bool, drop_map, take_map, tail_map]
  have h1 := h.lineT ha hb ne
  have e : (L.filter fun l => decide (a ∈ l) && decide (b ∈ l))[0]? = L.find? fun l => decide (a ∈ l) && decide (b ∈ l) := by
    rw [← List.head?_eq_getElem?, List.head?_filter]
  rw [e]
  cases e2 : L.find? fun l => decide (a ∈ l) && decide (b ∈ l) with
  | none =>
    have := List.find?_eq_none.mp e2 _ h1.1
    simp [h1.2] at this
  | some l => simp [lineT, e2]
theorem s_some (h0 : 0 ≤ n) (h1 : n ≤ 1000) (m0 : 0 < m) (m1 : m < 1000) (o : OkRw ω) (k : ∀ s : List Int, s.Sublist (rgI 0 n) → ∀ ω', OkRw ω' → Q (tupI s) ω') : Sat (F__law_some G [.row, .int n, .int m] ω) Q E := by
  have sz := size_big
  simp only [F__law_some, t__law_some, dens, den, dv, N__law_some]
  simp [-List.map_map, -List.map_drop, -List.map_tail, -List.map_take, -Bool.exists_bool, -Bool.forall_bool, drop_map, take_map, tail_map]
  refine ⟨rg62_of (by omega) (by omega) (by omega) (by omega), by omega, comp_inv (rgI 0 n) .int (fun done out ω => OkRw ω ∧ ∃ s : List Int, out = s.map .int ∧ s.Sublist done) ⟨o, [], rfl, .slnil⟩ ?_ ?_⟩
  · rintro done x rest out ω' hx ⟨o, s, rfl, hs⟩
    simp [-List.map_map, -List.map_drop, -List.map_tail, -List.map_take, -Bool.exists_bool, -Bool.forall_bool, drop_map, take_map, tail_map]
    refine s_taken (by omega) (by omega) o fun y y0 y1 ω o => ?_
    simp [-List.map_map, -List.map_drop, -List.map_tail, -List.map_take, -Bool.exists_bool, -Bool.forall_bool, drop_map, take_map, tail_map]
    refine ⟨fun _ => ⟨o, s ++ [x], by simp, hs.append (.refl _)⟩, fun _ => ⟨o, s, rfl, hs.trans (List.sublist_append_left _ _)⟩⟩
  · rintro out ω ⟨o, s, rfl, hs⟩
    simp [-List.map_map, -List.map_drop, -List.map_tail, -List.map_take, -Bool.exists_bool, -Bool.forall_bool, drop_map, take_map, tail_map]
    exact k s hs ω o
theorem sub_isSet {s : List Int} (h : s.Sublist (rgI 0 n)) : isSetI (n - 1) s = true := by
  refine isSetI_iff.mpr ⟨fun x hx => ?_, rgI_asc.sublist h⟩
  have := mem_rgI.mp (h.subset hx)
  omega
def badW : List PV := [.non, .int 3, .tup [.int 3, .tup []], .str "space", .lst [], .dic false [] []]
theorem s_bad (o : OkRw ω) (k : ∀ w ∈ badW, ∀ ω', OkRw ω' → Q w ω') : Sat (F__law_bad_space G [.row] ω) Q E := by
  simp only [F__law_bad_space, t__law_bad_space, dens, den, dv, N__law_bad_space]
  simp [-List.map_map, -List.map_drop, -List.map_tail, -List.map_take, -Bool.exists_bool, -Bool.forall_bool, drop_map, take_map, tail_map]
  exact s_pick (by simp) (by simp) o k
theorem bad_known : w ∈ badW → known G w = true ∧ isOb 0 w = false := by
  intro h
  simp only [badW, List.mem_cons, List.not_mem_nil, or_false] at h
  rcases h with rfl | rfl | rfl | rfl | rfl | rfl <;> simp
theorem x_check_space (S : Sp0 G) (h : known G w = true) (h2 : isOb 0 w = false) : F_check_space G [w] ω = .exn 8 w ω := by
  rw [m_check_space S h, h2]; rfl
theorem x_apart_lines (S : Sp0 G) (h : known G w = true) (h2 : isOb 0 w = false) : F_apart_lines G [w] ω = .exn 8 w ω := by
  refine sat_is ?_
  simp only [F_apart_lines, t_apart_lines, dens, den, dv, N_apart_lines]
  simp [-List.map_map, -List.map_drop, -List.map_tail, -List.map_take, -Bool.exists_bool, -Bool.forall_bool, drop_map, take_map, tail_map, x_check_space S h h2]
theorem x_is_plane (S : Sp0 G) (h : known G w = true) (h2 : isOb 0 w = false) : F_is_plane G [w] ω = .exn 8 w ω := by
  refine sat_is ?_
  simp only [F_is_plane, t_is_plane, dens, den, dv, N_is_plane]
  simp [-List.map_map, -List.map_drop, -List.map_tail, -List.map_take, -Bool.exists_bool, -Bool.forall_bool, drop_map, take_map, tail_map, x_check_space S h h2]
theorem x_size_of (S : Sp0 G) (h : known G w = true) (h2 : isOb 0 w = false) : F_size_of G [w] ω = .exn 8 w ω := by
  refine sat_is ?_
  simp only [F_size_of, t_size_of, dens, den, dv, N_size_of]
  simp [-List.map_map, -List.map_drop, -List.map_tail, -List.map_take, -Bool.exists_bool, -Bool.forall_bool, drop_map, take_map, tail_map, x_is_plane S h h2]
theorem x_dual (S : Sp0 G) (h : known G w = true) (h2 : isOb 0 w = false) : F_dual G [w] ω = .exn 8 w ω := by
  refine sat_is ?_
  simp only [F_dual, t_dual, dens, den, dv, N_dual]
  simp [-List.map_map, -List.map_drop, -List.map_tail, -List.map_take, -Bool.exists_bool, -Bool.forall_bool, drop_map, take_map, tail_map, x_size_of S h h2]
theorem x_line_through (S : Sp0 G) (h : SpOk n L D) (hk : known G p = true) (hp : within 0 (n - 1) p = false) : F_line_through G [spc n L D, .int 0, p] ω = .exn 13 p ω := by
  refine sat_is ?_
  have := h.lin.lo
  have h1 : (0 : Int) ≤ n - 1 := by omega
  simp only [F_line_through, t_line_through, dens, den, dv, N_line_through]
  simp [-List.map_map, -List.map_drop, -List.map_tail, -List.map_take, -Bool.exists_bool, -Bool.forall_bool, drop_map, take_map, tail_map, m_check_space' S, m_check_point S, hk, hp, h1]
  intro z
  omega
theorem x_lines_on (S : Sp0 G) (hk : known G p = true) (hp : within 0 (n - 1) p = false) : F_lines_on G [spc n L D, p] ω = .exn 13 p ω := by
  refine sat_is ?_
  simp only [F_lines_on, t_lines_on, dens, den, dv, N_lines_on]
  simp [-List.map_map, -List.map_drop, -List.map_tail, -List.map_take, -Bool.exists_bool, -Bool.forall_bool, drop_map, take_map, tail_map, m_check_space' S, m_check_point S, hk, hp]
theorem x_are_on_line (S : Sp0 G) (hk : kn G p = true) (hp : isSet (n - 1) p = false) : F_are_on_line G [spc n L D, p] ω = .exn 14 p ω := by
  refine sat_is ?_
  simp only [F_are_on_line, t_are_on_line, dens, den, dv, N_are_on_line]
  simp [-List.map_map, -List.map_drop, -List.map_tail, -List.map_take, -Bool.exists_bool, -Bool.forall_bool, drop_map, take_map, tail_map, m_check_space' S, m_check_set S hk, hp]
theorem x_without (S : Sp0 G) (hk : kn G p = true) (hp : isSet (n - 1) p = false) : F_without G [spc n L D, p] ω = .exn 14 p ω := by
  refine sat_is ?_
  simp only [F_without, t_without, dens, den, dv, N_without]
  simp [-List.map_map, -List.map_drop, -List.map_tail, -List.map_take, -Bool.exists_bool, -Bool.forall_bool, drop_map, take_map, tail_map, m_check_space' S, m_check_set S hk, hp]
def reprOkB (ps : List PV) : Bool := match reprP [.tup ps] with
  | some (.str s) => PyData.strOk s
  | _ => false
theorem eqB_str (s : Str) (h : PyData.strOk s = true) : eqB (.str s) (.str s) = some true := by simp [eqB, okn, h, pd, PyData.eqv]
theorem repr_same {K : PV → Prop} (h : reprOkB ps = true) (k : ∀ s : Str, PyData.strOk s = true → K (.str s)) : OptS (reprP [.tup ps]) K := by
  unfold reprOkB at h
  cases e : reprP [.tup ps] with
  | none => rw [e] at h; cases h
  | some r =>
    rw [e] at h
    cases r <;> first | (cases h; done) | exact k _ h
mutual
theorem eqv_pd : ∀ p : PV, PyData.eqv (pd p) (pd p) = true
  | .non => by simp [pd, PyData.eqv]
  | .bl b => by simp [pd, PyData.eqv]
  | .int i => by simp [pd, PyData.eqv]
  | .str s => by simp [pd, PyData.eqv]
  | .tup ps => by simp [pd, PyData.eqv, eqv_pdL ps]
  | .lst ps => by simp [pd, PyData.eqv, eqv_pdL ps]
  | .dic _ _ _ => by simp [pd, PyData.eqv]
  | .obj _ _ => by simp [pd, PyData.eqv]
  | .raw _ => by simp [pd, PyData.eqv]
  | .fn _ => by simp [pd, PyData.eqv]
  | .row => by simp [pd, PyData.eqv]
  | .rng _ _ => by simp [pd, PyData.eqv]
theorem eqv_pdL : ∀ ps : List PV, PyData.eqvAll (pdL ps) (pdL ps) = true
  | [] => by simp [pdL, PyData.eqvAll]
  | p :: ps => by simp [pdL, PyData.eqvAll, eqv_pd p, eqv_pdL ps]
end
theorem eqB_self (h : okn 60 p = true) : eqB p p = some true := by
  unfold eqB
  rw [h]
  simp [eqv_pd]
theorem repr_two {K : Bool → Prop} (h : reprOkB ps = true) (k : K true) : OptS (reprP [.tup ps]) fun r => OptS (reprP [.tup ps]) fun r' => OptS (eqB r r') K := by
  unfold reprOkB at h
  cases e : reprP [.tup ps] with
  | none => rw [e] at h; cases h
  | some r =>
    rw [e] at h
    cases r <;> first | (cases h; done) | skip
    simp only [optS_some, eqB_str _ h]
    exact k
@[simp] theorem lookN {α : Type} {k a : Nat} {b : α} {l : List (Nat × α)} : List.lookup k ((a, b) :: l) = if k = a then some b else List.lookup k l := by
  simp only [List.lookup]
  by_cases h : k = a
  · simp [h]
  · rw [if_neg h, show (k == a) = false by simp [h]]
theorem eqB_w {s : Str} {p : PV} (hs : PyData.strOk s = true) (hp : okn 59 p = true) : eqB (.tup [.str s, p]) (.tup [.str s, p]) = some true := eqB_self (by simp [okn, oknL, hs, hp])
@[simp] theorem okn_int {k : Nat} {i : Int} : okn k (.int i) = true := by simp [okn]
@[simp] theorem okn_tupI {k : Nat} {l : List Int} : okn (k + 1) (tupI l) = true := by
  show okn (k + 1) (.tup (l.map .int)) = true
  simp only [okn, oknL_int, Nat.add_sub_cancel]
  simp
end
end GP
-- MP
set_option maxRecDepth 100000
set_option maxHeartbeats 400000
namespace GP
open PySem PySem.Spec PyProof.Rows L2
structure Pla (n : Int) (L : List (List Int)) : Prop where
  lin : Lin n L
  meet : ∀ l ∈ L, ∀ m ∈ L, ∃ x, x ∈ l ∧ x ∈ m
  three : ∀ l ∈ L, 3 ≤ l.length
  two : 2 ≤ L.length
theorem apartL_none : ∀ {L : List (List Int)}, apartL L = none ↔ L.Pairwise fun l m => ∃ x, x ∈ l ∧ x ∈ m
  | [] => by simp [apartL]
  | l :: L => by
    simp only [apartL, List.pairwise_cons]
    cases e : L.find? fun m => !(l.any fun x => decide (x ∈ m)) with
    | some m =>
      have h1 := List.find?_some e
      have h2 := List.mem_of_find?_eq_some e
      simp only [reduceCtorEq, false_iff, not_and]
      intro h
      obtain ⟨x, h3, h4⟩ := h m h2
      simp at h1
      exact absurd h4 (h1 x h3)
    | none =>
      have h1 := List.find?_eq_none.mp e
      rw [apartL_none (L := L)]
      refine ⟨fun h => ⟨fun m hm => ?_, h⟩, fun h => h.2⟩
      have := h1 m hm
      simpa using this
theorem isPlaneB_iff {n : Int} {L : List (List Int)} (h : Lin n L) : isPlaneB L = true ↔ Pla n L := by
  unfold isPlaneB
  simp only [Bool.and_eq_true, decide_eq_true_eq, List.all_eq_true, Option.isNone_iff_eq_none, apartL_none]
  constructor
  · rintro ⟨⟨h1, h2⟩, h3⟩
    refine ⟨h, fun l hl m hm => ?_, fun l hl => h2 l hl, h1⟩
    by_cases e : l = m
    · subst e
      obtain ⟨a, _, _, ha, _⟩ := two_of (h.ok l hl).2.2 (h.ok l hl).2.1
      exact ⟨a, ha, ha⟩
    · obtain ⟨i, hi, ei⟩ := List.mem_iff_getElem.mp hl
      obtain ⟨j, hj, ej⟩ := List.mem_iff_getElem.mp hm
      have p := List.pairwise_iff_getElem.mp h3
      rcases Nat.lt_trichotomy i j with c | c | c
      · have := p i j hi hj c; rwa [ei, ej] at this
      · subst c; exact absurd (ei ▸ ej ▸ rfl) e
      · obtain ⟨x, h4, h5⟩ := p j i hj hi c
        rw [ei] at h5; rw [ej] at h4
        exact ⟨x, h5, h4⟩
  · intro p
    refine ⟨⟨p.two, fun l hl => p.three l hl⟩, ?_⟩
    refine List.Pairwise.imp_of_mem (R := fun _ _ => True) (fun {l m} hl hm _ => p.meet l hl m hm) ?_
    exact List.pairwise_of_forall fun _ _ => trivial
section
variable {n : Int} {L : List (List Int)} {l m : List Int} {a b p : Int}
def on (L : List (List Int)) (p : Int) : List (List Int) := L.filter fun l => decide (p ∈ l)
theorem mem_on : l ∈ on L p ↔ l ∈ L ∧ p ∈ l := by simp [on]
theorem Lin.nodup (h : Lin n L) (hl : l ∈ L) : l.Nodup := (h.ok l hl).2.1.imp fun h => by omega
theorem Pla.onl (h : Pla n L) (hp : 0 ≤ p ∧ p < n) (hl : l ∈ L) (np : p ∉ l) : (on L p).length = l.length := by
  have ok := (h.lin.ok l hl).1
  have ne : ∀ x ∈ l, p ≠ x := fun x hx z => np (z ▸ hx)
  have at_ : ∀ x ∈ l, lineT L p x ∈ L ∧ p ∈ lineT L p x ∧ x ∈ lineT L p x := fun x hx => h.lin.lineT hp (ok x hx) (ne x hx)
  have perm : (l.map (lineT L p)).Perm (on L p) := by
    rw [List.perm_ext_iff_of_nodup]
    · intro m
      rw [List.mem_map, mem_on]
      constructor
      · rintro ⟨x, hx, rfl⟩
        exact ⟨(at_ x hx).1, (at_ x hx).2.1⟩
      · rintro ⟨h1, h2⟩
        obtain ⟨x, h3, h4⟩ := h.meet m h1 l hl
        exact ⟨x, h4, h.lin.lineT_uniq (ne x h4) h1 h2 h3⟩
    · show List.Pairwise _ _
      rw [List.pairwise_map]
      refine List.Pairwise.imp_of_mem (fun {x y} hx hy q z => ?_) (h.lin.nodup hl)
      have h1 := at_ x hx
      have h2 := at_ y hy
      have : lineT L p x = l := h.lin.un _ h1.1 l hl x y q h1.2.2 (z ▸ h2.2.2) hx hy
      exact np (this ▸ h1.2.1)
    · exact h.lin.nd.filter _
  rw [← perm.length_eq, List.length_map]
theorem other_of {l : List Int} (h : 2 ≤ l.length) (nd : l.Nodup) (c : Int) : ∃ x ∈ l, x ≠ c := by
  match l, h, nd with
  | x :: y :: l, _, nd =>
    by_cases e : x = c
    · exact ⟨y, by simp, fun z => (List.nodup_cons.mp nd).1 (by simp [e, z])⟩
    · exact ⟨x, by simp, e⟩
theorem third_of {l : List Int} (h : 3 ≤ l.length) (nd : l.Nodup) (c d : Int) : ∃ x ∈ l, x ≠ c ∧ x ≠ d := by
  match l, h, nd with
  | x :: y :: z :: l, _, nd =>
    have n1 := (List.nodup_cons.mp nd).1
    have n2 := (List.nodup_cons.mp (List.nodup_cons.mp nd).2).1
    simp at n1 n2
    by_cases e1 : x ≠ c ∧ x ≠ d
    · exact ⟨x, by simp, e1⟩
    · by_cases e2 : y ≠ c ∧ y ≠ d
      · exact ⟨y, by simp, e2⟩
      · refine ⟨z, by simp, ?_⟩
        omega
theorem Pla.out (h : Pla n L) (hl : l ∈ L) (hm : m ∈ L) (ne : l ≠ m) : ∃ x y, x ∈ l ∧ x ∉ m ∧ y ∈ m ∧ y ∉ l := by
  obtain ⟨c, h1, h2⟩ := h.meet l hl m hm
  have h3 := h.three l hl
  have h4 := h.three m hm
  obtain ⟨x, hx, xc⟩ := other_of (l := l) (by omega) (h.lin.nodup hl) c
  obtain ⟨y, hy, yc⟩ := other_of (l := m) (by omega) (h.lin.nodup hm) c
  exact ⟨x, y, hx, fun z => ne (h.lin.un l hl m hm x c xc hx h1 z h2), hy, fun z => ne (h.lin.un l hl m hm y c yc z h1 hy h2)⟩
theorem Pla.same (h : Pla n L) (hl : l ∈ L) (hm : m ∈ L) : l.length = m.length := by
  by_cases ne : l = m
  · rw [ne]
  obtain ⟨x, y, hx, xm, hy, yl⟩ := h.out hl hm ne
  have rx := (h.lin.ok l hl).1 x hx
  have ry := (h.lin.ok m hm).1 y hy
  have xy : x ≠ y := fun z => xm (z ▸ hy)
  have hk := h.lin.lineT rx ry xy
  obtain ⟨z, hz, zx, zy⟩ := third_of (h.three _ hk.1) (h.lin.nodup hk.1) x y
  have rz := (h.lin.ok _ hk.1).1 z hz
  have zl : z ∉ l := fun q => yl (h.lin.un _ hk.1 l hl z x zx hz hk.2.1 q hx ▸ hk.2.2)
  have zm : z ∉ m := fun q => xm (h.lin.un _ hk.1 m hm z y zy hz hk.2.2 q hy ▸ hk.2.1)
  rw [← h.onl rz hl zl, h.onl rz hm zm]
theorem Pla.off (h : Pla n L) (hp : 0 ≤ p ∧ p < n) : ∃ l ∈ L, p ∉ l := by
  obtain ⟨l, m, hl, hm, ne⟩ : ∃ l m, l ∈ L ∧ m ∈ L ∧ l ≠ m := by
    have h2 := h.two
    have nd := h.lin.nd
    match L, h2, nd with
    | l :: m :: L, _, nd => exact ⟨l, m, by simp, by simp, fun z => (List.nodup_cons.mp nd).1 (by simp [z])⟩
  by_cases p1 : p ∈ l
  · by_cases p2 : p ∈ m
    · obtain ⟨x, y, hx, xm, hy, yl⟩ := h.out hl hm ne
      have rx := (h.lin.ok l hl).1 x hx
      have ry := (h.lin.ok m hm).1 y hy
      have xy : x ≠ y := fun z => xm (z ▸ hy)
      have hk := h.lin.lineT rx ry xy
      refine ⟨_, hk.1, fun q => ?_⟩
      have px : p ≠ x := fun z => xm (z ▸ p2)
      exact yl (h.lin.un _ hk.1 l hl p x px q hk.2.1 p1 hx ▸ hk.2.2)
    · exact ⟨m, hm, p2⟩
  · exact ⟨l, hl, p1⟩
theorem Pla.onk (h : Pla n L) (hp : 0 ≤ p ∧ p < n) (hl : l ∈ L) : (on L p).length = l.length := by
  obtain ⟨m, hm, pm⟩ := h.off hp
  rw [h.onl hp hm pm, h.same hm hl]
theorem len_flat {α β : Type} {f : α → List β} {c : Nat} : ∀ {l : List α}, (∀ x ∈ l, (f x).length = c) → (l.flatMap f).length = l.length * c
  | [], _ => by simp
  | x :: l, h => by
    rw [List.flatMap_cons, List.length_append, h x (by simp), len_flat fun y hy => h y (by simp [hy]), List.length_cons, Nat.add_mul]
    omega
theorem len_but {α : Type} [DecidableEq α] {l : List α} (nd : l.Nodup) {x : α} (hx : x ∈ l) : (l.filter fun y => decide (y ≠ x)).length = l.length - 1 := by
  have p : l.Perm (x :: l.filter fun y => decide (y ≠ x)) := by
    rw [List.perm_ext_iff_of_nodup nd (List.nodup_cons.mpr ⟨by simp, nd.filter _⟩)]
    intro y
    simp only [List.mem_cons, List.mem_filter, decide_eq_true_eq]
    by_cases e : y = x
    · subst e; simp [hx]
    · simp [e]
  have := p.length_eq
  simp only [List.length_cons] at this
  omega
theorem Pla.points (h : Pla n L) (hl : l ∈ L) : n.toNat = 1 + l.length * (l.length - 1) := by
  have n2 := h.lin.lo
  have h0 : (0 : Int) ≤ 0 ∧ 0 < n := by omega
  have p : (rgI 0 n).Perm (0 :: (on L 0).flatMap fun m => m.filter fun y => decide (y ≠ 0)) := by
    rw [List.perm_ext_iff_of_nodup (rgI_asc.imp fun h => by omega)]
    · intro y
      rw [mem_rgI]
      simp only [List.mem_cons, List.mem_flatMap, mem_on, List.mem_filter, decide_eq_true_eq]
      constructor
      · intro hy
        by_cases e : y = 0
        · exact .inl e
        · have := h.lin.lineT h0 hy (Ne.symm e)
          exact .inr ⟨_, ⟨this.1, this.2.1⟩, this.2.2, e⟩
      · rintro (rfl | ⟨m, ⟨h1, h2⟩, h3, h4⟩)
        · exact h0
        · exact (h.lin.ok m h1).1 y h3
    · rw [List.nodup_cons]
      refine ⟨by simp, ?_⟩
      show List.Pairwise _ _
      rw [List.pairwise_flatMap]
      refine ⟨fun m hm => (h.lin.nodup (mem_on.mp hm).1).filter _, ?_⟩
      refine List.Pairwise.imp_of_mem (fun {m k} hm hk ne y hy z hz e => ?_) (h.lin.nd.filter _)
      subst e
      obtain ⟨m1, m2⟩ := mem_on.mp hm
      obtain ⟨k1, k2⟩ := mem_on.mp hk
      simp only [List.mem_filter, decide_eq_true_eq] at hy hz
      exact ne (h.lin.un m m1 k k1 y 0 hy.2 hy.1 m2 hz.1 k2)
  have := p.length_eq
  rw [rgI_len, List.length_cons, len_flat (c := l.length - 1)] at this
  · rw [h.onk h0 hl] at this
    omega
  · intro m hm
    obtain ⟨m1, m2⟩ := mem_on.mp hm
    rw [len_but (h.lin.nodup m1) m2, h.same m1 hl]
theorem Pla.lines (h : Pla n L) (hl : l ∈ L) : L.length = 1 + l.length * (l.length - 1) := by
  have ok := (h.lin.ok l hl).1
  have p : L.Perm (l :: l.flatMap fun x => (on L x).filter fun m => decide (m ≠ l)) := by
    rw [List.perm_ext_iff_of_nodup h.lin.nd]
    · intro m
      simp only [List.mem_cons, List.mem_flatMap, List.mem_filter, mem_on, decide_eq_true_eq]
      constructor
      · intro hm
        by_cases e : m = l
        · exact .inl e
        · obtain ⟨x, h1, h2⟩ := h.meet m hm l hl
          exact .inr ⟨x, h2, ⟨hm, h1⟩, e⟩
      · rintro (rfl | ⟨x, h1, ⟨h2, h3⟩, h4⟩)
        · exact hl
        · exact h2
    · rw [List.nodup_cons]
      refine ⟨by simp, ?_⟩
      show List.Pairwise _ _
      rw [List.pairwise_flatMap]
      refine ⟨fun x hx => (h.lin.nd.filter _).filter _, ?_⟩
      refine List.Pairwise.imp_of_mem (fun {x y} hx hy ne m hm k hk e => ?_) (h.lin.nodup hl)
      subst e
      simp only [List.mem_filter, mem_on, decide_eq_true_eq] at hm hk
      exact hm.2 (h.lin.un m hm.1.1 l hl x y ne hm.1.2 hk.1.2 hx hy)
  have := p.length_eq
  rw [List.length_cons, len_flat (c := l.length - 1)] at this
  · omega
  · intro x hx
    have nd : (on L x).Nodup := h.lin.nd.filter _
    rw [len_but nd (mem_on.mpr ⟨hl, hx⟩), h.onk (ok x hx) hl]
theorem Pla.count (h : Pla n L) : (L.length : Int) = n := by
  have n2 := h.lin.lo
  obtain ⟨l, hl⟩ : ∃ l, l ∈ L := by
    have h2 := h.two
    cases L with
    | nil => simp at h2
    | cons l L => exact ⟨l, by simp⟩
  have h1 := h.points hl
  have h2 := h.lines hl
  omega
def dl (L : List (List Int)) (p : Int) : List Int := (L.zipIdx.filter fun z => decide (p ∈ z.1)).map fun z => (z.2 : Int)
theorem dualL_eq : dualL n L = (rgI 0 n).map (dl L) := rfl
theorem mem_dl {i : Int} : i ∈ dl L p ↔ ∃ k : Nat, i = k ∧ ∃ h : k < L.length, p ∈ L[k] := by
  simp only [dl, List.mem_map, List.mem_filter, decide_eq_true_eq, Prod.exists, List.mk_mem_zipIdx_iff_getElem?]
  constructor
  · rintro ⟨l, k, ⟨h1, h2⟩, rfl⟩
    obtain ⟨h3, rfl⟩ := List.getElem?_eq_some_iff.mp h1
    exact ⟨k, rfl, h3, h2⟩
  · rintro ⟨k, rfl, h1, h2⟩
    exact ⟨L[k], k, ⟨List.getElem?_eq_getElem h1, h2⟩, rfl⟩
theorem dl_asc : (dl L p).Pairwise (· < ·) := by
  unfold dl
  rw [List.pairwise_map]
  refine List.Pairwise.filter _ ?_
  have : (L.zipIdx.map Prod.snd).Pairwise (· < ·) := by
    rw [List.zipIdx_map_snd]
    exact List.pairwise_lt_range'
  rw [List.pairwise_map] at this
  exact this.imp fun h => by omega
theorem dl_len : (dl L p).length = (on L p).length := by
  have : (L.zipIdx.filter fun z => decide (p ∈ z.1)).map Prod.fst = L.filter fun l => decide (p ∈ l) := by
    conv => rhs; rw [← List.zipIdx_map_fst 0 L]
    rw [List.filter_map]
    rfl
  unfold dl on
  rw [← this, List.length_map, List.length_map]
theorem Pla.dual (h : Pla n L) : Lin n (dualL n L) := by
  have cnt := h.count
  have nd := h.lin.nd
  have get_inj : ∀ (i j : Nat) (hi : i < L.length) (hj : j < L.length), L[i] = L[j] → i = j := fun i j hi hj e => (List.getElem_inj nd).mp e
  have mem : ∀ {d}, d ∈ dualL n L ↔ ∃ p, (0 ≤ p ∧ p < n) ∧ d = dl L p := by
    intro d
    rw [dualL_eq, List.mem_map]
    constructor
    · rintro ⟨p, hp, rfl⟩; exact ⟨p, mem_rgI.mp hp, rfl⟩
    · rintro ⟨p, hp, rfl⟩; exact ⟨p, mem_rgI.mpr hp, rfl⟩
  have ok : ∀ p, 0 ≤ p ∧ p < n → (∀ x ∈ dl L p, 0 ≤ x ∧ x < n) ∧ (dl L p).Pairwise (· < ·) ∧ 2 ≤ (dl L p).length := by
    intro p hp
    refine ⟨fun x hx => ?_, dl_asc, ?_⟩
    · obtain ⟨k, rfl, hk, _⟩ := mem_dl.mp hx
      omega
    · obtain ⟨l, hl, _⟩ := h.off hp
      have := h.three l hl
      rw [dl_len, h.onk hp hl]
      omega
  have same : ∀ p q a b, a ≠ b → a ∈ dl L p → b ∈ dl L p → a ∈ dl L q → b ∈ dl L q → p = q := by
    intro p q a b ne h1 h2 h3 h4
    obtain ⟨i, rfl, hi, m1⟩ := mem_dl.mp h1
    obtain ⟨j, rfl, hj, m2⟩ := mem_dl.mp h2
    obtain ⟨i', e1, hi', m3⟩ := mem_dl.mp h3
    obtain ⟨j', e2, hj', m4⟩ := mem_dl.mp h4
    have e1 : i' = i := by omega
    have e2 : j' = j := by omega
    subst e1 e2
    by_cases e : p = q
    · exact e
    · have := h.lin.un _ (List.getElem_mem hi) _ (List.getElem_mem hj) p q e m1 m3 m2 m4
      have := get_inj _ _ hi hj this
      omega
  refine ⟨h.lin.lo, h.lin.hi, ?_, ?_, ?_, ?_⟩
  · intro d hd
    obtain ⟨p, hp, rfl⟩ := mem.mp hd
    exact ok p hp
  · rw [dualL_eq]
    show List.Pairwise _ _
    rw [List.pairwise_map]
    refine List.Pairwise.imp_of_mem (fun {p q} hp hq lt e => ?_) rgI_asc
    obtain ⟨a, b, ab, ha, hb⟩ := two_of (ok p (mem_rgI.mp hp)).2.2 (ok p (mem_rgI.mp hp)).2.1
    have := same p q a b (by omega) ha hb (e ▸ ha) (e ▸ hb)
    omega
  · intro d hd e he a b ne h1 h2 h3 h4
    obtain ⟨p, hp, rfl⟩ := mem.mp hd
    obtain ⟨q, hq, rfl⟩ := mem.mp he
    rw [same p q a b ne h1 h2 h3 h4]
  · intro a b h1 h2 h3
    obtain ⟨i, rfl⟩ := Int.eq_ofNat_of_zero_le h1
    obtain ⟨j, rfl⟩ := Int.eq_ofNat_of_zero_le (by omega : 0 ≤ b)
    have hi : i < L.length := by omega
    have hj : j < L.length := by omega
    obtain ⟨x, hx1, hx2⟩ := h.meet _ (List.getElem_mem hi) _ (List.getElem_mem hj)
    exact ⟨dl L x, mem.mpr ⟨x, (h.lin.ok _ (List.getElem_mem hi)).1 x hx1, rfl⟩, mem_dl.mpr ⟨i, rfl, hi, hx1⟩, mem_dl.mpr ⟨j, rfl, hj, hx2⟩⟩
end
end GP
-- D00
set_option maxRecDepth 100000
namespace GP
open PySem PySem.Spec PyProof.Rows L2
def N__law_apart : List Str := ["lines", "at", "other", "point"]
def sg__law_apart : Sg := { fn := [], mks := [], me := [], cl := [], er := [], gl := [] }
def t__law_apart_b1 : St := (.cons (.iff (.cmp .Eq (.comp (.sq (.idx (.var 0) (.var 1))) (.tst (.cmp .In (.var 3) (.var 2))) (.var 3) (.nm 3) [3]) (.lst .nil)) (.cons (.ret (.tup (.cons (.idx (.var 0) (.var 1)) (.cons (.var 2) .nil)))) .nil) .nil) .nil)
def t__law_apart_b0 : St := (.cons (.loop false (.sq (.slc (.var 0) (.so (.op .Add (.var 1) (.int 1))) .no)) (.nm 2) t__law_apart_b1 [2]) .nil)
def t__law_apart : St := (.cons (.loop false (.sq (.bi .range (.cons (.bi .len (.cons (.var 0) .nil)) .nil))) (.nm 1) t__law_apart_b0 [1, 2]) (.cons (.ret .non) .nil))
noncomputable def Γ__law_apart (G : Pg) : Gam := { fn := [], mks := [], me := [] }
noncomputable def F__law_apart (G : Pg) : Fn := bodyF N__law_apart.length (dens G (Γ__law_apart G) sg__law_apart t__law_apart).s
def cs__law_refused_k00 : List (Nat × Str) := [(6, "points"), (7, "lines"), (24, "none"), (8, "space"), (13, "point"), (14, "set"), (25, "plane")]
def N__law_wrong_lines : List Str := ["row", "points", "lines", "odd", "none", "bad", "at", "pair"]
def sg__law_wrong_lines0 : Sg := { fn := [], mks := [("Space", 0, 2)], me := [], cl := [], er := [], gl := [] }
def l__law_wrong_lines_0 : E := (.make 0 0 (.cons (.var 1) (.cons (.op .Add (.slc (.var 2) .no (.so (.var 6))) (.slc (.var 2) (.so (.op .Add (.var 6) (.int 1))) .no)) .nil)))
def l__law_wrong_lines_1 : E := (.make 0 0 (.cons (.var 1) (.cons (.op .Add (.var 2) (.lst (.cons (.var 5) .nil))) .nil)))
def l__law_wrong_lines_2 : E := (.make 0 0 (.cons (.var 1) (.cons (.var 4) .nil)))
def l__law_wrong_lines_3 : E := (.make 0 0 (.cons (.var 3) (.cons .non .nil)))
def sg__law_wrong_lines : Sg := { fn := [("_law_taken", 2), ("_law_pick", 2)], mks := [], me := [], cl := [], er := [], gl := [], rp := true, xm := fun j sc x => match j with | 0 => lamM N__law_wrong_lines sg__law_wrong_lines0 "_law_refused" l__law_wrong_lines_0 sc x | 1 => lamM N__law_wrong_lines sg__law_wrong_lines0 "_law_refused" l__law_wrong_lines_1 sc x | 2 => lamM N__law_wrong_lines sg__law_wrong_lines0 "_law_refused" l__law_wrong_lines_2 sc x | 3 => lamM N__law_wrong_lines sg__law_wrong_lines0 "_law_refused" l__law_wrong_lines_3 sc x | _ => false }
def t__law_wrong_lines : St := (.cons (.set false 3 (.call 1 (.cons (.var 0) (.cons (.lst (.cons (.int 0) (.cons (.int 1) (.cons (.int 22) (.cons .non (.cons (.bl true) .nil)))))) .nil)))) (.cons (.iff (.cmp .NotEq (.bi .repr (.cons (.ext 3) .nil)) (.bi .repr (.cons (.tup (.cons (.str "points") (.cons (.var 3) .nil))) .nil))) (.cons (.ret (.bl false)) .nil) .nil) (.cons (.set false 4 (.call 1 (.cons (.var 0) (.cons (.lst (.cons .non (.cons (.int 7) .nil))) .nil)))) (.cons (.iff (.cmp .NotEq (.ext 2) (.tup (.cons (.str "lines") (.cons (.neg (.int 1)) .nil)))) (.cons (.ret (.bl false)) .nil) .nil) (.cons (.set false 5 (.call 1 (.cons (.var 0) (.cons (.lst (.cons .non (.cons (.tup (.cons (.int 0) .nil)) (.cons (.tup .nil) (.cons (.tup (.cons (.int 0) (.cons (.var 1) .nil))) (.cons (.tup (.cons (.int 1) (.cons (.int 0) .nil))) (.cons (.lst (.cons (.int 0) (.cons (.int 1) .nil))) (.cons (.tup (.cons (.int 0) (.cons (.int 0) .nil))) (.cons (.tup (.cons (.bl true) (.cons (.int 2) .nil))) (.cons (.idx (.var 2) (.int 0)) .nil)))))))))) .nil)))) (.cons (.iff (.cmp .NotEq (.ext 1) (.tup (.cons (.str "lines") (.cons (.bi .len (.cons (.var 2) .nil)) .nil)))) (.cons (.ret (.bl false)) .nil) .nil) (.cons (.set false 6 (.call 0 (.cons (.var 0) (.cons (.bi .len (.cons (.var 2) .nil)) .nil)))) (.cons (.set false 7 (.slc (.idx (.var 2) (.var 6)) .no (.so (.int 2)))) (.cons (.ret (.cmp .Eq (.ext 0) (.tup (.cons (.str "none") (.cons (.var 7) .nil))))) .nil)))))))))
noncomputable def Γ__law_wrong_lines0 (G : Pg) : Gam := { fn := [], mks := [F_Space___init__ G], me := [] }
noncomputable def Γ__law_wrong_lines (G : Pg) : Gam := { fn := [F__law_taken G, F__law_pick G], mks := [], me := [], xd := fun j => match j with | 0 => ((den G (Γ__law_wrong_lines0 G) sg__law_wrong_lines0 l__law_wrong_lines_0).S, dLam cs__law_refused_k00 (den G (Γ__law_wrong_lines0 G) sg__law_wrong_lines0 l__law_wrong_lines_0).v) | 1 => ((den G (Γ__law_wrong_lines0 G) sg__law_wrong_lines0 l__law_wrong_lines_1).S, dLam cs__law_refused_k00 (den G (Γ__law_wrong_lines0 G) sg__law_wrong_lines0 l__law_wrong_lines_1).v) | 2 => ((den G (Γ__law_wrong_lines0 G) sg__law_wrong_lines0 l__law_wrong_lines_2).S, dLam cs__law_refused_k00 (den G (Γ__law_wrong_lines0 G) sg__law_wrong_lines0 l__law_wrong_lines_2).v) | 3 => ((den G (Γ__law_wrong_lines0 G) sg__law_wrong_lines0 l__law_wrong_lines_3).S, dLam cs__law_refused_k00 (den G (Γ__law_wrong_lines0 G) sg__law_wrong_lines0 l__law_wrong_lines_3).v) | _ => ([], fun _ _ => .bad) }
@[simp] theorem Γ__law_wrong_lines_fn (G : Pg) : (Γ__law_wrong_lines G).fn = [F__law_taken G, F__law_pick G] := rfl
@[simp] theorem Γ__law_wrong_lines0_mks (G : Pg) : (Γ__law_wrong_lines0 G).mks = [F_Space___init__ G] := rfl
@[simp] theorem Γ__law_wrong_lines_xd0 (G : Pg) : (Γ__law_wrong_lines G).xd 0 = ((den G (Γ__law_wrong_lines0 G) sg__law_wrong_lines0 l__law_wrong_lines_0).S, dLam cs__law_refused_k00 (den G (Γ__law_wrong_lines0 G) sg__law_wrong_lines0 l__law_wrong_lines_0).v) := rfl
@[simp] theorem Γ__law_wrong_lines_xd1 (G : Pg) : (Γ__law_wrong_lines G).xd 1 = ((den G (Γ__law_wrong_lines0 G) sg__law_wrong_lines0 l__law_wrong_lines_1).S, dLam cs__law_refused_k00 (den G (Γ__law_wrong_lines0 G) sg__law_wrong_lines0 l__law_wrong_lines_1).v) := rfl
@[simp] theorem Γ__law_wrong_lines_xd2 (G : Pg) : (Γ__law_wrong_lines G).xd 2 = ((den G (Γ__law_wrong_lines0 G) sg__law_wrong_lines0 l__law_wrong_lines_2).S, dLam cs__law_refused_k00 (den G (Γ__law_wrong_lines0 G) sg__law_wrong_lines0 l__law_wrong_lines_2).v) := rfl
@[simp] theorem Γ__law_wrong_lines_xd3 (G : Pg) : (Γ__law_wrong_lines G).xd 3 = ((den G (Γ__law_wrong_lines0 G) sg__law_wrong_lines0 l__law_wrong_lines_3).S, dLam cs__law_refused_k00 (den G (Γ__law_wrong_lines0 G) sg__law_wrong_lines0 l__law_wrong_lines_3).v) := rfl
noncomputable def F__law_wrong_lines (G : Pg) : Fn := bodyF N__law_wrong_lines.length (dens G (Γ__law_wrong_lines G) sg__law_wrong_lines t__law_wrong_lines).s
def N__law_refusals_k00 : List Str := ["row", "space", "points", "wrong", "point", "some", "ask", "every"]
def sg__law_refusals_k000 : Sg := { fn := [("without", 2), ("are_on_line", 2), ("lines_on", 2), ("line_through", 3), ("apart_lines", 1), ("is_plane", 1), ("size_of", 1), ("dual", 1)], mks := [], me := [], cl := [], er := [], gl := [] }
def l__law_refusals_k00_0 : E := (.call 0 (.cons (.var 1) (.cons (.slc (.var 7) (.so (.int 1)) .no) .nil)))
def l__law_refusals_k00_1 : E := (.call 0 (.cons (.var 1) (.cons (.var 5) .nil)))
def l__law_refusals_k00_2 : E := (.call 1 (.cons (.var 1) (.cons (.var 5) .nil)))
def l__law_refusals_k00_3 : E := (.call 2 (.cons (.var 1) (.cons (.var 4) .nil)))
def l__law_refusals_k00_4 : E := (.call 3 (.cons (.var 1) (.cons (.int 0) (.cons (.var 4) .nil))))
def l__law_refusals_k00_5 : E := (.callv 6 (.cons (.var 3) .nil))
def sg__law_refusals_k00 : Sg := { fn := [("_law_pick", 2), ("_law_bad_space", 1)], mks := [], me := [], cl := [], er := [], gl := [("dual", .fn "dual"), ("size_of", .fn "size_of"), ("is_plane", .fn "is_plane"), ("apart_lines", .fn "apart_lines")], rp := true, xm := fun j sc x => match j with | 0 => lamM N__law_refusals_k00 sg__law_refusals_k000 "_law_refused" l__law_refusals_k00_0 sc x | 1 => lamM N__law_refusals_k00 sg__law_refusals_k000 "_law_refused" l__law_refusals_k00_1 sc x | 2 => lamM N__law_refusals_k00 sg__law_refusals_k000 "_law_refused" l__law_refusals_k00_2 sc x | 3 => lamM N__law_refusals_k00 sg__law_refusals_k000 "_law_refused" l__law_refusals_k00_3 sc x | 4 => lamM N__law_refusals_k00 sg__law_refusals_k000 "_law_refused" l__law_refusals_k00_4 sc x | 5 => lamM N__law_refusals_k00 sg__law_refusals_k000 "_law_refused" l__law_refusals_k00_5 sc x | _ => false }
def t__law_refusals_k00_b0 : St := (.cons (.iff (.cmp .NotEq (.bi .repr (.cons (.ext 5) .nil)) (.bi .repr (.cons (.tup (.cons (.str "space") (.cons (.var 3) .nil))) .nil))) (.cons (.ret (.bl false)) .nil) .nil) .nil)
def t__law_refusals_k00 : St := (.cons (.tgt (.tup [3, 4]) (.tup (.cons (.call 1 (.cons (.var 0) .nil)) (.cons (.call 0 (.cons (.var 0) (.cons (.lst (.cons (.neg (.int 1)) (.cons (.var 2) (.cons .non (.cons (.bl true) .nil))))) .nil))) .nil)))) (.cons (.set false 5 (.call 0 (.cons (.var 0) (.cons (.lst (.cons (.lst (.cons (.int 0) .nil)) (.cons (.tup (.cons (.int 1) (.cons (.int 0) .nil))) (.cons (.tup (.cons (.var 2) .nil)) (.cons .non (.cons (.tup (.cons (.int 0) (.cons (.int 0) .nil))) (.cons (.tup (.cons (.bl true) .nil)) .nil))))))) .nil)))) (.cons (.loop false (.sq (.lst (.cons (.gl 3) (.cons (.gl 2) (.cons (.gl 1) (.cons (.gl 0) .nil)))))) (.nm 6) t__law_refusals_k00_b0 [6]) (.cons (.iff (.cmp .NotEq (.bi .repr (.cons (.ext 4) .nil)) (.bi .repr (.cons (.tup (.cons (.str "point") (.cons (.var 4) .nil))) .nil))) (.cons (.ret (.bl false)) .nil) .nil) (.cons (.iff (.cmp .NotEq (.bi .repr (.cons (.ext 3) .nil)) (.bi .repr (.cons (.tup (.cons (.str "point") (.cons (.var 4) .nil))) .nil))) (.cons (.ret (.bl false)) .nil) .nil) (.cons (.iff (.cmp .NotEq (.bi .repr (.cons (.ext 2) .nil)) (.bi .repr (.cons (.tup (.cons (.str "set") (.cons (.var 5) .nil))) .nil))) (.cons (.ret (.bl false)) .nil) .nil) (.cons (.iff (.cmp .NotEq (.bi .repr (.cons (.ext 1) .nil)) (.bi .repr (.cons (.tup (.cons (.str "set") (.cons (.var 5) .nil))) .nil))) (.cons (.ret (.bl false)) .nil) .nil) (.cons (.set false 7 (.bi .tuple (.cons (.bi .range (.cons (.var 2) .nil)) .nil))) (.cons (.ret (.cmp .Eq (.ext 0) (.tup (.cons (.str "points") (.cons (.int 1) .nil))))) .nil)))))))))
noncomputable def Γ__law_refusals_k000 (G : Pg) : Gam := { fn := [F_without G, F_are_on_line G, F_lines_on G, F_line_through G, F_apart_lines G, F_is_plane G, F_size_of G, F_dual G], mks := [], me := [] }
noncomputable def Γ__law_refusals_k00 (G : Pg) : Gam := { fn := [F__law_pick G, F__law_bad_space G], mks := [], me := [], xd := fun j => match j with | 0 => ((den G (Γ__law_refusals_k000 G) sg__law_refusals_k000 l__law_refusals_k00_0).S, dLam cs__law_refused_k00 (den G (Γ__law_refusals_k000 G) sg__law_refusals_k000 l__law_refusals_k00_0).v) | 1 => ((den G (Γ__law_refusals_k000 G) sg__law_refusals_k000 l__law_refusals_k00_1).S, dLam cs__law_refused_k00 (den G (Γ__law_refusals_k000 G) sg__law_refusals_k000 l__law_refusals_k00_1).v) | 2 => ((den G (Γ__law_refusals_k000 G) sg__law_refusals_k000 l__law_refusals_k00_2).S, dLam cs__law_refused_k00 (den G (Γ__law_refusals_k000 G) sg__law_refusals_k000 l__law_refusals_k00_2).v) | 3 => ((den G (Γ__law_refusals_k000 G) sg__law_refusals_k000 l__law_refusals_k00_3).S, dLam cs__law_refused_k00 (den G (Γ__law_refusals_k000 G) sg__law_refusals_k000 l__law_refusals_k00_3).v) | 4 => ((den G (Γ__law_refusals_k000 G) sg__law_refusals_k000 l__law_refusals_k00_4).S, dLam cs__law_refused_k00 (den G (Γ__law_refusals_k000 G) sg__law_refusals_k000 l__law_refusals_k00_4).v) | 5 => ((den G (Γ__law_refusals_k000 G) sg__law_refusals_k000 l__law_refusals_k00_5).S, dLam cs__law_refused_k00 (den G (Γ__law_refusals_k000 G) sg__law_refusals_k000 l__law_refusals_k00_5).v) | _ => ([], fun _ _ => .bad) }
@[simp] theorem Γ__law_refusals_k00_fn (G : Pg) : (Γ__law_refusals_k00 G).fn = [F__law_pick G, F__law_bad_space G] := rfl
@[simp] theorem sg__law_refusals_k00_gl : sg__law_refusals_k00.gl = ([("dual", .fn "dual"), ("size_of", .fn "size_of"), ("is_plane", .fn "is_plane"), ("apart_lines", .fn "apart_lines")] : List (Str × PV)) := rfl
@[simp] theorem Γ__law_refusals_k000_fn (G : Pg) : (Γ__law_refusals_k000 G).fn = [F_without G, F_are_on_line G, F_lines_on G, F_line_through G, F_apart_lines G, F_is_plane G, F_size_of G, F_dual G] := rfl
@[simp] theorem Γ__law_refusals_k00_xd0 (G : Pg) : (Γ__law_refusals_k00 G).xd 0 = ((den G (Γ__law_refusals_k000 G) sg__law_refusals_k000 l__law_refusals_k00_0).S, dLam cs__law_refused_k00 (den G (Γ__law_refusals_k000 G) sg__law_refusals_k000 l__law_refusals_k00_0).v) := rfl
@[simp] theorem Γ__law_refusals_k00_xd1 (G : Pg) : (Γ__law_refusals_k00 G).xd 1 = ((den G (Γ__law_refusals_k000 G) sg__law_refusals_k000 l__law_refusals_k00_1).S, dLam cs__law_refused_k00 (den G (Γ__law_refusals_k000 G) sg__law_refusals_k000 l__law_refusals_k00_1).v) := rfl
@[simp] theorem Γ__law_refusals_k00_xd2 (G : Pg) : (Γ__law_refusals_k00 G).xd 2 = ((den G (Γ__law_refusals_k000 G) sg__law_refusals_k000 l__law_refusals_k00_2).S, dLam cs__law_refused_k00 (den G (Γ__law_refusals_k000 G) sg__law_refusals_k000 l__law_refusals_k00_2).v) := rfl
@[simp] theorem Γ__law_refusals_k00_xd3 (G : Pg) : (Γ__law_refusals_k00 G).xd 3 = ((den G (Γ__law_refusals_k000 G) sg__law_refusals_k000 l__law_refusals_k00_3).S, dLam cs__law_refused_k00 (den G (Γ__law_refusals_k000 G) sg__law_refusals_k000 l__law_refusals_k00_3).v) := rfl
@[simp] theorem Γ__law_refusals_k00_xd4 (G : Pg) : (Γ__law_refusals_k00 G).xd 4 = ((den G (Γ__law_refusals_k000 G) sg__law_refusals_k000 l__law_refusals_k00_4).S, dLam cs__law_refused_k00 (den G (Γ__law_refusals_k000 G) sg__law_refusals_k000 l__law_refusals_k00_4).v) := rfl
@[simp] theorem Γ__law_refusals_k00_xd5 (G : Pg) : (Γ__law_refusals_k00 G).xd 5 = ((den G (Γ__law_refusals_k000 G) sg__law_refusals_k000 l__law_refusals_k00_5).S, dLam cs__law_refused_k00 (den G (Γ__law_refusals_k000 G) sg__law_refusals_k000 l__law_refusals_k00_5).v) := rfl
noncomputable def F__law_refusals_k00 (G : Pg) : Fn := bodyF N__law_refusals_k00.length (dens G (Γ__law_refusals_k00 G) sg__law_refusals_k00 t__law_refusals_k00).s
def N_law_k00 : List Str := ["script", "row", "points", "lines", "space", "a", "b", "due", "turn", "some", "is_one", "apart", "other", "turned", "point", "ask", "less", "line", "number"]
def sg_law_k000 : Sg := { fn := [("size_of", 1), ("dual", 1)], mks := [], me := [], cl := [], er := [], gl := [] }
def l_law_k00_0 : E := (.callv 15 (.cons (.var 4) .nil))
def sg_law_k00 : Sg := { fn := [("_law_refusals", 3), ("_law_wrong_lines", 3), ("_law_alike", 2), ("without", 2), ("_law_less_points", 3), ("_law_some", 3), ("dual", 1), ("size_of", 1), ("is_plane", 1), ("apart_lines", 1), ("_law_apart", 1), ("are_on_line", 2), ("_law_within", 2), ("_law_taken", 2), ("_law_pick", 2), ("line_through", 3), ("_law_through", 3), ("lines_on", 2), ("_law_shuffled", 2), ("_law_space", 2)], mks := [("Space", 0, 2)], me := [], cl := [], er := [], gl := [("dual", .fn "dual"), ("size_of", .fn "size_of")], rp := false, xm := fun j sc x => match j with | 0 => lamM N_law_k00 sg_law_k000 "_law_refused" l_law_k00_0 sc x | _ => false }
def t_law_k00_s11 : St := (.cons (.ret (.and (.ac (.call 1 (.cons (.var 1) (.cons (.var 2) (.cons (.var 3) .nil)))) (.a1 (.call 0 (.cons (.var 1) (.cons (.var 4) (.cons (.var 2) .nil)))))))) .nil)
def t_law_k00_s10 : St := (.cons (.iff (.cmp .Gt (.op .Sub (.var 2) (.bi .len (.cons (.var 9) .nil))) (.int 1)) (.cons (.par2 false 16 (.call 3 (.cons (.var 4) (.cons (.var 9) .nil))) false 7 (.call 4 (.cons (.var 2) (.cons (.var 3) (.cons (.var 9) .nil))))) (.cons (.iff (.not (.call 2 (.cons (.lst (.cons (.fld "points" (.var 16)) (.cons (.fld "lines" (.var 16)) .nil))) (.cons (.lst (.cons (.idx (.var 7) (.int 0)) (.cons (.bi .tuple (.cons (.idx (.var 7) (.int 1)) .nil)) .nil))) .nil)))) (.cons (.ret (.bl false)) .nil) .nil) .nil)) .nil) t_law_k00_s11)
def t_law_k00_s9 : St := (.cons (.set false 9 (.call 5 (.cons (.var 1) (.cons (.var 2) (.cons (.int 4) .nil))))) t_law_k00_s10)
def t_law_k00_b0 : St := (.cons (.set false 13 (.op .Add (.var 13) (.lst (.cons (.bi .tuple (.cons (.comp (.sq (.bi .range (.cons (.var 2) .nil))) (.tst (.cmp .In (.var 14) (.idx (.var 3) (.var 18)))) (.var 18) (.nm 18) [18]) .nil)) .nil)))) .nil)
def t_law_k00_b1 : St := (.cons (.iff (.cmp .NotEq (.ext 0) (.tup (.cons (.str "plane") (.cons (.neg (.int 1)) .nil)))) (.cons (.ret (.bl false)) .nil) .nil) .nil)
def t_law_k00_s8 : St := (.cons (.iff (.var 10) (.cons (.iff (.or (.oc (.not (.call 2 (.cons (.call 7 (.cons (.var 4) .nil)) (.cons (.op .Sub (.bi .len (.cons (.idx (.var 3) (.int 0)) .nil)) (.int 1)) .nil)))) (.o1 (.cmp .NotEq (.bi .len (.cons (.var 3) .nil)) (.var 2))))) (.cons (.ret (.bl false)) .nil) .nil) (.cons (.par2 false 12 (.call 6 (.cons (.var 4) .nil)) false 13 (.lst .nil)) (.cons (.loop false (.sq (.bi .range (.cons (.var 2) .nil))) (.nm 14) t_law_k00_b0 [14]) (.cons (.iff (.not (.call 2 (.cons (.lst (.cons (.fld "points" (.var 12)) (.cons (.fld "lines" (.var 12)) .nil))) (.cons (.lst (.cons (.var 2) (.cons (.bi .tuple (.cons (.bi .sorted (.cons (.var 13) .nil)) .nil)) .nil))) .nil)))) (.cons (.ret (.bl false)) .nil) .nil) .nil)))) (.cons (.loop false (.sq (.lst (.cons (.gl 1) (.cons (.gl 0) .nil)))) (.nm 15) t_law_k00_b1 [15]) .nil)) t_law_k00_s9)
def t_law_k00_s7 : St := (.cons (.iff (.not (.call 2 (.cons (.lst (.cons (.call 9 (.cons (.var 4) .nil)) (.cons (.call 8 (.cons (.var 4) .nil)) .nil))) (.cons (.lst (.cons (.var 11) (.cons (.var 10) .nil))) .nil)))) (.cons (.ret (.bl false)) .nil) .nil) t_law_k00_s8)
def t_law_k00_s6 : St := (.cons (.set false 10 (.and (.ac (.cmp .Is (.var 11) .non) (.ac (.cmp .Gt (.bi .len (.cons (.var 3) .nil)) (.int 1)) (.a1 (.cmp .Gt (.bi .min (.cons (.comp (.sq (.var 3)) .yes (.bi .len (.cons (.var 17) .nil)) (.nm 17) [17]) .nil)) (.int 2))))))) t_law_k00_s7)
def t_law_k00_s5 : St := (.cons (.set false 11 (.call 10 (.cons (.var 3) .nil))) t_law_k00_s6)
def t_law_k00_b2 : St := (.cons (.set false 9 (.call 5 (.cons (.var 1) (.cons (.var 2) (.cons (.int 3) .nil))))) (.cons (.iff (.cmp .Eq (.call 13 (.cons (.var 1) (.cons (.int 2) .nil))) (.int 0)) (.cons (.set false 9 (.bi .tuple (.cons (.comp (.sq (.call 14 (.cons (.var 1) (.cons (.var 3) .nil)))) (.tst (.cmp .Gt (.call 13 (.cons (.var 1) (.cons (.int 4) .nil))) (.int 0))) (.var 14) (.nm 14) [14]) .nil))) .nil) .nil) (.cons (.set false 10 (.or (.oc (.cmp .Lt (.bi .len (.cons (.var 9) .nil)) (.int 3)) (.o1 (.cmp .NotEq (.comp (.sq (.var 3)) (.tst (.call 12 (.cons (.var 9) (.cons (.var 17) .nil)))) (.var 17) (.nm 17) [17]) (.lst .nil)))))) (.cons (.iff (.not (.call 2 (.cons (.call 11 (.cons (.var 4) (.cons (.var 9) .nil))) (.cons (.var 10) .nil)))) (.cons (.ret (.bl false)) .nil) .nil) .nil))))
def t_law_k00_s4 : St := (.cons (.loop false (.sq (.bi .range (.cons (.int 6) .nil))) (.nm 8) t_law_k00_b2 [8, 9, 10, 14]) t_law_k00_s5)
def t_law_k00_b3 : St := (.cons (.iff (.not (.call 2 (.cons (.call 17 (.cons (.var 4) (.cons (.var 5) .nil))) (.cons (.comp (.sq (.var 3)) (.tst (.cmp .In (.var 5) (.var 17))) (.var 17) (.nm 17) [17]) .nil)))) (.cons (.ret (.bl false)) .nil) .nil) (.cons (.set false 6 (.call 13 (.cons (.var 1) (.cons (.var 2) .nil)))) (.cons (.set false 7 (.ite (.cmp .Eq (.var 5) (.var 6)) .non (.call 16 (.cons (.var 3) (.cons (.var 5) (.cons (.var 6) .nil)))))) (.cons (.iff (.not (.call 2 (.cons (.lst (.cons (.call 15 (.cons (.var 4) (.cons (.var 5) (.cons (.var 6) .nil)))) (.cons (.call 15 (.cons (.var 4) (.cons (.var 6) (.cons (.var 5) .nil)))) .nil))) (.cons (.lst (.cons (.var 7) (.cons (.var 7) .nil))) .nil)))) (.cons (.ret (.bl false)) .nil) .nil) .nil))))
def t_law_k00_s3 : St := (.cons (.loop false (.sq (.bi .range (.cons (.var 2) .nil))) (.nm 5) t_law_k00_b3 [5, 6, 7]) t_law_k00_s4)
def t_law_k00_s2 : St := (.cons (.iff (.not (.call 2 (.cons (.lst (.cons (.fld "points" (.var 4)) (.cons (.fld "lines" (.var 4)) .nil))) (.cons (.lst (.cons (.var 2) (.cons (.bi .tuple (.cons (.var 3) .nil)) .nil))) .nil)))) (.cons (.ret (.bl false)) .nil) .nil) t_law_k00_s3)
def t_law_k00_s1 : St := (.cons (.set false 4 (.make 0 0 (.cons (.var 2) (.cons (.call 14 (.cons (.var 1) (.cons (.lst (.cons (.var 3) (.cons (.bi .tuple (.cons (.var 3) .nil)) (.cons (.call 18 (.cons (.var 1) (.cons (.var 3) .nil))) .nil)))) .nil))) .nil)))) t_law_k00_s2)
def t_law_k00 : St := (.cons (.tgt (.tup [2, 3]) (.call 19 (.cons (.var 1) (.cons (.int 13) .nil)))) t_law_k00_s1)
noncomputable def Γ_law_k000 (G : Pg) : Gam := { fn := [F_size_of G, F_dual G], mks := [], me := [] }
noncomputable def Γ_law_k00 (G : Pg) : Gam := { fn := [F__law_refusals_k00 G, F__law_wrong_lines G, F__law_alike G 60, F_without G, F__law_less_points G, F__law_some G, F_dual G, F_size_of G, F_is_plane G, F_apart_lines G, F__law_apart G, F_are_on_line G, F__law_within G, F__law_taken G, F__law_pick G, F_line_through G, F__law_through G, F_lines_on G, F__law_shuffled G, F__law_space G], mks := [F_Space___init__ G], me := [], xd := fun j => match j with | 0 => ((den G (Γ_law_k000 G) sg_law_k000 l_law_k00_0).S, dLam cs__law_refused_k00 (den G (Γ_law_k000 G) sg_law_k000 l_law_k00_0).v) | _ => ([], fun _ _ => .bad) }
@[simp] theorem Γ_law_k00_fn (G : Pg) : (Γ_law_k00 G).fn = [F__law_refusals_k00 G, F__law_wrong_lines G, F__law_alike G 60, F_without G, F__law_less_points G, F__law_some G, F_dual G, F_size_of G, F_is_plane G, F_apart_lines G, F__law_apart G, F_are_on_line G, F__law_within G, F__law_taken G, F__law_pick G, F_line_through G, F__law_through G, F_lines_on G, F__law_shuffled G, F__law_space G] := rfl
@[simp] theorem Γ_law_k00_mks (G : Pg) : (Γ_law_k00 G).mks = [F_Space___init__ G] := rfl
@[simp] theorem sg_law_k00_gl : sg_law_k00.gl = ([("dual", .fn "dual"), ("size_of", .fn "size_of")] : List (Str × PV)) := rfl
@[simp] theorem Γ_law_k000_fn (G : Pg) : (Γ_law_k000 G).fn = [F_size_of G, F_dual G] := rfl
@[simp] theorem Γ_law_k00_xd0 (G : Pg) : (Γ_law_k00 G).xd 0 = ((den G (Γ_law_k000 G) sg_law_k000 l_law_k00_0).S, dLam cs__law_refused_k00 (den G (Γ_law_k000 G) sg_law_k000 l_law_k00_0).v) := rfl
noncomputable def d_law_k00 (G : Pg) : MS := (dens G (Γ_law_k00 G) sg_law_k00 t_law_k00).s
end GP
-- HJ
set_option maxRecDepth 100000
set_option maxHeartbeats 4000000
namespace GP
open PySem PySem.Spec PyProof.Rows L2 PySem.W PySem.Calls
def soft (o : Obj) : Bool := match o.data with
  | .seq _ _ => true
  | .fields v => v.isEmpty
  | _ => false
abbrev tabO : Obj := { cls := .none, data := .fields #[] }
def H1st (K : PySem.W.Frag) (T : List Addr) (a : Addr) (o : Obj) (xs : List V) : Hp := fun b =>
  if b ∈ T then some (.tbl #[]) else if b = a ∧ K.lookup a = none then some (.frz o (.lst xs)) else none
section
variable {P : Program} {w : World} {K : PySem.W.Frag} {T : List Addr} {a : Addr} {xs : List V} {h : Heap} {vs : List Value}
theorem h1_soft (hT : ∀ b ∈ T, h.get? b = some tabO) {oa : Obj} (ha : h.get? a = some oa) (sa : soft oa = true) {b : Addr} {o : Obj} (e : h.get? b = some o) (n : soft o = false) : H1st K T a oa xs b = none := by
  unfold H1st
  by_cases c : b ∈ T
  · rw [hT b c] at e
    cases e; cases n
  · rw [if_neg c]
    by_cases c2 : b = a ∧ K.lookup a = none
    · rw [c2.1, ha] at e
      cases e
      rw [sa] at n; cases n
    · rw [if_neg c2]
theorem h1_hard (hT : ∀ b ∈ T, h.get? b = some tabO) {oa : Obj} (ha : h.get? a = some oa) (sa : soft oa = true) {b : Addr} {o : Obj} (e : h.get? b = some o) (n : soft o = false) : (hidT h (H1st K T a oa xs)).get? b = some o :=
  hidT_get e (h1_soft hT ha sa e n)
theorem h1_K (nT : ∀ b ∈ T, K.lookup b = none) {oa : Obj} {b : Addr} {o : Obj} (e : K.lookup b = some o) : H1st K T a oa xs b = none := by
  unfold H1st
  rw [if_neg (fun z => by rw [nT b z] at e; cases e), if_neg (fun z => by rw [z.1, z.2] at e; cases e)]
end
theorem law_enter {P : Program} {w : World} {K : PySem.W.Frag} {mg mb : Str → Option Value} {k : Nat} {fa a : Addr} {cs : List (Addr × Addr)} {fd : FuncData} {x : Str} {sp : Sp} {s : Shared} {vs : List Value} {ns : List Int}
    (inK : K.In s.heap) (gN : s.heap.Ns mainGlobals mg) (gB : s.heap.Ns builtinsNs mb) (bb : ∀ x : Str, x ≠ "__name__" → mb x = bootBuiltins x) (nl : s.heap.NoLimit) (g0 : s.gens = #[])
    (hT : ∀ p ∈ cs, s.heap.get? p.2 = some tabO) (nT : ∀ p ∈ cs, K.lookup p.2 = none) (hC : ∀ p ∈ cs, PySem.W.CodeHd s.heap p.1 p.2)
    (hm : ∃ (bm : Addr) (ob : Obj), mg "__builtins__" = some (.ref bm) ∧ bm ≠ builtinsNs ∧ s.heap.get? bm = some ob ∧ ob.cls = .type "module" ∧ ob.dict = some builtinsNs ∧ ob.data = .plain)
    (ha : s.heap.get? a = some { cls := .type "list", data := .seq vs.toArray }) (iv : IntsAre vs ns) (lv : ns.length ≤ sizeLine) (rm : Room k callerA)
    (F : ∀ base : Heap, K.In base → base.Ns mainGlobals mg → (∀ p ∈ cs, LamX.TabB base mg p.1 p.2) → FnG true P w K mg base k fa fd [x] sp) (bd : ∀ (s : Shared) (u : Value), BindsTo s fd ⟨[u], []⟩ [(x, u)])
    (pr : ∀ H : Hp, (∀ p ∈ cs, H p.2 = some (.tbl #[])) → (∀ b o, H b = some o → (∃ p ∈ cs, b = p.2) ∨ b = a) → ScR K H a (ns.map V.int) → sp [.ref a] H (fun v _ => v = .bl true) fun _ _ _ => False) :
    codeAny (model P w) callerA (.call (.ref fa) ⟨[.ref a], []⟩) (fun r s' => r = .ok (.ret (.bool true)) ∧ OldK s.heap s'.heap ∧ s'.os = s.os ∧ AllBare s'.gens) s := by
  let T := cs.map (·.2)
  let oa : Obj := { cls := .type "list", data := .seq vs.toArray }
  let H := H1st K T a oa (ns.map V.int)
  have tT : ∀ b ∈ T, s.heap.get? b = some tabO := fun b hb => by
    obtain ⟨p, hp, rfl⟩ := List.mem_map.mp hb; exact hT p hp
  have tK : ∀ b ∈ T, K.lookup b = none := fun b hb => by
    obtain ⟨p, hp, rfl⟩ := List.mem_map.mp hb; exact nT p hp
  have inT : ∀ p ∈ cs, p.2 ∈ T := fun p hp => List.mem_map.mpr ⟨p, hp, rfl⟩
  have hard : ∀ {b : Addr} {o : Obj}, s.heap.get? b = some o → soft o = false → (hidT s.heap H).get? b = some o := fun e n => h1_hard tT ha rfl e n
  have nsd : ∀ {b : Addr} {m : Str → Option Value}, s.heap.Ns b m → (hidT s.heap H).Ns b m := fun ⟨o, es, ep, e, d, r⟩ => ⟨o, es, ep, hard e (by unfold soft; rw [d]), d, r⟩
  have bK : K.In (hidT s.heap H) := fun b o e => hidT_get (inK b o e) (h1_K tK e)
  have md : L2.Mod K mg (hidT s.heap H) := by
    obtain ⟨mc, l1, l2⟩ := nl
    exact ⟨bK, nsd gN, ⟨mb, nsd gB, bb⟩, ⟨mc, nsd l1, l2⟩⟩
  have hok : HOk P w H s.heap := fun b o e => by
    have e' : H1st K T a oa (ns.map V.int) b = some o := e
    unfold H1st at e'
    by_cases c : b ∈ T
    · rw [if_pos c] at e'; cases e'; exact tT b c
    · rw [if_neg c] at e'
      by_cases c2 : b = a ∧ K.lookup a = none
      · rw [if_pos c2] at e'; cases e'
        rw [c2.1]
        exact ⟨ha, by rw [List.length_map]; exact lv, vs, _, vals_ints iv, ha⟩
      · rw [if_neg c2] at e'; cases e'
  have tabs : ∀ p ∈ cs, LamX.TabB (hidT s.heap H) mg p.1 p.2 := fun p hp => by
    have tp := hT p hp
    constructor
    · obtain ⟨o, us, file, tf, fl, tg, inF, text, tt, e1, r1, r2, r3, rs⟩ := hC p hp
      refine ⟨o, us, file, tf, fl, tg, inF, text, tt, hard e1 ?_, r1, r2, r3, rs⟩
      unfold soft
      rw [r2]
      show us.isEmpty = false
      cases q : us.isEmpty with
      | false => rfl
      | true =>
        rw [Array.isEmpty_iff.mp q] at r3
        simp at r3
    · obtain ⟨bm, ob, b1, b2, b3, b4, b5, b6⟩ := hm
      refine ⟨bm, ob, b1, b2, fun q => ?_, fun q => ?_, hard b3 (by unfold soft; rw [b6]), b4, b5, b6⟩
      · obtain ⟨o, es, ep, e, d, _⟩ := gN
        rw [q, e] at b3; cases b3
        rw [d] at b6; cases b6
      · rw [q, tp] at b3; cases b3; cases b6
    · intro z
      obtain ⟨o, es, ep, e, d, _⟩ := gN
      rw [z, tp] at e; cases e; cases d
  have sc : ScR K H a (ns.map V.int) := by
    cases q : K.lookup a with
    | none =>
      refine .inl ⟨oa, ?_⟩
      show H1st K T a oa (ns.map V.int) a = _
      unfold H1st
      rw [if_neg (fun z => by have := tT a z; rw [ha] at this; cases this), if_pos ⟨rfl, q⟩]
    | some o =>
      have := inK a o q
      rw [ha] at this; cases this
      exact .inr (.inr ⟨_, vs.toArray, _, q, rfl, rfl, rfl, by rw [List.size_toArray, iv.length]; exact lv, by simpa using vals_ints iv⟩)
  have fin := (F _ bK (nsd gN) tabs).run callerA [] s H ⟨[.ref a], []⟩ [.ref a] [.ref a] (fun v _ => v = .bl true) (fun _ _ _ => False) rm (fun _ => rfl)
    ⟨rfl, md, fun b o e => of_hidT e, Nat.le_of_eq (hidT_size _ _), trivial, fun b hb => absurd hb (List.not_mem_nil), hok, AllBare.of_eq g0⟩ (bd s (.ref a)) (.cons rfl .nil)
    (pr H (fun p hp => if_pos (inT p hp)) (fun b o e => by
      have e' : H1st K T a oa (ns.map V.int) b = some o := e
      unfold H1st at e'
      by_cases c : b ∈ T
      · obtain ⟨p, hp, z⟩ := List.mem_map.mp c
        exact .inl ⟨p, hp, z.symm⟩
      · rw [if_neg c] at e'
        by_cases c2 : b = a ∧ K.lookup a = none
        · exact .inr c2.1
        · rw [if_neg c2] at e'; cases e') sc)
  refine codeAny_mono fin fun r s' q => ?_
  rcases r with e | fl
  · obtain ⟨_, _, _, _, _, _, _, _, _, _, _, _, z⟩ := q
    exact z.elim
  · cases fl with
    | ret u =>
      obtain ⟨v, H', so, sb, un, ok', rv, hv⟩ := q
      have hv : v = .bl true := hv
      subst hv
      obtain rfl : u = Value.bool true := rv
      have stay : ∀ b o, b ∉ T → s.heap.get? b = some o → s'.heap.get? b = some o := fun b o nb e => by
        by_cases c2 : b = a ∧ K.lookup a = none
        · have hb : H b = some (.frz oa (.lst (ns.map V.int))) := by
            show H1st K T a oa (ns.map V.int) b = _
            unfold H1st
            rw [if_neg nb, if_pos c2]
          have e2 : s'.heap.get? b = some oa := (ok' b _ (un.frzs b _ _ hb)).1
          rw [c2.1, ha] at e; cases e
          exact e2
        · have hb : H b = none := by
            show H1st K T a oa (ns.map V.int) b = _
            unfold H1st
            rw [if_neg nb, if_neg c2]
          exact un.keep b o e hb (fun z => absurd z List.not_mem_nil) (by simp)
      have more : ∀ p ∈ cs, ∃ m : Array Value, s'.heap.get? p.2 = some { cls := .none, data := .fields m } := fun p hp => by
        obtain ⟨m, z⟩ := un.tbls p.2 #[] (if_pos (inT p hp))
        exact ⟨_, ok' p.2 _ z⟩
      refine ⟨rfl, ⟨fun b o e => ?_, fun b o e => ?_⟩, so, sb⟩
      · by_cases c : b ∈ T
        · obtain ⟨p, hp, rfl⟩ := List.mem_map.mp c
          obtain ⟨m, em⟩ := more p hp
          rw [hT p hp] at e; cases e
          exact .inr (.inl ⟨((hC p hp).tab (hT p hp)).isCodeTable, rfl, #[], m, rfl, by rw [Array.empty_append]; exact em⟩)
        · exact .inl (stay b o c e)
      · by_cases c : b ∈ T
        · obtain ⟨p, hp, rfl⟩ := List.mem_map.mp c
          obtain ⟨m, em⟩ := more p hp
          exact ⟨_, em⟩
        · exact ⟨o, stay b o c e⟩
    | _ => exact False.elim q
def LawG (P : Program) (w : World) (K : PySem.W.Frag) (k n : Nat) (x : Str) (mg : Str → Option Value) (fa : Addr) (h : Heap) : Prop :=
  ∃ (fd : FuncData) (cs : List (Addr × Addr)) (sp : Sp), (∀ p ∈ cs, h.get? p.2 = some tabO) ∧ (∀ p ∈ cs, K.lookup p.2 = none) ∧ (∀ p ∈ cs, PySem.W.CodeHd h p.1 p.2) ∧ (∀ (s : Shared) (u : Value), BindsTo s fd ⟨[u], []⟩ [(x, u)]) ∧
    (∀ (H : Hp) (a : Addr) (ns : List Int), ns.length ≤ n → (∀ p ∈ cs, H p.2 = some (.tbl #[])) → (∀ b o, H b = some o → (∃ p ∈ cs, b = p.2) ∨ b = a) → ScR K H a (ns.map V.int) → sp [.ref a] H (fun v _ => v = .bl true) fun _ _ _ => False) ∧
    ∀ base : Heap, K.In base → base.Ns mainGlobals mg → (∀ p ∈ cs, LamX.TabB base mg p.1 p.2) → FnG true P w K mg base k fa fd [x] sp
theorem walk_G {l : PySem.W.OpenLaw} {n k : Nat} {q : Program} {loose : List Str} {XP : (Str → Option Value) → Heap → Prop} {YP : World → Heap → Prop} {d : DefRec} {x : Str} (h1 : l.most = some n) (h2 : n ≤ sizeLine) (h3 : d.params.defaults = []) (hr : Room k callerA)
    (hY : ∀ (w : World) (mg : Str → Option Value) (fa : Addr) (h : Heap), YP w h → h.Ns mainGlobals mg → mg d.name = some (.ref fa) → ∃ K : PySem.W.Frag, K.In h ∧ LawG l.prog w K k n x mg fa h) : PySem.W.WalkO q loose XP YP l.row.toRowW d [] (fun f vs => PySem.call f vs) := by
  refine Att.attach_callB h1 h3 fun w s0 s mg mb fa o pm cd doc a vs ns G Y _ _ _ em ea ei el _ eg => ?_
  obtain ⟨K, inK, fd, cs, sp, t1, t2, t3, t4, t5, t6⟩ := hY w mg fa _ Y G.T.g em
  exact law_enter inK G.T.g G.T.b G.T.builtins G.T.nolimit eg t1 t2 t3 G.T.bmain ea ei (Nat.le_trans el h2) hr t6 t4 fun H e1 e2 e3 => t5 H a ns el e1 e2 e3
end GP
-- HK
set_option maxRecDepth 100000
set_option maxHeartbeats 4000000
namespace GP
open PySem PySem.Spec PyProof.Rows L2
def rowS (n i : Nat) : Sto := (List.replicate n Sl.no).set i (.sh .row)
def lawF (n i : Nat) (k0 : Int) (d : MS) (ns : List Int) : R PV := endF (d (rowS n i) ⟨ns, 0, k0, 0⟩)
def spL (G : Pg) (n i : Nat) (k0 : Int) (d : MS) : Sp := fun vs H Q _ => ∃ a ns ω, vs = [.ref a] ∧ ScR G.K H a (ns.map V.int) ∧ LamX.Tabs G.T H ∧ lawF n i k0 d ns = .ok (.bl true) ω ∧ ∀ H', Q (.bl true) H'
def rowM (N : List Str) (sc : Scope) (i : Nat) (k0 : Int) : Stmt → Bool
  | .Assign [.Name y _] (.List [.Name z _, .Constant (.int a) _ _, .Constant (.int b) _ _, .Constant (.int c) _ _] _) _ => (N[0]? == some z) && visB sc z && plainN z && (N[i]? == some y) && locB sc y && (a == 0) && (b == k0) && (c == 0)
  | _ => false
section
variable {G : Pg} {k : Nat} {N : List Str} {x qual : Str} {params : Arguments} {st : Stmt} {rest : List Stmt} {scope : Scope} {dvs : List V} {kws : List (Str × V)} {f : Addr} {fd : FuncData} {W : List Nat} {d : MS} {i : Nat} {k0 : Int} {px : Str}
theorem row_start {H : Hp} {a p : Addr} {ns : List Int} (hi : i < N.length) (hp : H p = none) (sc : ScR G.K H a (ns.map V.int)) (tb : LamX.Tabs G.T H) (h0 : 0 ≤ k0) (h1 : k0 < 2147483647) (hN : 0 < N.length) :
    SR G (some p) (fun _ => none) (clr (upd H p (.lst [.ref a, .int 0, .int k0, .int 0]))) (rowS N.length i) ⟨ns, 0, k0, 0⟩ ((L2.start N [V.ref a]).set i (some (.ref p))) (upd H p (.lst [.ref a, .int 0, .int k0, .int 0])) := by
  have sm : Same H (upd H p (.lst [.ref a, .int 0, .int k0, .int 0])) := same_upd hp
  have at_ : ∀ {j : Nat} {s : Sl}, (rowS N.length i)[j]? = some s → (j = i ∧ s = .sh .row) ∨ s = .no := by
    intro j s e
    unfold rowS at e
    by_cases c : j = i
    · subst c
      rw [List.getElem?_set_self (by rw [List.length_replicate]; exact hi)] at e
      cases e; exact .inl ⟨rfl, rfl⟩
    · rw [List.getElem?_set_ne (Ne.symm c), List.getElem?_replicate] at e
      split at e
      · cases e; exact .inr rfl
      · cases e
  have noW : ∀ {j : Nat} {v : PV}, (rowS N.length i)[j]? ≠ some (.ow v) := fun e => by
    rcases at_ e with ⟨_, z⟩ | z <;> cases z
  refine ⟨⟨fun b u e n r => (of_clr e).1, fun b e => by rw [clr_clr]; exact e⟩, fun b ps e => (of_clr e).2 ps rfl, fun b u e n => (by cases e), ?_, ?_, fun j v b e1 _ => absurd e1 noW, fun j l v u b e1 _ _ _ => absurd e1 noW, ?_, tb.ext sm⟩
  · unfold rowS L2.start
    simp
    omega
  · intro j s y e1 e2
    rcases at_ e1 with ⟨rfl, rfl⟩ | rfl
    · have hl : j < (L2.start N [V.ref a]).length := by unfold L2.start; simp; omega
      rw [List.getElem?_set_self hl] at e2
      cases e2
      exact ⟨.ref p, rfl, by simp [Rep]⟩
    · trivial
  · exact ⟨Int.le_refl _, h0, h1, a, upd_same, sc.hold fun o z => sm _ _ z⟩
theorem law_body (F : FunD G.K x qual params (st :: rest) scope dvs kws f fd) (S : FnScope N [px] scope) (hM : rowM N scope i k0 st = true) (h0 : 0 ≤ k0) (h1 : k0 < 2147483647)
    (hb : ∀ cd, (∃ oc od osl, G.K.lookup f = some ⟨oc, od, .func fd, osl⟩ ∧ fd.code = cd) → ∀ X Ex, BX G k ⟨cd, qual ++ ".<locals>.", true⟩ N scope X Ex → DSs X G Ex rest W d) : FnG true G.P G.w G.K G.mg G.base (k + 1) f fd [px] (spL G N.length i k0 d) := by
  obtain ⟨oc, od, dV, kV, doc, pm, an, cdv, ct, osl, rfl, lk, hcd, _, _⟩ := F.ex
  unfold rowM at hM
  split at hM
  rotate_left
  · cases hM
  simp only [Bool.and_eq_true, beq_iff_eq] at hM
  obtain ⟨⟨⟨⟨⟨⟨⟨m1, m2⟩, m3⟩, m4⟩, m5⟩, rfl⟩, m7⟩, rfl⟩ := hM
  subst m7
  refine ⟨fun vs H Q E h => ?_, fun A outer s H args us vs Q E hr hgd e0 hbt hv h => ?_⟩
  · obtain ⟨a, ns, ω, rfl, _⟩ := h
    rfl
  · obtain ⟨a, ns, ω, rfl, sc, tb, hF, hQ⟩ := h
    have hi : i < N.length := (List.getElem?_eq_some_iff.mp m4).1
    have hN : 0 < N.length := (List.getElem?_eq_some_iff.mp m1).1
    refine LamX.run_ofS (N := N) lk hcd S hr e0 hbt hv rfl fun hr' => ⟨_, pss_cons (ps_set (i := i) S.nd m4 (loc_of m5) (pe_lst (pa_cons (pe_var m1 (vis_of m2) (plain_of m3).1 (plain_of m3).2) (pa_cons pe_int (pa_cons pe_int (pa_cons pe_int pa_nil rfl) rfl) rfl) rfl)) rfl (.inl rfl)) (hb cdv ⟨_, _, _, lk, rfl⟩ _ E ⟨⟨⟨rfl, rfl, rfl, rfl, rfl, rfl, S.nd, hr'⟩, rfl, rfl, ?_, rfl, rfl, hgd⟩, ?_, ?_, ?_, S.kind⟩), ?_⟩
    · exact passes_call (W := fun cls d _ H => E cls d H) (takes_of rfl rfl rfl rfl) (fun _ _ _ _ h => h)
    · exact takes_of rfl rfl rfl rfl
    · exact passes_of rfl
    · exact fun _ => rfl
    · refine ⟨.ref a, ?_, by show 4 ≤ sizeLine; decide, fun p hp => ?_⟩
      · unfold L2.start
        simp
      · refine ⟨some p, _, _, _, _, row_start hi hp sc tb h0 h1 hN, ?_⟩
        unfold lawF at hF
        revert hF
        generalize d (rowS N.length i) ⟨ns, 0, _, 0⟩ = rr
        cases rr with
        | bad => intro z; cases z
        | exn t p ω1 => intro z; cases z
        | ok z ω1 =>
          obtain ⟨fl, ρ1⟩ := z
          cases fl with
          | nx => intro z; cases z
          | brk => intro z; cases z
          | cnt => intro z; cases z
          | ret q =>
            intro z
            cases z
            intro H' v _ _ _ rep
            simp only [Rep] at rep
            subst rep
            exact hQ H'
end
end GP
-- HL
set_option maxRecDepth 100000
set_option maxHeartbeats 4000000
namespace GP
open PySem PySem.Spec PyProof.Rows L2
def oexB (K : PySem.W.Frag) (C : Addr) : Bool := (match K.lookup C with
  | some ⟨.type "type", _, .cls cd, sl⟩ => (match cd.mro, sl.toList with
    | .ref c :: bm, [_, _, _, _, some (.builtin n), _] => c == C && n == "ValueError.__new__" && cd.hasDict && !cd.hasDel && PySem.HandSPX.refsVE bm
    | _, _ => false)
  | _ => false) && decide (PySem.W.findIn K (.ref C) "__setattr__" = some (some (.builtin "object.__setattr__"))) && decide (PySem.W.subIn K (.ref C) (.type "BaseException") = some true) && decide (PySem.W.typeIn K (.ref C) = some (.type "type")) && PySem.W.keepIn K (.ref C)
theorem oexB_ok {K : PySem.W.Frag} {C : Addr} (h : oexB K C = true) : OexC K C := by
  unfold oexB at h
  simp only [Bool.and_eq_true, decide_eq_true_eq] at h
  obtain ⟨⟨⟨⟨q, h2⟩, h3⟩, h4⟩, h5⟩ := h
  refine ⟨?_, h2, h3, h4, h5⟩
  split at q
  · rename_i dd cd sl e1
    split at q
    · rename_i c bm k0 k1 k2 k3 n k5 e2 e3
      simp only [Bool.and_eq_true, beq_iff_eq, Bool.not_eq_true'] at q
      obtain ⟨⟨⟨⟨rfl, rfl⟩, q3⟩, q4⟩, q5⟩ := q
      cases cd with
      | mk nm bs mro ns qn hd sn sub ab col del =>
        cases sl with
        | mk l =>
          have e2 : mro = _ := e2
          have e3 : l = _ := e3
          have q3 : hd = true := q3
          have q4 : del = false := q4
          subst e2 e3 q3 q4
          exact ⟨nm, qn, ns, bs, bm, sn, sub, ab, col, dd, k0, k1, k2, k3, k5, e1, q5⟩
    · cases q
  · cases q
def clsB (K : PySem.W.Frag) (C : Addr) : Bool := PySem.W.plainGet K C Str.empty && PySem.W.hasDictIn K C && PySem.W.plainOver K C && decide (PySem.W.findIn K (.ref C) "__setattr__" = some (some (.builtin "object.__setattr__")))
theorem clsB_ok {K : PySem.W.Frag} {C : Addr} (h : clsB K C = true) : Cls K C := by
  unfold clsB at h
  simp only [Bool.and_eq_true, decide_eq_true_eq] at h
  exact ⟨h.1.1.1, h.1.1.2, h.1.2, h.2⟩
def clA (K : PySem.W.Frag) (nms : List Str) (t : Nat) : Addr := He.ga K (nms.getD t "")
def isiB (K : PySem.W.Frag) (nms : List Str) (ts : List Nat) : Bool :=
  decide (PySem.W.specialIn K (.builtin "object.__class__") "__get__" = some (some (.builtin "getset_descriptor.__get__"))) && decide (PySem.W.takesIn K (.builtin "object.__class__") = some true) &&
  ts.all fun t => clsB K (clA K nms t) && decide (PySem.W.findIn K (.ref (clA K nms t)) "__class__" = some (some (.builtin "object.__class__"))) && decide (PySem.W.mroIn K (clA K nms t) (.type "object") = some true) &&
    ("NoneType" :: bNames).all (fun n => decide (PySem.W.kitOne K (.type n) (.ref (clA K nms t)) = some false)) && bNames.all (fun n => decide (PySem.W.kitOne K (.ref (clA K nms t)) (.type n) = some false)) &&
    ts.all fun t' => decide (PySem.W.kitOne K (.ref (clA K nms t')) (.ref (clA K nms t)) = some (t' == t))
def clsFB (K : PySem.W.Frag) (nms : List Str) (fls : List (List Str)) : Bool := (List.range fls.length).all fun t => (fls.getD t []).all fun f => clsB K (clA K nms t) && decide (PySem.W.findIn K (.ref (clA K nms t)) f = some none)
def mkG (P : Program) (w : World) (K : PySem.W.Frag) (mg : Str → Option Value) (base : Heap) (nms : List Str) (fls : List (List Str)) (ts : List Nat) (T : List (Addr × Str)) : Pg :=
  { P := P, w := w, K := K, mg := mg, base := base, cl := clA K nms, fl := fun t => fls.getD t [], T := T, ts := ts }
section
variable {P : Program} {w : World} {K : PySem.W.Frag} {mg : Str → Option Value} {base : Heap} {nms : List Str} {fls : List (List Str)} {ts : List Nat} {T : List (Addr × Str)}
theorem isiB_ok (h : isiB K nms ts = true) : IsiOk (mkG P w K mg base nms fls ts T) := by
  unfold isiB at h
  simp only [Bool.and_eq_true, decide_eq_true_eq, List.all_eq_true] at h
  obtain ⟨⟨h1, h2⟩, h3⟩ := h
  have m : ∀ {t}, ts.contains t = true → t ∈ ts := fun e => List.contains_iff_mem.mp e
  exact ⟨fun t ht => ⟨clsB_ok (h3 t (m ht)).1.1.1.1.1, (h3 t (m ht)).1.1.1.1.2, (h3 t (m ht)).1.1.1.2⟩, h1, h2, fun t ht n hn => (h3 t (m ht)).1.1.2 n hn, fun t ht n hn => (h3 t (m ht)).1.2 n hn, fun t t' ht ht' => (h3 t (m ht)).2 t' (m ht')⟩
theorem clsFB_ok (h : clsFB K nms fls = true) : ClsF (mkG P w K mg base nms fls ts T) := by
  unfold clsFB at h
  simp only [Bool.and_eq_true, decide_eq_true_eq, List.all_eq_true, List.mem_range] at h
  intro t f hf
  have hf : f ∈ fls.getD t [] := hf
  by_cases c : t < fls.length
  · obtain ⟨h1, h2⟩ := h t c f hf
    exact ⟨clsB_ok h1, h2⟩
  · rw [List.getD_eq_getElem?_getD, List.getElem?_eq_none (by omega)] at hf
    cases hf
end
end GP
-- HM
set_option maxRecDepth 100000
set_option maxHeartbeats 4000000
namespace GP
open PySem PySem.Spec PyProof.Rows L2
section
variable {G : Pg} {gd : Bool} {k j n t : Nat} {nm x : Str} {F : Fn} {Fs : List Fn} {l : List (Str × Nat)} {lm : List (Str × Nat × Nat)} {lg : List (Str × PV)}
theorem FnE.up {e : FEnt} (h : FnE G gd j e) (le : j ≤ k) : FnE G gd k e := by
  obtain ⟨f, fd, ps, h1, h2, h3, h4, h5⟩ := h
  exact ⟨f, fd, ps, h1, h2, h3, h4, h5.up le⟩
theorem FnE.any {e : FEnt} (h : FnE G false k e) : FnE G gd k e := by
  obtain ⟨f, fd, ps, h1, h2, h3, h4, h5⟩ := h
  exact ⟨f, fd, ps, h1, h2, h3, h4, h5.any⟩
theorem fn_nil : ∀ (f : Nat) nm n, ([] : List (Str × Nat))[f]? = some (nm, n) → FnE G gd k ⟨nm, n, ([] : List Fn).getD f badF⟩ := fun f nm n h => by simp at h
theorem fn_cons (h : FnE G gd j ⟨nm, n, F⟩) (le : j ≤ k) (r : ∀ (f : Nat) nm n, l[f]? = some (nm, n) → FnE G gd k ⟨nm, n, Fs.getD f badF⟩) : ∀ (f : Nat) nm' n', ((nm, n) :: l)[f]? = some (nm', n') → FnE G gd k ⟨nm', n', (F :: Fs).getD f badF⟩
  | 0, _, _, e => by cases e; exact h.up le
  | f + 1, _, _, e => r f _ _ e
theorem MkE.up {e : FEnt} (h : MkE G j t e) (le : j ≤ k) : MkE G k t e := by
  obtain ⟨f, fd, ps, h1, h2, h3, h4, h5⟩ := h
  exact ⟨f, fd, ps, h1, h2, h3, h4, h5.mono le⟩
theorem mk_nil : ∀ (f : Nat) nm t n, ([] : List (Str × Nat × Nat))[f]? = some (nm, t, n) → ∃ k', k = k' + 1 ∧ MkE G k' t ⟨nm, n, ([] : List Fn).getD f badF⟩ := fun f nm t n h => by simp at h
theorem mk_cons (h : MkE G j t ⟨nm, n, F⟩) (le : j + 1 ≤ k) (r : ∀ (f : Nat) nm t n, lm[f]? = some (nm, t, n) → ∃ k', k = k' + 1 ∧ MkE G k' t ⟨nm, n, Fs.getD f badF⟩) : ∀ (f : Nat) nm' t' n', ((nm, t, n) :: lm)[f]? = some (nm', t', n') → ∃ k', k = k' + 1 ∧ MkE G k' t' ⟨nm', n', (F :: Fs).getD f badF⟩
  | 0, _, _, _, e => by cases e; exact ⟨k - 1, by omega, h.up (by omega)⟩
  | f + 1, _, _, _, e => r f _ _ _ e
theorem MeE.up {e : FEnt} (h : MeE G j t e) (le : j ≤ k) : MeE G k t e := by
  obtain ⟨f, fd, ps, h0, h1, h2, h3, h4, h5⟩ := h
  exact ⟨f, fd, ps, h0, h1, h2, h3, h4, h5.mono le⟩
theorem me_nil : ∀ (f : Nat) nm t n, ([] : List (Str × Nat × Nat))[f]? = some (nm, t, n) → MeE G k t ⟨nm, n, ([] : List Fn).getD f badF⟩ := fun f nm t n h => by simp at h
theorem me_cons (h : MeE G j t ⟨nm, n, F⟩) (le : j ≤ k) (r : ∀ (f : Nat) nm t n, lm[f]? = some (nm, t, n) → MeE G k t ⟨nm, n, Fs.getD f badF⟩) : ∀ (f : Nat) nm' t' n', ((nm, t, n) :: lm)[f]? = some (nm', t', n') → MeE G k t' ⟨nm', n', (F :: Fs).getD f badF⟩
  | 0, _, _, _, e => by cases e; exact h.up le
  | f + 1, _, _, _, e => r f _ _ _ e
theorem cl_nil : ∀ x t, ([] : List (Str × Nat)).contains (x, t) = true → G.mg x = some (.ref (G.cl t)) := fun x t h => by simp at h
theorem cl_cons (h : G.mg x = some (.ref (G.cl t))) (r : ∀ x t, l.contains (x, t) = true → G.mg x = some (.ref (G.cl t))) : ∀ x' t', ((x, t) :: l).contains (x', t') = true → G.mg x' = some (.ref (G.cl t')) := fun x' t' e => by
  rw [List.contains_cons, Bool.or_eq_true, beq_iff_eq] at e
  rcases e with e | e
  · cases e; exact h
  · exact r _ _ e
theorem ErrC.up (h : ErrC G j t x) (le : j ≤ k) : ErrC G k t x := ⟨h.mg, h.oe, h.nov, by
  obtain ⟨f, fd, ps, h1, h2, h3, h4⟩ := h.ini
  exact ⟨f, fd, ps, h1, h2, h3, h4.mono le⟩⟩
theorem er_nil : ∀ x t, ([] : List (Str × Nat)).contains (x, t) = true → ∃ k', k = k' + 1 ∧ ErrC G k' t x := fun x t h => by simp at h
theorem er_cons (h : ErrC G j t x) (le : j + 1 ≤ k) (r : ∀ x t, l.contains (x, t) = true → ∃ k', k = k' + 1 ∧ ErrC G k' t x) : ∀ x' t', ((x, t) :: l).contains (x', t') = true → ∃ k', k = k' + 1 ∧ ErrC G k' t' x' := fun x' t' e => by
  rw [List.contains_cons, Bool.or_eq_true, beq_iff_eq] at e
  rcases e with e | e
  · cases e; exact ⟨k - 1, by omega, h.up (by omega)⟩
  · exact r _ _ e
theorem gl_nil : ∀ (j : Nat) g, ([] : List (Str × PV))[j]? = some g → ∃ v u, G.mg g.1 = some u ∧ RelV v u ∧ ∀ ro Hv, Rep G ro Hv v g.2 := fun j g h => by simp at h
theorem gl_int {i : Int} (h : ∃ t, G.mg x = some (.int i t)) (r : ∀ (j : Nat) g, lg[j]? = some g → ∃ v u, G.mg g.1 = some u ∧ RelV v u ∧ ∀ ro Hv, Rep G ro Hv v g.2) : ∀ (j : Nat) g, ((x, PV.int i) :: lg)[j]? = some g → ∃ v u, G.mg g.1 = some u ∧ RelV v u ∧ ∀ ro Hv, Rep G ro Hv v g.2
  | 0, _, e => by
    cases e
    obtain ⟨t, h⟩ := h
    exact ⟨.int i, .int i t, h, ⟨t, rfl⟩, fun ro Hv => by simp [Rep]⟩
  | j + 1, g, e => r j g e
theorem gl_fn {a : Addr} (h : G.mg x = some (.ref a)) (r : ∀ (j : Nat) g, lg[j]? = some g → ∃ v u, G.mg g.1 = some u ∧ RelV v u ∧ ∀ ro Hv, Rep G ro Hv v g.2) : ∀ (j : Nat) g, ((x, PV.fn x) :: lg)[j]? = some g → ∃ v u, G.mg g.1 = some u ∧ RelV v u ∧ ∀ ro Hv, Rep G ro Hv v g.2
  | 0, _, e => by
    cases e
    exact ⟨.ref a, .ref a, h, rfl, fun ro Hv => by simp [Rep, h]⟩
  | j + 1, g, e => r j g e
variable {N ps : List Str} {sg : Sg} {Γ : Gam} {st : St} {params : Arguments} {body : List Stmt} {scope : Scope} {dvs : List V} {kws : List (Str × V)} {f : Addr} {fd : FuncData}
def CdOf (G : Pg) (f : Addr) (fd : FuncData) (cd : Value) : Prop := ∃ oc od osl, G.K.lookup f = some ⟨oc, od, .func fd, osl⟩ ∧ fd.code = cd
theorem fnE_of {q : Str} (D : FunD G.K x q params body scope dvs kws f fd) (hm : G.mg x = some (.ref f)) (S : FnScope N ps scope) (B : Binds G.K fd ps []) (H : ∀ cd, CdOf G f fd cd → HX G k ⟨cd, q ++ ".<locals>.", gd⟩ N sg Γ) (m : ms N sg scope st (.sts body) = true) (hl : ps.length = n) :
    FnE G gd (k + 1) ⟨x, n, bodyF N.length (dens G Γ sg st).s⟩ := by
  subst hl
  exact ⟨f, fd, ps, hm, D.kp, B, rfl, fn_body D S fun cd hc X Ex hX => ((stmt_all (H cd hc) st) scope X Ex hX).2 _ m⟩
theorem meE_of {q : Str} (D : FunD G.K x q params body scope dvs kws f fd) (C : Cls G.K (G.cl t)) (Mt : Meth G.K (G.cl t) x f) (nf : (G.fl t).contains x = false) (S : FnScope N ps scope) (B : Binds G.K fd ps []) (H : ∀ cd, HX G k ⟨cd, q ++ ".<locals>.", false⟩ N sg Γ) (m : ms N sg scope st (.sts body) = true) (hl : ps.length = n) :
    MeE G (k + 1) t ⟨x, n, bodyF N.length (dens G Γ sg st).s⟩ := by
  subst hl
  have h := fn_body (gd := false) D S fun cd hc X Ex hX => ((stmt_all (H cd) st) scope X Ex hX).2 _ m
  exact ⟨f, fd, ps, C, Mt, nf, B, rfl, h.len, fun A outer s H args us vs Q E hr => h.run A outer s H args us vs Q E hr (fun z => by cases z)⟩
theorem mkE_of {q i : Str} (D : FunD G.K i q params body scope dvs kws f fd) (hm : G.mg x = some (.ref (G.cl t))) (Mt : Mk G.K (G.cl t) f) (S : FnScope N ps scope) (B : Binds G.K fd ps []) (H : ∀ cd, HX G k ⟨cd, q ++ ".<locals>.", false⟩ N sg Γ) (m : ms N sg scope st (.sts body) = true)
    (hW : (dens G Γ sg st).W.contains 1000 = false) (hl : ps.length = n + 1) : MkE G (k + 1) t ⟨x, n, bodyI N.length t (dens G Γ sg st).s⟩ :=
  ⟨f, fd, ps, hm, Mt, B, hl, by
    rw [← hl]
    exact init_body D S (fun z => by rw [List.contains_iff_mem.mpr z] at hW; cases hW) fun cd X Ex hX => ((stmt_all (H cd) st) scope X Ex hX).2 _ m⟩
end
end GP
-- HN
set_option maxRecDepth 100000
set_option maxHeartbeats 4000000
namespace GP
open PySem PySem.Spec PyProof.Rows L2
def scopeB (N P : List Str) (sc : Scope) : Bool := decide (sc.kind = .function) && !sc.isCoroutine && !sc.isGenerator && decide N.Nodup && decide (N.take P.length = P) && P.all (fun x => locB sc x) && sc.names.all fun y => match y.2 with
  | .free => false
  | _ => true
theorem scope_ok {N P : List Str} {sc : Scope} (h : scopeB N P sc = true) : FnScope N P sc := by
  unfold scopeB at h
  simp only [Bool.and_eq_true, decide_eq_true_eq, List.all_eq_true, Bool.not_eq_true'] at h
  obtain ⟨⟨⟨⟨⟨⟨h1, h2⟩, h3⟩, h4⟩, h5⟩, h6⟩, h7⟩ := h
  refine ⟨h1, h2, h3, h4, h5, fun x hx => ?_, fun y hy z => ?_⟩
  · have := loc_of (h6 x hx)
    exact this
  · have := h7 y hy
    rw [z] at this
    cases this
def exB (sc : Scope) : List Stmt → Bool
  | [.Assign [.Attribute (.Name a _) f _] (.Name b _) _] => (a == ("self" : Str)) && (f == valueS) && (b == ("value" : Str)) && visB sc a && plainN a && visB sc b && plainN b
  | _ => false
theorem exInit {G : Pg} {k : Nat} {qual : Str} {params : Arguments} {body : List Stmt} {scope : Scope} {dvs : List V} {kws : List (Str × V)} {f : Addr} {fd : FuncData} (D : FunD G.K "__init__" qual params body scope dvs kws f fd) (S : FnScope ["self", "value"] ["self", "value"] scope) (hb : exB scope body = true) :
    FnOk G.P G.w G.K G.mg G.base (L2.CX G.P G.w) (k + 1) f fd ["self", "value"] (spEx G.K) := by
  unfold exB at hb
  split at hb
  rotate_left
  · cases hb
  simp only [Bool.and_eq_true, beq_iff_eq] at hb
  obtain ⟨⟨⟨⟨⟨⟨rfl, rfl⟩, rfl⟩, v1⟩, p1⟩, v2⟩, p2⟩ := hb
  refine D.ok S (fun vs H Q E ⟨a, C, x, e, _⟩ => by rw [e]; rfl) fun cdv A outer s H vs Q E hr h => ?_
  obtain ⟨a, C, x, rfl, oe, nov, ha, hq⟩ := h
  refine ⟨_, pss_one (ps_ost (pe_var (i := 0) rfl (vis_of v1) (plain_of p1).1 (plain_of p1).2) (pe_var (i := 1) rfl (vis_of v2) (plain_of p2).1 (plain_of p2).2)), ?_⟩
  exact ⟨x, rfl, .ref a, rfl, a, C, rfl, oe, nov, .inl ⟨ha, fun dx h1 h2 => hq dx h1 h2⟩⟩
theorem FnG.imp {gd : Bool} {P : Program} {w : World} {K : PySem.W.Frag} {mg : Str → Option Value} {base : Heap} {k : Nat} {f : Addr} {fd : FuncData} {ps : List Str} {sp sp' : Sp} (F : FnG gd P w K mg base k f fd ps sp) (i : ∀ vs H Q E, sp' vs H Q E → sp vs H Q E) : FnG gd P w K mg base k f fd ps sp' :=
  ⟨fun vs H Q E h => F.len vs H Q E (i _ _ _ _ h), fun A outer s H args us vs Q E hr hg e0 hb hv hs => F.run A outer s H args us vs Q E hr hg e0 hb hv (i _ _ _ _ hs)⟩
theorem spF_bad {G : Pg} {n : Nat} {vs : List V} {H : Hp} {Q : VK} {E : XK} (h : spF G n badF vs H Q E) : False := by
  obtain ⟨ro, V0, ps, ω, h1, h2, h3, h4, h5, h6, h7⟩ := h
  exact h7
theorem fnE_bad {G : Pg} {k n : Nat} {x q : Str} {params : Arguments} {body : List Stmt} {scope : Scope} {dvs : List V} {kws : List (Str × V)} {f : Addr} {fd : FuncData} {ps : List Str} {gd : Bool} (D : FunD G.K x q params body scope dvs kws f fd) (hm : G.mg x = some (.ref f)) (B : Binds G.K fd ps []) (hl : ps.length = n) : FnE G gd k ⟨x, n, badF⟩ :=
  ⟨f, fd, ps, hm, D.kp, B, hl, fun _ _ _ _ h => (spF_bad h).elim, fun _ _ _ _ _ _ _ _ _ _ _ _ _ _ h => (spF_bad h).elim⟩
def errB (K : PySem.W.Frag) (nms : List Str) (t : Nat) : Bool := oexB K (clA K nms t) && xfB K (clA K nms t) && decide (PySem.W.findIn K (.ref (clA K nms t)) valueS = some none) && decide (PySem.W.findIn K (.ref (clA K nms t)) "__init__" = some (some (.ref (He.fAd K ("SpaceError", some "__init__")))))
def exAll (nms : List Str) (fls : List (List Str)) (ts ids : List Nat) (cs : List (Nat × Str)) (tf : List He.Defn) (K : PySem.W.Frag) : Bool :=
  isiB K nms ts && clsFB K nms fls && ids.all (errB K nms) && decide (PySem.W.typeIn K (.ref (He.fAd K ("SpaceError", some "__init__"))) = some (.type "function")) &&
  cs.all (fun i => cs.all fun j => decide (PySem.W.exmOne K (.ref (clA K nms i.1)) (.ref (clA K nms j.1)) = some (i.1 == j.1))) && decide ((tf.map fun p => (He.cT K p).2).Nodup)
def lamT (K : PySem.W.Frag) (tf : List He.Defn) : List (Addr × Str) := tf.map fun p => ((He.cT K p).2, p.1 ++ ".<locals>." ++ "<lambda>")
structure FX (P : Program) (fa : List He.Fa) (fn : List He.DefD) (nms : List Str) (fls : List (List Str)) (ts ids : List Nat) (cs : List (Nat × Str)) (tf : List He.Defn) (w : World) (mg : Str → Option Value) (base : Heap) (K : PySem.W.Frag) : Prop where
  d : He.SaysD fa fn K
  e : exAll nms fls ts ids cs tf K = true
  inK : K.In base
  ns : base.Ns mainGlobals mg
  tb : ∀ p ∈ tf.map (He.cT K), LamX.TabB base mg p.1 p.2
section
variable {P : Program} {fa : List He.Fa} {fn : List He.DefD} {nms : List Str} {fls : List (List Str)} {ts ids : List Nat} {cs : List (Nat × Str)} {tf : List He.Defn} {w : World} {mg : Str → Option Value} {base : Heap} {K : PySem.W.Frag}
abbrev GX (P : Program) (nms : List Str) (fls : List (List Str)) (ts : List Nat) (tf : List He.Defn) (w : World) (mg : Str → Option Value) (base : Heap) (K : PySem.W.Frag) : Pg := mkG P w K mg base nms fls ts (lamT K tf)
variable (F : FX P fa fn nms fls ts ids cs tf w mg base K)
include F
theorem FX.all : (((((isiB K nms ts = true ∧ clsFB K nms fls = true) ∧ ids.all (errB K nms) = true) ∧ PySem.W.typeIn K (.ref (He.fAd K ("SpaceError", some "__init__"))) = some (.type "function")) ∧
    cs.all (fun i => cs.all fun j => decide (PySem.W.exmOne K (.ref (clA K nms i.1)) (.ref (clA K nms j.1)) = some (i.1 == j.1))) = true) ∧ (tf.map fun p => (He.cT K p).2).Nodup) := by
  have h := F.e
  unfold exAll at h
  simpa only [Bool.and_eq_true, decide_eq_true_eq] using h
theorem FX.isi : IsiOk (GX P nms fls ts tf w mg base K) := isiB_ok F.all.1.1.1.1.1
theorem FX.cls : ClsF (GX P nms fls ts tf w mg base K) := clsFB_ok F.all.1.1.1.1.2
theorem FX.glo (i : Nat) {x : Str} (h : fa[i]? = some (.glo x) := by rfl) : (GX P nms fls ts tf w mg base K).mg x = some (.ref (He.ga K x)) := He.glo_ok F.inK F.ns (F.d.fact i h)
theorem FX.free (i : Nat) {x : Str} (h : fa[i]? = some (.free x) := by rfl) : mg x = none := He.free_ok F.inK F.ns (F.d.fact i h)
theorem FX.int (i : Nat) {x : Str} {n : Int} (h : fa[i]? = some (.int x n) := by rfl) : ∃ t, (GX P nms fls ts tf w mg base K).mg x = some (.int n t) := He.int_ok F.inK F.ns (F.d.fact i h)
theorem FX.fre (i : Nat) (h : ∀ j (hj : j < freeN.length), fa[i + j]? = some (.free freeN[j])) : ∀ x ∈ freeN, (GX P nms fls ts tf w mg base K).mg x = none := fun x hx => by
  obtain ⟨j, hj, rfl⟩ := List.mem_iff_getElem.mp hx
  exact F.free (i + j) (h j hj)
theorem FX.err (t : Nat) (ht : t ∈ ids) {k : Nat} {q : Str} {params : Arguments} {body : List Stmt} {scope : Scope} {dvs : List V} {kws : List (Str × V)} {fd : FuncData} (D : FunD K "__init__" q params body scope dvs kws (He.fAd K ("SpaceError", some "__init__")) fd) (S : FnScope ["self", "value"] ["self", "value"] scope) (hb : exB scope body = true) (B : Binds K fd ["self", "value"] [])
    {x : Str} (hx : nms.getD t "" = x) (hm : mg x = some (.ref (He.ga K x))) : ErrC (GX P nms fls ts tf w mg base K) (k + 1) t x := by
  have h := List.all_eq_true.mp F.all.1.1.1.2 t ht
  unfold errB at h
  simp only [Bool.and_eq_true, decide_eq_true_eq] at h
  subst hx
  exact ⟨hm, oexB_ok h.1.1.1, h.1.2, _, fd, _, h.2, F.all.1.1.2, B, exInit (G := GX P nms fls ts tf w mg base K) D S hb⟩
theorem FX.tel {a en : Str} {Ng : List Str} {i : Nat} {cn : List (Str × Str)} {pg : Arguments} {bg : List Stmt} {sg : Scope} {fd : FuncData} {x : Str} {g : Addr} (D : FunD K x x pg bg sg [] [] g fd) (S : FnScope Ng [a] sg) (B : Binds K fd [a] []) (hm : mg x = some (.ref g)) (h0 : Ng[0]? = some a) (va : visB sg a = true) (hr : refM sg a en cn bg = true) (hcn : cn.map (·.2) = cs.map (·.2)) (hi : Ng[i]? = some en)
    (hle : sg.names.lookup en = some .local) (p1 : plainN en = true) (pa : plainN a = true) (px : dbgB x = true) (hids : cs.all (fun c => ids.contains c.1) = true) (hnm : cn.map (·.1) = cs.map fun c => nms.getD c.1 "") (hg : ∀ c ∈ cs, mg (nms.getD c.1 "") = some (.ref (He.ga K (nms.getD c.1 "")))) : TelE (GX P nms fls ts tf w mg base K) x cs := by
  refine ⟨a, en, Ng, sg, pg, bg, g, fd, i, cn, D, S, B, hm, h0, vis_of va, hr, hcn, hi, hle, p1, pa, px, ?_, ?_⟩
  · intro i hi j hj
    have h := List.all_eq_true.mp (List.all_eq_true.mp F.all.1.2 i hi) j hj
    exact of_decide_eq_true h
  · intro j c c' h1 h2
    have hm' := List.mem_of_getElem? h2
    have h := List.all_eq_true.mp F.all.1.1.1.2 c'.1 (List.contains_iff_mem.mp (List.all_eq_true.mp hids c' hm'))
    unfold errB at h
    simp only [Bool.and_eq_true, decide_eq_true_eq] at h
    have e : c.1 = nms.getD c'.1 "" := by
      have := congrArg (fun l => l[j]?) hnm
      simp only [List.getElem?_map, h1, h2, Option.map_some, Option.some.injEq] at this
      exact this
    rw [e]
    exact ⟨hg c' hm', xfB_ok h.1.1.2, h.1.2⟩
theorem FX.lam {x : Str} {params : Arguments} {body : List Stmt} {scope : Scope} {dvs : List V} {kws : List (Str × V)} {fd : FuncData} {cd : Value} {gd : Bool} (hx : (x, none) ∈ tf) (D : FunD K x x params body scope dvs kws (He.fAd K (x, none)) fd) (hc : CdOf (GX P nms fls ts tf w mg base K) (He.fAd K (x, none)) fd cd) : LamD (GX P nms fls ts tf w mg base K) ⟨cd, x ++ ".<locals>.", gd⟩ := by
  obtain ⟨oc, od, osl, lk, e⟩ := hc
  obtain ⟨oc', od', dV, kV, doc, pm, an, cdv, ct, osl', efd, lk', hcd, _, _⟩ := D.ex
  have hcd2 : PySem.W.codeIn K cd x = true := by
    rw [← e, efd]
    exact hcd
  obtain ⟨c, rfl⟩ := He.codeIn_ref hcd2
  have hco : He.codeOf K (x, none) = c := He.codeOf_eq lk e
  refine ⟨c, He.tabOf K c, ?_, rfl, ?_, ?_⟩
  · have := F.tb (He.cT K (x, none)) (List.mem_map.mpr ⟨_, hx, rfl⟩)
    rw [show He.cT K (x, none) = (c, He.tabOf K c) by unfold He.cT; rw [hco]] at this
    exact this
  · refine List.mem_map.mpr ⟨(x, none), hx, ?_⟩
    show ((He.cT K (x, none)).2, _) = _
    unfold He.cT
    rw [hco]
  · intro p hp e2
    obtain ⟨y, hy, rfl⟩ := List.mem_map.mp hp
    have e3 : (He.cT K y).2 = (He.cT K (x, none)).2 := by
      rw [show (He.cT K (x, none)).2 = He.tabOf K c by unfold He.cT; rw [hco]]
      exact e2
    have : y = (x, none) := by
      obtain ⟨i, hi, ei⟩ := List.mem_iff_getElem.mp hy
      obtain ⟨j, hj, ej⟩ := List.mem_iff_getElem.mp hx
      have nd := F.all.2
      have : i = j := by
        refine (List.getElem_inj (h₀ := by simpa using hi) (h₁ := by simpa using hj) nd).mp ?_
        rw [List.getElem_map, List.getElem_map, ei, ej]
        exact e3
      subst this
      rw [← ei, ej]
    subst this
    rfl
end
theorem law_ok {n i : Nat} {k0 : Int} {d : MS} {ns : List Int} (h : Sat (d (rowS n i) ⟨ns, 0, k0, 0⟩) (finP fun p _ => p = .bl true) nE) : ∃ p ω, lawF n i k0 d ns = .ok p ω ∧ p = .bl true := by
  obtain ⟨r, ω, e, h⟩ := h.ok
  obtain ⟨f, ρ⟩ := r
  unfold lawF
  rw [e]
  cases f with
  | nx => exact ⟨_, _, rfl, h⟩
  | ret p => exact ⟨_, _, rfl, h⟩
  | brk => exact h.elim
  | cnt => exact h.elim
theorem tabs_at {H : Hp} {P : Addr} {q : Str} (h : H P = some (.tbl #[])) : LamX.TabS H P q := ⟨#[], h, by first | trivial | (constructor; done) | simp [TriplesOk], fun pos cv e => by
  simp [codeAmong] at e⟩
end GP
-- MK00
set_option maxRecDepth 100000
set_option maxHeartbeats 1000000
namespace GP
open PySem PySem.Spec PyProof.Rows L2
section
variable {G : Pg} {ω : Rw} {Q : PV → Rw → Prop} {E : Nat → PV → Rw → Prop} {n m : Int} {ps qs : List PV} {p q w : PV} {L : List (List Int)} {D : Thr} {a b : Int}
theorem x_space_odd (S : Sp0 G) (h : p ∈ [PV.int 0, .int 1, .int 22, .non, .bl true]) : F_Space___init__ G [p, .non] ω = .exn 6 p ω := by
  have hk : known G p = true := by
    simp only [List.mem_cons, List.not_mem_nil, or_false] at h
    rcases h with rfl | rfl | rfl | rfl | rfl <;> simp
  rw [m_Space_init S hk (by simp) (by simp [itms]) (by simp [itms])]
  simp only [List.mem_cons, List.not_mem_nil, or_false] at h
  rcases h with rfl | rfl | rfl | rfl | rfl <;> simp
theorem x_space_none (S : Sp0 G) (h2 : 2 ≤ n) (h21 : n ≤ 21) (h : p ∈ [PV.non, .int 7]) : F_Space___init__ G [.int n, p] ω = .exn 7 (.int (-1)) ω := by
  have hk : known G p = true := by
    simp only [List.mem_cons, List.not_mem_nil, or_false] at h
    rcases h with rfl | rfl <;> simp
  have hi : itms p = [] := by
    simp only [List.mem_cons, List.not_mem_nil, or_false] at h
    rcases h with rfl | rfl <;> rfl
  rw [m_Space_init S (by simp) hk (by simp [hi]) (by simp [hi])]
  simp only [List.mem_cons, List.not_mem_nil, or_false] at h
  rcases h with rfl | rfl <;> simp [h2, h21]
def badLs (n : Int) (l : List Int) : List PV := [.non, .tup [.int 0], .tup [], .tup [.int 0, .int n], .tup [.int 1, .int 0], .lst [.int 0, .int 1], .tup [.int 0, .int 0], .tup [.bl true, .int 2], tupI l]
theorem x_space_bad (S : Sp0 G) (h : Lin n L) {l : List Int} (hl : l ∈ L) (hb : p ∈ badLs n l) : F_Space___init__ G [.int n, .lst (L.map tupI ++ [p])] ω = .exn 7 (.int L.length) ω := by
  have h2 := h.lo
  have h21 := h.hi
  have hlen := h.len
  have ll := h.line_len hl
  have kp : kn G p = true := by
    simp only [badLs, List.mem_cons, List.not_mem_nil, or_false] at hb
    rcases hb with rfl | rfl | rfl | rfl | rfl | rfl | rfl | rfl | rfl
    · simp [kn, itms]
    · simp [kn, itms]
    · simp [kn, itms]
    · simp [kn, itms]
    · simp [kn, itms]
    · simp [kn, itms]
    · simp [kn, itms]
    · simp [kn, itms]
    · exact kn_tupI (by omega)
  have sc : scan n (L.map tupI ++ [p]) 0 [] = .bad L.length := by
    rw [scan_ok h.okL h.apart (fun l hl k hk => rfl)]
    simp only [Nat.zero_add, List.nil_append]
    simp only [badLs, List.mem_cons, List.not_mem_nil, or_false] at hb
    rcases hb with rfl | rfl | rfl | rfl | rfl | rfl | rfl | rfl | rfl
    · simp [scan, isSet]
    · simp [scan, isSet, intsOf, isSetI, itms]
    · simp [scan, isSet, intsOf, isSetI, itms]
    · simp [scan, isSet, intsOf, isSetI, itms]
      intro _ _ z
      omega
    · simp [scan, isSet, intsOf, isSetI, itms]
    · simp [scan, isSet, intsOf, isSetI, itms]
    · simp [scan, isSet, intsOf, isSetI, itms]
    · simp [scan, isSet, intsOf, isSetI, itms]
    · rw [scan_cons, if_pos (h.okL l hl), addPairs_none]
      obtain ⟨a, b, ab, ha, hb⟩ := two_of (h.ok l hl).2.2 (h.ok l hl).2.1
      have m1 : [a, b] ∈ prs l := (mem_prs (h.ok l hl).2.1).mpr ⟨a, b, rfl, ab, ha, hb⟩
      exact ⟨_, m1, hasD_mem.mpr ⟨l, mem_allPr.mpr ⟨hl, m1⟩⟩⟩
  rw [m_Space_init S (by simp) (by simp)]
  · simp [h2, h21, itms, sc, fin0]
  · intro x hx
    simp only [itms] at hx
    rcases List.mem_append.mp hx with hx | hx
    · obtain ⟨l', hl', rfl⟩ := List.mem_map.mp hx
      have := h.line_len hl'
      exact kn_tupI (by omega)
    · simp at hx
      subst hx; exact kp
  · simp [itms]
    omega
def Rk (k k' : List Int) : Prop := ∃ a b a' b', k = [a, b] ∧ k' = [a', b'] ∧ (a < a' ∨ (a = a' ∧ b < b'))
theorem prs_sorted : ∀ {l : List Int}, l.Pairwise (· < ·) → (prs l).Pairwise Rk
  | [], _ => .nil
  | x :: l, h => by
    have hx := (List.pairwise_cons.mp h).1
    have hl := (List.pairwise_cons.mp h).2
    rw [prs, List.pairwise_append]
    refine ⟨?_, prs_sorted hl, ?_⟩
    · rw [List.pairwise_map]
      exact hl.imp fun {b b'} q => ⟨x, b, x, b', rfl, rfl, .inr ⟨rfl, q⟩⟩
    · intro k hk k' hk'
      obtain ⟨b, hb, rfl⟩ := List.mem_map.mp hk
      obtain ⟨a, b', rfl, _, q, _⟩ := (mem_prs hl).mp hk'
      exact ⟨x, b, a, b', rfl, rfl, .inl (hx a q)⟩
theorem find_first {α : Type} {R : α → α → Prop} (as : ∀ x y, R x y → R y x → False) {xs : List α} (h : xs.Pairwise R) {f : α → Bool} {x : α} (hx : x ∈ xs) (fx : f x = true) (hf : ∀ y ∈ xs, f y = true → y = x ∨ R x y) : xs.find? f = some x := by
  cases e : xs.find? f with
  | none =>
    have := List.find?_eq_none.mp e x hx
    exact absurd fx this
  | some y =>
    obtain ⟨fy, as', bs, rfl, hn⟩ := List.find?_eq_some_iff_append.mp e
    rcases hf y (by simp) fy with rfl | r
    · rfl
    · rcases List.mem_append.mp hx with hx | hx
      · have := hn x hx
        rw [fx] at this
        simp at this
      · rcases List.mem_cons.mp hx with rfl | hx
        · rfl
        · exact (as _ _ r ((List.pairwise_cons.mp (List.pairwise_append.mp h).2.1).1 x hx)).elim
theorem miss_less {A B : List (List Int)} {l : List Int} (h : Lin n (A ++ l :: B)) : GP.miss n (allPr (A ++ B)) = some (l.take 2) := by
  have hl := h.ok l (by simp)
  have hp := hl.2.1
  obtain ⟨a, b, e, ab, ha, hb⟩ := take2 hl.2.2 hl.2.1
  rw [e]
  have first : ∀ a' b', a' < b' → a' ∈ l → b' ∈ l → (a' = a ∧ b' = b) ∨ a < a' ∨ (a = a' ∧ b < b') := by
    intro a' b' q1 q2 q3
    match l, e, hp, q2, q3 with
    | x :: y :: r, e, hp, q2, q3 =>
      simp at e
      obtain ⟨rfl, rfl⟩ := e
      have hx := (List.pairwise_cons.mp hp).1
      have hy := (List.pairwise_cons.mp (List.pairwise_cons.mp hp).2).1
      rcases List.mem_cons.mp q2 with rfl | q2
      · rcases List.mem_cons.mp q3 with rfl | q3
        · omega
        · rcases List.mem_cons.mp q3 with rfl | q3
          · exact .inl ⟨rfl, rfl⟩
          · exact .inr (.inr ⟨rfl, hy _ q3⟩)
      · exact .inr (.inl (hx _ q2))
  have nd : ∀ l' ∈ A ++ B, l' ∈ A ++ l :: B ∧ l' ≠ l := by
    intro l' hl'
    have := h.nd
    refine ⟨by rcases List.mem_append.mp hl' with z | z <;> simp [z], fun z => ?_⟩
    subst z
    have p : (A ++ l' :: B).Perm (l' :: (A ++ B)) := List.perm_middle
    exact (List.nodup_cons.mp (p.nodup_iff.mp this)).1 hl'
  unfold GP.miss
  refine find_first (R := Rk) ?_ (prs_sorted rgI_asc) ((mem_prs rgI_asc).mpr ⟨a, b, rfl, ab, mem_rgI.mpr (hl.1 a ha), mem_rgI.mpr (hl.1 b hb)⟩) ?_ ?_
  · rintro x y ⟨a1, b1, a2, b2, rfl, rfl, h1⟩ ⟨a3, b3, a4, b4, e1, e2, h2⟩
    simp at e1 e2
    omega
  · cases q : hasD (allPr (A ++ B)) [a, b] with
    | false => rfl
    | true =>
      obtain ⟨l', hl'⟩ := hasD_mem.mp q
      obtain ⟨m1, m2⟩ := mem_allPr.mp hl'
      obtain ⟨m3, m4⟩ := nd l' m1
      obtain ⟨a', b', e', q1, q2, q3⟩ := (mem_prs (h.ok l' m3).2.1).mp m2
      simp at e'
      obtain ⟨rfl, rfl⟩ := e'
      exact absurd (h.un l' m3 l (by simp) a b (by omega) q2 q3 ha hb) m4
  · intro k hk fk
    obtain ⟨a', b', rfl, q1, q2, q3⟩ := (mem_prs rgI_asc).mp hk
    rw [mem_rgI] at q2 q3
    obtain ⟨l', m1, m2, m3⟩ := h.ex a' b' q2.1 q1 q3.2
    by_cases c : l' = l
    · subst c
      rcases first a' b' q1 m2 m3 with ⟨rfl, rfl⟩ | z
      · exact .inl rfl
      · exact .inr ⟨a, b, a', b', rfl, rfl, z⟩
    · exfalso
      have : l' ∈ A ++ B := by
        rcases List.mem_append.mp m1 with z | z
        · simp [z]
        · rcases List.mem_cons.mp z with z | z
          · exact absurd z c
          · simp [z]
      have : hasD (allPr (A ++ B)) [a', b'] = true := hasD_mem.mpr ⟨l', mem_allPr.mpr ⟨this, (mem_prs (h.ok l' m1).2.1).mpr ⟨a', b', rfl, q1, m2, m3⟩⟩⟩
      rw [this] at fk
      cases fk
theorem x_space_less (S : Sp0 G) {A B : List (List Int)} {l : List Int} (h : Lin n (A ++ l :: B)) : F_Space___init__ G [.int n, .lst ((A ++ B).map tupI)] ω = .exn 24 (tupI (l.take 2)) ω := by
  have h2 := h.lo
  have h21 := h.hi
  have hlen := h.len
  have sub : (A ++ B).Sublist (A ++ l :: B) := (List.Sublist.refl A).append (List.sublist_cons_self l B)
  have sc : scan n ((A ++ B).map tupI) 0 [] = .ok (allPr (A ++ B)) := by
    have := scan_ok (ps := []) (i := 0) (D := []) (fun l hl => h.okL l (sub.subset hl)) (h.apart.sublist sub) (fun l hl k hk => rfl)
    rw [List.append_nil] at this
    rw [this]; rfl
  rw [m_Space_init S (by simp) (by simp)]
  · simp only [itms, sc, fin0, miss_less h]
    simp [h2, h21]
  · intro x hx
    simp only [itms] at hx
    obtain ⟨l', hl', rfl⟩ := List.mem_map.mp hx
    have := h.line_len (sub.subset hl')
    exact kn_tupI (by omega)
  · have := sub.length_le
    simp only [itms, List.length_map]
    omega
theorem m_law_apart (h : Lin n L) : F__law_apart G [.lst (L.map tupI)] ω = .ok (apP (apartL L)) ω := by
  have sz := size_big
  have hl := h.len
  refine sat_eq ?_
  simp only [F__law_apart, t__law_apart, dens, den, dv, N__law_apart]
  simp [-List.map_map, -List.map_drop, -List.map_tail, -List.map_take, -Bool.exists_bool, -Bool.forall_bool, drop_map, take_map, tail_map]
  refine ⟨rg62_of (by omega) (by omega) (by omega) (by omega), ?_⟩
  refine for_ind (rgI 0 L.length) .int (fun rest ρ ω' => ω' = ω ∧ ρ = [.sh (.lst (L.map tupI)), .no, .no, .no] ∧ ∃ k : Nat, rest = rgI k L.length ∧ k ≤ L.length ∧ apartL (L.drop k) = apartL L) ⟨rfl, rfl, 0, rfl, by omega, rfl⟩ ?_ ?_
  · rintro x rest ρ ω' ⟨rfl, rfl, k, e1, hk, e2⟩
    have hk2 : k < L.length := by
      rcases Nat.lt_or_ge k L.length with c | c
      · exact c
      · rw [rgI_nil (by omega)] at e1; cases e1
    rw [rgI_cons (by omega)] at e1
    cases e1
    have e3 : L.drop k = L[k] :: L.drop (k + 1) := List.drop_eq_getElem_cons hk2
    rw [e3] at e2
    simp only [apartL] at e2
    simp only [t__law_apart_b0, dens, den, dv]
    simp [-List.map_map, -List.map_drop, -List.map_tail, -List.map_take, -Bool.exists_bool, -Bool.forall_bool, drop_map, take_map, tail_map]
    have lk : L[k].length ≤ 21 := h.line_len (List.getElem_mem hk2)
    have inner : ∀ ms : List (List Int), ∀ {QS : Fl × Sto → Rw → Prop}, (match ms.find? fun m => !(L[k].any fun x => decide (x ∈ m)) with
        | some m => ∀ ρ, QS (.ret (.tup [tupI L[k], tupI m]), ρ) ω'
        | none => QS (.nx, [.sh (.lst (L.map tupI)), .sh (.int k), .no, .no]) ω') →
        Sat (forL (.nm 2) (dens G (Γ__law_apart G) sg__law_apart t__law_apart_b1).s [2] (ms.map tupI) [.sh (.lst (L.map tupI)), .sh (.int k), .no, .no] ω') QS nE := by
      intro ms QS hq
      induction ms with
      | nil => exact for_nil.mpr hq
      | cons m ms ih =>
        rw [List.map_cons]
        simp only [t__law_apart_b1, dens, den, dv]
        simp only [List.find?] at hq
        simp [-List.map_map, -List.map_drop, -List.map_tail, -List.map_take, -Bool.exists_bool, -Bool.forall_bool, drop_map, take_map, tail_map, List.getElem?_eq_getElem hk2]
        refine ⟨by omega, comp_pure .int L[k] .int (fun x => decide (x ∈ m)) id (fun x hx => by simp [-List.map_map, -List.map_drop, -List.map_tail, -List.map_take, -Bool.exists_bool, -Bool.forall_bool, drop_map, take_map, tail_map]) ?_⟩
        simp [-List.map_map, -List.map_drop, -List.map_tail, -List.map_take, -Bool.exists_bool, -Bool.forall_bool, drop_map, take_map, tail_map]
        cases hc : L[k].any fun x => decide (x ∈ m) with
        | true =>
          rw [hc] at hq
          have : L[k].filter (fun x => decide (x ∈ m)) ≠ [] := by
            obtain ⟨x, h1, h2⟩ := List.any_eq_true.mp hc
            intro z
            have := List.filter_eq_nil_iff.mp z x h1
            exact this h2
          simp only [Bool.not_true] at hq
          refine ⟨fun z => ?_, fun x h1 h2 => ih hq⟩
          obtain ⟨x, h1, h2⟩ := List.any_eq_true.mp hc
          exact absurd (of_decide_eq_true h2) (z x h1)
        | false =>
          rw [hc] at hq
          simp only [Bool.not_false] at hq
          refine ⟨fun z => hq _, fun x h1 h2 => ?_⟩
          have := List.any_eq_false.mp hc x h1
          simp [h2] at this
    refine inner _ ?_
    cases hf : (L.drop (k + 1)).find? fun m => !(L[k].any fun x => decide (x ∈ m)) with
    | some m =>
      rw [hf] at e2
      intro ρ
      simp [-List.map_map, -List.map_drop, -List.map_tail, -List.map_take, -Bool.exists_bool, -Bool.forall_bool, drop_map, take_map, tail_map]
      rw [← e2]
      rfl
    | none =>
      rw [hf] at e2
      simp [-List.map_map, -List.map_drop, -List.map_tail, -List.map_take, -Bool.exists_bool, -Bool.forall_bool, drop_map, take_map, tail_map]
      exact ⟨k + 1, by simp, by omega, e2⟩
  · rintro ρ ω' ⟨rfl, rfl, k, e1, hk, e2⟩
    have : k = L.length := by
      rcases Nat.lt_or_ge k L.length with c | c
      · rw [rgI_cons (by omega)] at e1; cases e1
      · omega
    subst this
    rw [List.drop_length] at e2
    simp [-List.map_map, -List.map_drop, -List.map_tail, -List.map_take, -Bool.exists_bool, -Bool.forall_bool, drop_map, take_map, tail_map]
    rw [← e2]
    rfl
theorem m_wrong_lines (S : Sp0 G) (h : Lin n L) (n3 : 3 ≤ n) (o : OkRw ω) (k : ∀ ω', OkRw ω' → Q (.bl true) ω') : Sat (F__law_wrong_lines G [.row, .int n, .lst (L.map tupI)] ω) Q E := by
  have sz := size_big
  have hl := h.len
  have n21 := h.hi
  simp only [F__law_wrong_lines, t__law_wrong_lines, dens, den, dv, N__law_wrong_lines]
  simp [-List.map_map, -List.map_drop, -List.map_tail, -List.map_take, -Bool.exists_bool, -Bool.forall_bool, drop_map, take_map, tail_map]
  refine s_pick (by simp) (by simp) o fun odd hodd ω o => ?_
  simp only [l__law_wrong_lines_3, den, dv]
  simp [-List.map_map, -List.map_drop, -List.map_tail, -List.map_take, -Bool.exists_bool, -Bool.forall_bool, drop_map, take_map, tail_map, x_space_odd S hodd, lamE, cs__law_refused_k00]
  have rep : reprOkB [.str "points", odd] = true := by
    simp only [List.mem_cons, List.not_mem_nil, or_false] at hodd
    rcases hodd with rfl | rfl | rfl | rfl | rfl <;> decide +kernel
  refine repr_two rep ?_
  refine ⟨fun z => (by cases z), fun _ => ?_⟩
  refine s_pick (by simp) (by simp) o fun none hnone ω o => ?_
  simp only [l__law_wrong_lines_2, den, dv]
  simp [-List.map_map, -List.map_drop, -List.map_tail, -List.map_take, -Bool.exists_bool, -Bool.forall_bool, drop_map, take_map, tail_map, x_space_none S h.lo n21 hnone, lamE, cs__law_refused_k00]
  rw [eqB_self (by decide +kernel)]
  simp [-List.map_map, -List.map_drop, -List.map_tail, -List.map_take, -Bool.exists_bool, -Bool.forall_bool, drop_map, take_map, tail_map]
  obtain ⟨l, h0⟩ : ∃ l, L[0]? = some l := by
    cases L with
    | nil =>
      obtain ⟨l, hl, _⟩ := h.ex 0 1 (by omega) (by omega) (by omega)
      cases hl
    | cons l L' => exact ⟨l, rfl⟩
  have hp : 0 < L.length := (List.getElem?_eq_some_iff.mp h0).1
  simp [-List.map_map, -List.map_drop, -List.map_tail, -List.map_take, -Bool.exists_bool, -Bool.forall_bool, drop_map, take_map, tail_map, h0]
  refine s_pick (by simp) (by simp) o fun bad hbad ω o => ?_
  simp only [l__law_wrong_lines_1, den, dv]
  have hx := fun ω => x_space_bad (ω := ω) S h (List.mem_of_getElem? h0) (p := bad) hbad
  simp [-List.map_map, -List.map_drop, -List.map_tail, -List.map_take, -Bool.exists_bool, -Bool.forall_bool, drop_map, take_map, tail_map, hx, lamE, cs__law_refused_k00]
  rw [eqB_w (by decide +kernel) (by simp)]
  simp [-List.map_map, -List.map_drop, -List.map_tail, -List.map_take, -Bool.exists_bool, -Bool.forall_bool, drop_map, take_map, tail_map]
  refine ⟨by omega, s_taken (by omega) (by omega) o fun j j0 j1 ω o => ?_⟩
  obtain ⟨i, rfl⟩ := Int.eq_ofNat_of_zero_le j0
  have hi : i < L.length := by omega
  simp [-List.map_map, -List.map_drop, -List.map_tail, -List.map_take, -Bool.exists_bool, -Bool.forall_bool, drop_map, take_map, tail_map, List.getElem?_eq_getElem hi]
  simp only [l__law_wrong_lines_0, den, dv]
  have dec : L = L.take i ++ L[i] :: L.drop (i + 1) := by
    rw [← List.drop_eq_getElem_cons hi, List.take_append_drop]
  have hless := fun ω => x_space_less (ω := ω) S (A := L.take i) (B := L.drop (i + 1)) (l := L[i]) (by rw [← dec]; exact h)
  simp only [List.map_append] at hless
  simp [-List.map_map, -List.map_drop, -List.map_tail, -List.map_take, -Bool.exists_bool, -Bool.forall_bool, drop_map, take_map, tail_map, hless, lamE, cs__law_refused_k00]
  refine ⟨by omega, ?_⟩
  rw [eqB_w (by decide +kernel) (by simp)]
  exact k ω o
def badPs (n : Int) : List PV := [.int (-1), .int n, .non, .bl true]
def badSs (n : Int) : List PV := [.lst [.int 0], .tup [.int 1, .int 0], .tup [.int n], .non, .tup [.int 0, .int 0], .tup [.bl true]]
theorem rep_space (h : w ∈ badW) : reprOkB [.str "space", w] = true := by
  simp only [badW, List.mem_cons, List.not_mem_nil, or_false] at h
  rcases h with rfl | rfl | rfl | rfl | rfl | rfl <;> decide +kernel
theorem rep_point : ∀ n ∈ rgI 3 14, ∀ b : Bool, reprOkB [.str "point", .int n] = true := by decide +kernel
theorem rep_set : ∀ n ∈ rgI 3 14, reprOkB [.str "set", .tup [.int n]] = true := by decide +kernel
theorem ask_ok {F : Fn} {nm : Str} {r2 r3 r4 : Sl} {QS : Fl × Sto → Rw → Prop} (hF : fnV sg__law_refusals_k000 (Γ__law_refusals_k000 G) 1 (some (.fn nm)) = some F) (hw : w ∈ badW) (hx : ∀ ω, F [w] ω = .exn 8 w ω)
    (k : QS (.nx, [.sh .row, r2, r3, .sh w, r4, .sh p, .sh (.fn nm), .no]) ω) : Sat ((dens G (Γ__law_refusals_k00 G) sg__law_refusals_k00 t__law_refusals_k00_b0).s [.sh .row, r2, r3, .sh w, r4, .sh p, .sh (.fn nm), .no] ω) QS E := by
  simp only [t__law_refusals_k00_b0, dens, den, dv]
  simp [-List.map_map, -List.map_drop, -List.map_tail, -List.map_take, -Bool.exists_bool, -Bool.forall_bool, drop_map, take_map, tail_map]
  simp only [l__law_refusals_k00_5, den, dv]
  simp [-List.map_map, -List.map_drop, -List.map_tail, -List.map_take, -Bool.exists_bool, -Bool.forall_bool, drop_map, take_map, tail_map, cntE, hF, hx, lamE, cs__law_refused_k00]
  refine repr_two (rep_space hw) ⟨fun z => (by cases z), fun _ => k⟩
theorem fn_1 : fnV sg__law_refusals_k000 (Γ__law_refusals_k000 G) 1 (some (.fn "apart_lines")) = some (F_apart_lines G) := by
  simp [fnV, sg__law_refusals_k000, List.findIdx?_cons]
theorem fn_2 : fnV sg__law_refusals_k000 (Γ__law_refusals_k000 G) 1 (some (.fn "is_plane")) = some (F_is_plane G) := by
  simp [fnV, sg__law_refusals_k000, List.findIdx?_cons]
theorem fn_3 : fnV sg__law_refusals_k000 (Γ__law_refusals_k000 G) 1 (some (.fn "size_of")) = some (F_size_of G) := by
  simp [fnV, sg__law_refusals_k000, List.findIdx?_cons]
theorem fn_4 : fnV sg__law_refusals_k000 (Γ__law_refusals_k000 G) 1 (some (.fn "dual")) = some (F_dual G) := by
  simp [fnV, sg__law_refusals_k000, List.findIdx?_cons]
theorem m_refusals_k00 (S : Sp0 G) (h : SpOk n L D) (n3 : 3 ≤ n) (n13 : n ≤ 13) (o : OkRw ω) (k : ∀ ω', OkRw ω' → Q (.bl true) ω') : Sat (F__law_refusals_k00 G [.row, spc n L D, .int n] ω) Q E := by
  have sz := size_big
  simp only [F__law_refusals_k00, t__law_refusals_k00, dens, den, dv, N__law_refusals_k00]
  simp [-List.map_map, -List.map_drop, -List.map_tail, -List.map_take, -Bool.exists_bool, -Bool.forall_bool, drop_map, take_map, tail_map]
  refine s_bad o fun w hw ω o => ?_
  have hk := bad_known (G := G) hw
  refine s_pick (by simp) (by simp) o fun pt hpt ω o => ?_
  refine s_pick (by simp) (by simp) o fun so hso ω o => ?_
  refine ask_ok fn_1 hw (fun ω => x_apart_lines S hk.1 hk.2) ?_
  simp [-List.map_map, -List.map_drop, -List.map_tail, -List.map_take, -Bool.exists_bool, -Bool.forall_bool, drop_map, take_map, tail_map]
  refine ask_ok fn_2 hw (fun ω => x_is_plane S hk.1 hk.2) ?_
  simp [-List.map_map, -List.map_drop, -List.map_tail, -List.map_take, -Bool.exists_bool, -Bool.forall_bool, drop_map, take_map, tail_map]
  refine ask_ok fn_3 hw (fun ω => x_size_of S hk.1 hk.2) ?_
  simp [-List.map_map, -List.map_drop, -List.map_tail, -List.map_take, -Bool.exists_bool, -Bool.forall_bool, drop_map, take_map, tail_map]
  refine ask_ok fn_4 hw (fun ω => x_dual S hk.1 hk.2) ?_
  have hp : known G pt = true ∧ within 0 (n - 1) pt = false ∧ reprOkB [.str "point", pt] = true := by
    simp only [List.mem_cons, List.not_mem_nil, or_false] at hpt
    rcases hpt with rfl | rfl | rfl | rfl
    · exact ⟨by simp, by simp, by decide +kernel⟩
    · exact ⟨by simp, by simp; omega, rep_point n (mem_rgI.mpr (by omega)) true⟩
    · exact ⟨by simp, by simp, by decide +kernel⟩
    · exact ⟨by simp, by simp, by decide +kernel⟩
  have hs : kn G so = true ∧ isSet (n - 1) so = false ∧ reprOkB [.str "set", so] = true := by
    simp only [List.mem_cons, List.not_mem_nil, or_false] at hso
    rcases hso with rfl | rfl | rfl | rfl | rfl | rfl
    · exact ⟨by simp [kn, itms], by simp [isSet], by decide +kernel⟩
    · exact ⟨by simp [kn, itms], by simp [isSet, intsOf, isSetI], by decide +kernel⟩
    · exact ⟨by simp [kn, itms], by simp [isSet, intsOf, isSetI]; omega, rep_set n (mem_rgI.mpr (by omega))⟩
    · exact ⟨by simp [kn, itms], by simp [isSet], by decide +kernel⟩
    · exact ⟨by simp [kn, itms], by simp [isSet, intsOf, isSetI], by decide +kernel⟩
    · exact ⟨by simp [kn, itms], by simp [isSet, intsOf, isSetI], by decide +kernel⟩
  simp [-List.map_map, -List.map_drop, -List.map_tail, -List.map_take, -Bool.exists_bool, -Bool.forall_bool, drop_map, take_map, tail_map]
  simp only [l__law_refusals_k00_4, den, dv]
  simp [-List.map_map, -List.map_drop, -List.map_tail, -List.map_take, -Bool.exists_bool, -Bool.forall_bool, drop_map, take_map, tail_map, x_line_through S h hp.1 hp.2.1, lamE, cs__law_refused_k00]
  refine repr_two hp.2.2 ⟨fun z => (by cases z), fun _ => ?_⟩
  simp only [l__law_refusals_k00_3, den, dv]
  simp [-List.map_map, -List.map_drop, -List.map_tail, -List.map_take, -Bool.exists_bool, -Bool.forall_bool, drop_map, take_map, tail_map, x_lines_on (L := L) (D := D) S hp.1 hp.2.1, lamE, cs__law_refused_k00]
  refine repr_two hp.2.2 ⟨fun z => (by cases z), fun _ => ?_⟩
  simp only [l__law_refusals_k00_2, den, dv]
  simp [-List.map_map, -List.map_drop, -List.map_tail, -List.map_take, -Bool.exists_bool, -Bool.forall_bool, drop_map, take_map, tail_map, x_are_on_line (L := L) (D := D) S hs.1 hs.2.1, lamE, cs__law_refused_k00]
  refine repr_two hs.2.2 ⟨fun z => (by cases z), fun _ => ?_⟩
  simp only [l__law_refusals_k00_1, den, dv]
  simp [-List.map_map, -List.map_drop, -List.map_tail, -List.map_take, -Bool.exists_bool, -Bool.forall_bool, drop_map, take_map, tail_map, x_without (L := L) (D := D) S hs.1 hs.2.1, lamE, cs__law_refused_k00]
  refine repr_two hs.2.2 ⟨fun z => (by cases z), fun _ => ?_⟩
  simp only [l__law_refusals_k00_0, den, dv]
  have hr : isSetI (n - 1) (rgI 0 n).tail = true := sub_isSet (List.tail_sublist _)
  have hw := fun ω => m_without (ω := ω) S h hr
  have r1 : (restL n (rgI 0 n).tail).length = 1 := by
    have e : rgI 0 n = 0 :: rgI 1 n := rgI_cons (by omega)
    have : restL n (rgI 0 n).tail = [0] := by
      unfold restL
      rw [e, List.tail_cons, List.filter_cons_of_pos (by simp [mem_rgI]), List.filter_eq_nil_iff.mpr]
      intro x hx
      simp [hx]
    rw [this]; rfl
  have x1 : ∀ ω, F_Space___init__ G [.int (restL n (rgI 0 n).tail).length, .lst ((lessL n L (rgI 0 n).tail).map tupI)] ω = .exn 6 (.int 1) ω := by
    intro ω
    rw [r1, m_Space_init S (by simp) (by simp)]
    · simp
    · intro x hx
      obtain ⟨l, hl, rfl⟩ := List.mem_map.mp hx
      obtain ⟨l', h1, rfl⟩ := List.mem_map.mp (List.mem_filter.mp hl).1
      have := h.lin.line_len h1
      have := List.length_filter_le (fun x => !decide (x ∈ (rgI 0 n).tail)) l'
      exact kn_tupI (by simp only [List.length_map]; omega)
    · have := List.length_filter_le (fun l : List Int => decide (1 < l.length)) (L.map fun l => (l.filter fun x => !decide (x ∈ (rgI 0 n).tail)).map fun x => ((restL n (rgI 0 n).tail).idxOf x : Int))
      have := h.lin.len
      simp only [List.length_map] at *
      simp only [itms, List.length_map, lessL]
      omega
  simp [-List.map_map, -List.map_drop, -List.map_tail, -List.map_take, -Bool.exists_bool, -Bool.forall_bool, drop_map, take_map, tail_map, hw, x1, lamE, cs__law_refused_k00]
  refine ⟨rgOk_of (by omega) (by omega) (by omega) (by omega), ?_⟩
  rw [eqB_w (by decide +kernel) (by simp)]
  exact k ω o
def StK (s : Sl) (n : Int) (L : List (List Int)) (D : Thr) : Sto := [.no, .sh .row, .sh (.int n), .sh (.lst (L.map tupI)), .sh (spc n L D), .no, .no, .no, .no, s, .no, .no, .no, .no, .no, .no, .no, .no, .no]
def unT : PV → List Int
  | .tup ps => ps.map unI
  | _ => []
theorem map_unT : ∀ L : List (List Int), (L.map tupI).map unT = L
  | [] => rfl
  | l :: L => by
    rw [List.map_cons, List.map_cons, map_unT L]
    congr 1
    exact map_unI l
theorem perm_tups {qs : List PV} {L : List (List Int)} (h : qs.Perm (L.map tupI)) : ∃ L' : List (List Int), qs = L'.map tupI ∧ L'.Perm L := by
  have : ∃ L' : List (List Int), qs = L'.map tupI := by
    have : ∀ x ∈ qs, ∃ l, x = tupI l := fun x hx => by
      obtain ⟨l, _, e⟩ := List.mem_map.mp (h.mem_iff.mp hx)
      exact ⟨l, e.symm⟩
    clear h
    induction qs with
    | nil => exact ⟨[], rfl⟩
    | cons q qs ih =>
      obtain ⟨L', rfl⟩ := ih fun x hx => this x (by simp [hx])
      obtain ⟨l, rfl⟩ := this q (by simp)
      exact ⟨l :: L', rfl⟩
  obtain ⟨L', rfl⟩ := this
  refine ⟨L', rfl, ?_⟩
  have := h.map unT
  rwa [map_unT, map_unT] at this
theorem on_line_iff (h : Lin n L) {z : List Int} {a b : Int} (hz : isSetI (n - 1) z = true) (z0 : z[0]? = some a) (z1 : z[1]? = some b) : (z.all fun x => decide (x ∈ lineT L a b)) = !decide ((L.filter fun l => z.all fun x => decide (x ∈ l)) = []) := by
  have hz' := isSetI_iff.mp hz
  have ma := List.mem_of_getElem? z0
  have mb := List.mem_of_getElem? z1
  have ab : a < b := by
    match z, hz', z0, z1 with
    | x :: y :: z, hz', z0, z1 =>
      simp at z0 z1
      subst z0 z1
      exact (List.pairwise_cons.mp hz'.2).1 y (by simp)
  have ra := hz'.1 a ma
  have rb := hz'.1 b mb
  have hl := h.lineT (a := a) (b := b) (by omega) (by omega) (by omega)
  rw [Bool.eq_iff_iff]
  simp only [List.all_eq_true, decide_eq_true_eq, Bool.not_eq_true', decide_eq_false_iff_not]
  constructor
  · intro q e
    have := List.filter_eq_nil_iff.mp e _ hl.1
    apply this
    simpa using q
  · intro q x hx
    obtain ⟨l, hl'⟩ := List.exists_mem_of_ne_nil _ q
    obtain ⟨h1, h2⟩ := List.mem_filter.mp hl'
    simp only [List.all_eq_true, decide_eq_true_eq] at h2
    rw [h.lineT_uniq (by omega) h1 (h2 a ma) (h2 b mb)]
    exact h2 x hx
noncomputable abbrev dK (G : Pg) (t : St) : MS := (dens G (Γ_law_k00 G) sg_law_k00 t).s
abbrev QK : Fl × Sto → Rw → Prop := finP fun p _ => p = .bl true
variable {s5 s6 s7 s8 s9 s10 s11 s12 s13 s15 s16 : Sl}
theorem k00_s11 (S : Sp0 G) (sp : SpOk n L D) (n3 : 3 ≤ n) (n13 : n ≤ 13) (o : OkRw ω) : Sat (dK G t_law_k00_s11 [.no, .sh .row, .sh (.int n), .sh (.lst (L.map tupI)), .sh (spc n L D), s5, s6, s7, s8, s9, s10, s11, s12, s13, .no, s15, s16, .no, .no] ω) QK nE := by
  simp only [dK, t_law_k00_s11, dens, den, dv]
  simp [-List.map_map, -List.map_drop, -List.map_tail, -List.map_take, -Bool.exists_bool, -Bool.forall_bool, drop_map, take_map, tail_map]
  refine m_wrong_lines S sp.lin n3 o fun ω o => ?_
  simp [-List.map_map, -List.map_drop, -List.map_tail, -List.map_take, -Bool.exists_bool, -Bool.forall_bool, drop_map, take_map, tail_map]
  exact m_refusals_k00 S sp n3 n13 o fun ω o => rfl
theorem k00_s9 (S : Sp0 G) (sp : SpOk n L D) (n3 : 3 ≤ n) (n13 : n ≤ 13) (hs : L = tsort L) (o : OkRw ω) : Sat (dK G t_law_k00_s9 [.no, .sh .row, .sh (.int n), .sh (.lst (L.map tupI)), .sh (spc n L D), s5, s6, s7, s8, s9, s10, s11, s12, s13, .no, s15, s16, .no, .no] ω) QK nE := by
  have sz := size_big
  have h := sp.lin
  have hlen := h.len
  simp only [dK, t_law_k00_s9, dens, den, dv]
  simp [-List.map_map, -List.map_drop, -List.map_tail, -List.map_take, -Bool.exists_bool, -Bool.forall_bool, drop_map, take_map, tail_map]
  refine s_some (by omega) (by omega) (by omega) (by omega) o fun s hsub ω o => ?_
  simp only [t_law_k00_s10, dens, den, dv]
  simp [-List.map_map, -List.map_drop, -List.map_tail, -List.map_take, -Bool.exists_bool, -Bool.forall_bool, drop_map, take_map, tail_map]
  refine ⟨fun c => ?_, fun c => k00_s11 S sp n3 n13 o⟩
  have r1 := rest_len (s := s) (n := n) (by omega)
  have r2 := rest_le (s := s) (n := n) (by omega)
  have hl := h.less (s := s) (by omega)
  rw [m_without S sp (sub_isSet hsub), m_Space_lin S hl (.inl rfl)]
  simp [-List.map_map, -List.map_drop, -List.map_tail, -List.map_take, -Bool.exists_bool, -Bool.forall_bool, drop_map, take_map, tail_map]
  rw [m_less_points (s := s) (by omega) (by omega) h.len (fun l hl' => ⟨h.line_len hl', (h.ok l hl').1⟩) (fun a => by simp) (by have := hl.len; omega)]
  simp [-List.map_map, -List.map_drop, -List.map_tail, -List.map_take, -Bool.exists_bool, -Bool.forall_bool, drop_map, take_map, tail_map, fld_points S, fld_lines S]
  have hl2 := hl.len
  have kL : ∀ k : Nat, okDL (k + 1) ((tsort (lessL n L s)).map tupI) = true := fun k => plain_tup _ fun l hl' => by have := hl.tsort.line_len hl'; omega
  refine s_alike (k := 5) rfl (by simp [okD, okDL, kL, tsort_len]; omega) ?_
  simp [-List.map_map, -List.map_drop, -List.map_tail, -List.map_take, -Bool.exists_bool, -Bool.forall_bool, drop_map, take_map, tail_map]
  exact k00_s11 S sp n3 n13 o
theorem k00_s8 (S : Sp0 G) (sp : SpOk n L D) (n3 : 3 ≤ n) (n13 : n ≤ 13) (hs : L = tsort L) (o : OkRw ω) : Sat (dK G t_law_k00_s8 [.no, .sh .row, .sh (.int n), .sh (.lst (L.map tupI)), .sh (spc n L D), s5, s6, s7, s8, s9, .sh (.bl (isPlaneB L)), s11, s12, s13, .no, s15, s16, .no, .no] ω) QK nE := by
  have sz := size_big
  have h := sp.lin
  have hlen := h.len
  simp only [dK, t_law_k00_s8, dens, den, dv]
  have fin : ∀ {s5 s6 s7 s8 s9 s10 s11 s12 s13 s15 s16 : Sl} {ω : Rw}, OkRw ω → Sat ((dens G (Γ_law_k00 G) sg_law_k00 t_law_k00_s9).s [.no, .sh .row, .sh (.int n), .sh (.lst (L.map tupI)), .sh (spc n L D), s5, s6, s7, s8, s9, s10, s11, s12, s13, .no, s15, s16, .no, .no] ω) QK nE := fun o => k00_s9 S sp n3 n13 hs o
  cases hp : isPlaneB L with
  | false =>
    have ask : ∀ {F : Fn} {nm : Str} {QS : Fl × Sto → Rw → Prop}, fnV sg_law_k000 (Γ_law_k000 G) 1 (some (.fn nm)) = some F → (∀ ω, F [spc n L D] ω = .exn 25 (.int (-1)) ω) →
        QS (.nx, [.no, .sh .row, .sh (.int n), .sh (.lst (L.map tupI)), .sh (spc n L D), s5, s6, s7, s8, s9, .sh (.bl false), s11, s12, s13, .no, .sh (.fn nm), s16, .no, .no]) ω →
        Sat ((dens G (Γ_law_k00 G) sg_law_k00 t_law_k00_b1).s [.no, .sh .row, .sh (.int n), .sh (.lst (L.map tupI)), .sh (spc n L D), s5, s6, s7, s8, s9, .sh (.bl false), s11, s12, s13, .no, .sh (.fn nm), s16, .no, .no] ω) QS nE := by
      intro F nm QS hF hx k
      simp only [t_law_k00_b1, dens, den, dv]
      simp [-List.map_map, -List.map_drop, -List.map_tail, -List.map_take, -Bool.exists_bool, -Bool.forall_bool, drop_map, take_map, tail_map]
      simp only [l_law_k00_0, den, dv]
      simp [-List.map_map, -List.map_drop, -List.map_tail, -List.map_take, -Bool.exists_bool, -Bool.forall_bool, drop_map, take_map, tail_map, cntE, hF, hx, lamE, cs__law_refused_k00]
      rw [eqB_w (by decide +kernel) (by simp)]
      exact ⟨fun z => (by cases z), fun _ => k⟩
    have f1 : fnV sg_law_k000 (Γ_law_k000 G) 1 (some (.fn "size_of")) = some (F_size_of G) := by simp [fnV, sg_law_k000, List.findIdx?_cons]
    have f2 : fnV sg_law_k000 (Γ_law_k000 G) 1 (some (.fn "dual")) = some (F_dual G) := by simp [fnV, sg_law_k000, List.findIdx?_cons]
    simp [-List.map_map, -List.map_drop, -List.map_tail, -List.map_take, -Bool.exists_bool, -Bool.forall_bool, drop_map, take_map, tail_map]
    refine ask f1 (fun ω => by rw [m_size_of S sp, hp]; rfl) ?_
    simp [-List.map_map, -List.map_drop, -List.map_tail, -List.map_take, -Bool.exists_bool, -Bool.forall_bool, drop_map, take_map, tail_map]
    refine ask f2 (fun ω => by rw [m_dual S sp, hp]; rfl) ?_
    simp [-List.map_map, -List.map_drop, -List.map_tail, -List.map_take, -Bool.exists_bool, -Bool.forall_bool, drop_map, take_map, tail_map]
    exact fin o
  | true =>
    have P := (isPlaneB_iff h).mp hp
    have cnt := P.count
    have hd := P.dual
    obtain ⟨l, h0⟩ : ∃ l, L[0]? = some l := ⟨L[0]'(by omega), List.getElem?_eq_getElem _⟩
    have mz := fun ω => m_Space_lin (ω := ω) S hd (.inl rfl)
    simp [-List.map_map, -List.map_drop, -List.map_tail, -List.map_take, -Bool.exists_bool, -Bool.forall_bool, drop_map, take_map, tail_map, m_size_of S sp, hp, h0, m_dual S sp, mz]
    refine s_alike (k := 5) rfl (by simp [okD]) ?_
    simp [-List.map_map, -List.map_drop, -List.map_tail, -List.map_take, -Bool.exists_bool, -Bool.forall_bool, drop_map, take_map, tail_map]
    refine ⟨cnt, fun _ => ⟨rg62_of (by omega) (by omega) (by omega) (by omega), ?_⟩⟩
    refine for_inv (rgI 0 n) .int (fun done ρ ω' => ω' = ω ∧ ρ = [.no, .sh .row, .sh (.int n), .sh (.lst (L.map tupI)), .sh (spc n L D), s5, s6, s7, s8, s9, .sh (.bl true), s11, .sh (spc n (tsort (dualL n L)) (allPr (dualL n L))), .sh (.lst ((done.map (dl L)).map tupI)), .no, s15, s16, .no, .no]) ⟨rfl, rfl⟩ ?_ ?_
    · rintro done x rest ρ ω' hx ⟨rfl, rfl⟩
      simp only [t_law_k00_b0, dens, den, dv]
      have hd : done.length + 1 ≤ 21 := by
        have := congrArg List.length hx
        rw [rgI_len] at this
        simp at this
        omega
      simp [-List.map_map, -List.map_drop, -List.map_tail, -List.map_take, -Bool.exists_bool, -Bool.forall_bool, drop_map, take_map, tail_map]
      refine ⟨rg62_of (by omega) (by omega) (by omega) (by omega), by omega, comp_pure .int (rgI 0 n) .int (fun i => decide (x ∈ (L[i.toNat]?).getD [])) id (fun i hi => ?_) ?_⟩
      · rw [mem_rgI] at hi
        obtain ⟨y, h1, h2⟩ := atI_some (l := L) hi.1 (by omega)
        simp [-List.map_map, -List.map_drop, -List.map_tail, -List.map_take, -Bool.exists_bool, -Bool.forall_bool, drop_map, take_map, tail_map, h1, h2]
      · simp [-List.map_map, -List.map_drop, -List.map_tail, -List.map_take, -Bool.exists_bool, -Bool.forall_bool, drop_map, take_map, tail_map]
        refine ⟨by omega, ?_⟩
        congr 1
        refine asc_eq (rgI_asc.filter _) dl_asc fun i => ?_
        rw [List.mem_filter, mem_rgI, mem_dl]
        simp only [decide_eq_true_eq]
        constructor
        · rintro ⟨⟨a, b⟩, c⟩
          have hk : i.toNat < L.length := by omega
          rw [List.getElem?_eq_getElem hk] at c
          exact ⟨i.toNat, by omega, hk, c⟩
        · rintro ⟨k, rfl, hk, c⟩
          refine ⟨by omega, ?_⟩
          rw [show ((k : Nat) : Int).toNat = k from rfl, List.getElem?_eq_getElem hk]
          exact c
    · rintro ρ ω' ⟨rfl, rfl⟩
      simp [-List.map_map, -List.map_drop, -List.map_tail, -List.map_take, -Bool.exists_bool, -Bool.forall_bool, drop_map, take_map, tail_map, fld_points S, fld_lines S]
      rw [← dualL_eq, sorted_T _ (fun x hx z => by have := (hd.ok x hx).2.2; rw [z] at this; simp at this)]
      simp [-List.map_map, -List.map_drop, -List.map_tail, -List.map_take, -Bool.exists_bool, -Bool.forall_bool, drop_map, take_map, tail_map]
      have kL : ∀ k : Nat, okDL (k + 1) ((tsort (dualL n L)).map tupI) = true := fun k => plain_tup _ fun l hl' => by have := hd.tsort.line_len hl'; omega
      have := hd.len
      refine s_alike (k := 5) rfl (by simp [okD, okDL, kL, tsort_len]; omega) ?_
      simp [-List.map_map, -List.map_drop, -List.map_tail, -List.map_take, -Bool.exists_bool, -Bool.forall_bool, drop_map, take_map, tail_map]
      exact fin o
theorem min_gt (l : List Int) : ∀ a, (2 < l.foldl min a) ↔ 2 < a ∧ ∀ x ∈ l, 2 < x := by
  induction l with
  | nil => simp
  | cons x l ih =>
    intro a
    rw [List.foldl_cons, ih]
    simp only [List.mem_cons, forall_eq_or_imp]
    rw [Int.lt_min]
    exact and_assoc
theorem k00_s5 (S : Sp0 G) (sp : SpOk n L D) (n3 : 3 ≤ n) (n13 : n ≤ 13) (hs : L = tsort L) (o : OkRw ω) : Sat (dK G t_law_k00_s5 [.no, .sh .row, .sh (.int n), .sh (.lst (L.map tupI)), .sh (spc n L D), s5, s6, s7, s8, s9, s10, s11, s12, s13, .no, s15, s16, .no, .no] ω) QK nE := by
  have sz := size_big
  have h := sp.lin
  have hlen := h.len
  simp only [dK, t_law_k00_s5, dens, den, dv]
  simp [-List.map_map, -List.map_drop, -List.map_tail, -List.map_take, -Bool.exists_bool, -Bool.forall_bool, drop_map, take_map, tail_map, m_law_apart h]
  simp only [t_law_k00_s6, dens, den, dv]
  have e1 : isP (apP (apartL L)) .non = some (.bl (apartL L).isNone) := by cases apartL L <;> rfl
  have tail : Sat ((dens G (Γ_law_k00 G) sg_law_k00 t_law_k00_s7).s [.no, .sh .row, .sh (.int n), .sh (.lst (L.map tupI)), .sh (spc n L D), s5, s6, s7, s8, s9, .sh (.bl (isPlaneB L)), .sh (apP (apartL L)), s12, s13, .no, s15, s16, .no, .no] ω) QK nE := by
    simp only [t_law_k00_s7, dens, den, dv]
    simp [-List.map_map, -List.map_drop, -List.map_tail, -List.map_take, -Bool.exists_bool, -Bool.forall_bool, drop_map, take_map, tail_map, m_apart_lines S sp, m_is_plane S sp]
    have : okD 4 (apP (apartL L)) = true := by
      cases e : apartL L with
      | none => rfl
      | some z =>
        have hz : ∀ {L : List (List Int)} {z}, apartL L = some z → z.1 ∈ L ∧ z.2 ∈ L := by
          intro L
          induction L with
          | nil => intro z e; cases e
          | cons l L ih =>
            intro z e
            simp only [apartL] at e
            split at e
            · rename_i m hm
              cases e
              exact ⟨by simp, by simp [List.mem_of_find?_eq_some hm]⟩
            · have := ih e
              exact ⟨by simp [this.1], by simp [this.2]⟩
        have hz := hz e
        have l1 := h.line_len hz.1
        have l2 := h.line_len hz.2
        have : okDL 3 [tupI z.1, tupI z.2] = true := plain_tup [z.1, z.2] fun l hl => by
          simp at hl
          rcases hl with rfl | rfl <;> omega
        simp [apP, okD, this]
    refine s_alike (k := 5) rfl (by simp [okD, okDL, this]) ?_
    simp [-List.map_map, -List.map_drop, -List.map_tail, -List.map_take, -Bool.exists_bool, -Bool.forall_bool, drop_map, take_map, tail_map]
    exact k00_s8 S sp n3 n13 hs o
  simp [-List.map_map, -List.map_drop, -List.map_tail, -List.map_take, -Bool.exists_bool, -Bool.forall_bool, drop_map, take_map, tail_map, e1]
  refine ⟨fun ap => ⟨fun c => ⟨by omega, comp_map .int L tupI (fun l => (l.length : Int)) (fun l hl => by simp [-List.map_map, -List.map_drop, -List.map_tail, -List.map_take, -Bool.exists_bool, -Bool.forall_bool, drop_map, take_map, tail_map]) ?_⟩, fun c => ?_⟩, fun ap => ?_⟩
  · obtain ⟨l, L', rfl⟩ : ∃ l L', L = l :: L' := by
      cases L with
      | nil => simp at c
      | cons l L' => exact ⟨l, L', rfl⟩
    rw [minP_ints]
    simp only [List.map_cons, minL]
    simp [-List.map_map, -List.map_drop, -List.map_tail, -List.map_take, -Bool.exists_bool, -Bool.forall_bool, drop_map, take_map, tail_map]
    have e3 : decide (2 < (L'.map fun l => (l.length : Int)).foldl min (l.length : Int)) = isPlaneB (l :: L') := by
      rw [Bool.eq_iff_iff, decide_eq_true_eq, min_gt]
      unfold isPlaneB
      rw [decide_eq_true (by omega : 2 ≤ (l :: L').length), ap]
      simp
      constructor <;> (rintro ⟨a, b⟩; exact ⟨by omega, fun x hx => by have := b x hx; omega⟩)
    rw [e3]
    exact tail
  · have : isPlaneB L = false := by
      unfold isPlaneB
      rw [decide_eq_false (by omega)]; rfl
    rw [← this]
    exact tail
  · have : isPlaneB L = false := by
      unfold isPlaneB
      cases e : apartL L with
      | none => rw [e] at ap; simp at ap
      | some z => simp
    rw [← this]
    exact tail
theorem k00_s4 (S : Sp0 G) (sp : SpOk n L D) (n3 : 3 ≤ n) (n13 : n ≤ 13) (hs : L = tsort L) (o : OkRw ω) : Sat (dK G t_law_k00_s4 (StK .no n L D) ω) QK nE := by
  have sz := size_big
  have h := sp.lin
  have hlen := h.len
  simp only [dK, t_law_k00_s4, dens, den, dv]
  simp [-List.map_map, -List.map_drop, -List.map_tail, -List.map_take, -Bool.exists_bool, -Bool.forall_bool, drop_map, take_map, tail_map, StK]
  refine ⟨rg62_of (by omega) (by omega) (by omega) (by omega), for_inv (rgI 0 6) .int (fun done ρ ω' => OkRw ω' ∧ ρ = StK .no n L D) ⟨o, rfl⟩ ?_ ?_⟩
  · rintro done t rest ρ ω hx ⟨o, rfl⟩
    simp only [t_law_k00_b2, dens, den, dv]
    simp [-List.map_map, -List.map_drop, -List.map_tail, -List.map_take, -Bool.exists_bool, -Bool.forall_bool, drop_map, take_map, tail_map, StK]
    refine s_some (by omega) (by omega) (by omega) (by omega) o fun s hs ω o => ?_
    have key1 : ∀ (z : List Int) (ω : Rw), OkRw ω → isSetI (n - 1) z = true → z.length < 3 → Sat (F_are_on_line G [spc n L D, tupI z] ω) (fun p ω => Sat (F__law_alike G 60 [p, .bl true] ω) (fun p ω => OptS (truB p) fun k => k = true ∧ (k = true → OkRw ω)) nE) nE := by
      intro z ω o hz h3
      rw [m_are_on_line0 S sp hz h3]
      simp [-List.map_map, -List.map_drop, -List.map_tail, -List.map_take, -Bool.exists_bool, -Bool.forall_bool, drop_map, take_map, tail_map]
      refine s_alike (k := 5) rfl (by simp [okD]) ?_
      simp [-List.map_map, -List.map_drop, -List.map_tail, -List.map_take, -Bool.exists_bool, -Bool.forall_bool, drop_map, take_map, tail_map]
      exact o
    have key2 : ∀ (z : List Int) (ω : Rw), OkRw ω → isSetI (n - 1) z = true → 3 ≤ z.length → L.length ≤ sizeLine ∧ CompS (dTru (dCallN (F__law_within G) (dCons (dVar 9) (dCons (dVar 17) dNil)))) (dVar 17) (.nm 17)
        [.no, .sh .row, .sh (.int n), .sh (.lst (L.map tupI)), .sh (spc n L D), .no, .no, .no, .sh (.int t), .sh (tupI z), .no, .no, .no, .no, .no, .no, .no, .no, .no] (L.map tupI) ω fun l_1 ω =>
          OptS (eqB (.lst l_1) (.lst [])) fun x => Sat (F_are_on_line G [spc n L D, tupI z] ω) (fun p ω => Sat (F__law_alike G 60 [p, .bl !x] ω) (fun p ω => OptS (truB p) fun k => k = true ∧ (k = true → OkRw ω)) nE) nE := by
      intro z ω o hz h3
      have hz' := isSetI_iff.mp hz
      have zl := asc_len (a := 0) (m := n - 1) hz'.1 hz'.2
      obtain ⟨a, z0⟩ : ∃ a, z[0]? = some a := ⟨z[0], List.getElem?_eq_getElem (by omega)⟩
      obtain ⟨b, z1⟩ : ∃ b, z[1]? = some b := ⟨z[1], List.getElem?_eq_getElem (by omega)⟩
      have e := on_line_iff h hz z0 z1
      refine ⟨by omega, comp_pure tupI L tupI (fun l => z.all fun x => decide (x ∈ l)) id (fun l hl => ?_) ?_⟩
      · have hw := fun ω => m_within (G := G) (ω := ω) z l (by omega)
        simp [-List.map_map, -List.map_drop, -List.map_tail, -List.map_take, -Bool.exists_bool, -Bool.forall_bool, drop_map, take_map, tail_map, hw]
      · simp [-List.map_map, -List.map_drop, -List.map_tail, -List.map_take, -Bool.exists_bool, -Bool.forall_bool, drop_map, take_map, tail_map]
        rw [m_are_on_line1 S sp hz z0 z1 h3]
        simp [-List.map_map, -List.map_drop, -List.map_tail, -List.map_take, -Bool.exists_bool, -Bool.forall_bool, drop_map, take_map, tail_map]
        refine s_alike (k := 5) (by rw [e]; simp) (by simp [okD]) ?_
        simp [-List.map_map, -List.map_drop, -List.map_tail, -List.map_take, -Bool.exists_bool, -Bool.forall_bool, drop_map, take_map, tail_map]
        exact o
    refine s_taken (by omega) (by omega) o fun c c0 c1 ω o => ?_
    simp [-List.map_map, -List.map_drop, -List.map_tail, -List.map_take, -Bool.exists_bool, -Bool.forall_bool, drop_map, take_map, tail_map]
    have Lne : L ≠ [] := by
      rintro rfl
      obtain ⟨l, hl, _⟩ := h.ex 0 1 (by omega) (by omega) (by omega)
      cases hl
    refine ⟨fun _ => ?_, fun _ => ⟨fun q => key1 s ω o (sub_isSet hs) (by omega), fun q => key2 s ω o (sub_isSet hs) (by omega)⟩⟩
    refine s_pick (by simpa using Lne) (by simp; omega) o fun r hr ω o => ?_
    obtain ⟨l, hl, rfl⟩ := List.mem_map.mp hr
    have ll := h.line_len hl
    have okl := h.ok l hl
    simp [-List.map_map, -List.map_drop, -List.map_tail, -List.map_take, -Bool.exists_bool, -Bool.forall_bool, drop_map, take_map, tail_map]
    refine ⟨by omega, comp_inv l .int (fun done out ω => OkRw ω ∧ ∃ s : List Int, out = s.map .int ∧ s.Sublist done) ⟨o, [], rfl, .slnil⟩ ?_ ?_⟩
    · rintro done x rest out ω' hx ⟨o, s, rfl, hs⟩
      simp [-List.map_map, -List.map_drop, -List.map_tail, -List.map_take, -Bool.exists_bool, -Bool.forall_bool, drop_map, take_map, tail_map]
      refine s_taken (by omega) (by omega) o fun y y0 y1 ω o => ?_
      simp [-List.map_map, -List.map_drop, -List.map_tail, -List.map_take, -Bool.exists_bool, -Bool.forall_bool, drop_map, take_map, tail_map]
      exact ⟨fun _ => ⟨o, s ++ [x], by simp, hs.append (.refl _)⟩, fun _ => ⟨o, s, rfl, hs.trans (List.sublist_append_left _ _)⟩⟩
    · rintro out ω ⟨o, s, rfl, hs⟩
      have hz : isSetI (n - 1) s = true := isSetI_iff.mpr ⟨fun x hx => by have := okl.1 x (hs.subset hx); omega, okl.2.1.sublist hs⟩
      simp [-List.map_map, -List.map_drop, -List.map_tail, -List.map_take, -Bool.exists_bool, -Bool.forall_bool, drop_map, take_map, tail_map]
      exact ⟨fun q => key1 s ω o hz (by omega), fun q => key2 s ω o hz (by omega)⟩
  rintro ρ ω ⟨o, rfl⟩
  simp [-List.map_map, -List.map_drop, -List.map_tail, -List.map_take, -Bool.exists_bool, -Bool.forall_bool, drop_map, take_map, tail_map, StK]
  exact k00_s5 S sp n3 n13 hs o
theorem k00_s3 (S : Sp0 G) (sp : SpOk n L D) (n3 : 3 ≤ n) (n13 : n ≤ 13) (hs : L = tsort L) (o : OkRw ω) : Sat (dK G t_law_k00_s3 (StK .no n L D) ω) QK nE := by
  have sz := size_big
  have h := sp.lin
  have hlen := h.len
  simp only [dK, t_law_k00_s3, dens, den, dv]
  simp [-List.map_map, -List.map_drop, -List.map_tail, -List.map_take, -Bool.exists_bool, -Bool.forall_bool, drop_map, take_map, tail_map, StK]
  refine ⟨rg62_of (by omega) (by omega) (by omega) (by omega), for_inv (rgI 0 n) .int (fun done ρ ω' => OkRw ω' ∧ ρ = StK .no n L D) ⟨o, rfl⟩ ?_ ?_⟩
  · rintro done a rest ρ ω hx ⟨o, rfl⟩
    have ha : 0 ≤ a ∧ a < n := mem_rgI.mp (by rw [hx]; simp)
    simp only [t_law_k00_b3, dens, den, dv]
    simp [-List.map_map, -List.map_drop, -List.map_tail, -List.map_take, -Bool.exists_bool, -Bool.forall_bool, drop_map, take_map, tail_map, StK, m_lines_on S sp ha]
    refine ⟨by omega, comp_pure tupI L tupI (fun l => decide (a ∈ l)) id (fun x hx => by simp [-List.map_map, -List.map_drop, -List.map_tail, -List.map_take, -Bool.exists_bool, -Bool.forall_bool, drop_map, take_map, tail_map]) ?_⟩
    simp [-List.map_map, -List.map_drop, -List.map_tail, -List.map_take, -Bool.exists_bool, -Bool.forall_bool, drop_map, take_map, tail_map]
    have kf : okDL 4 ((L.filter fun l => decide (a ∈ l)).map tupI) = true := plain_tup _ fun l hl => by have := h.line_len (List.mem_filter.mp hl).1; omega
    have lf := List.length_filter_le (fun l : List Int => decide (a ∈ l)) L
    refine s_alike (k := 5) rfl (by simp [okD, kf]; omega) ?_
    simp [-List.map_map, -List.map_drop, -List.map_tail, -List.map_take, -Bool.exists_bool, -Bool.forall_bool, drop_map, take_map, tail_map]
    refine s_taken (by omega) (by omega) o fun b b0 b1 ω o => ?_
    simp [-List.map_map, -List.map_drop, -List.map_tail, -List.map_take, -Bool.exists_bool, -Bool.forall_bool, drop_map, take_map, tail_map]
    refine ⟨fun e => ?_, fun e => ?_⟩
    · subst e
      rw [m_line_through S sp ha ha]
      simp [-List.map_map, -List.map_drop, -List.map_tail, -List.map_take, -Bool.exists_bool, -Bool.forall_bool, drop_map, take_map, tail_map]
      rw [m_line_through S sp ha ha]
      simp [-List.map_map, -List.map_drop, -List.map_tail, -List.map_take, -Bool.exists_bool, -Bool.forall_bool, drop_map, take_map, tail_map]
      refine s_alike (k := 5) rfl (by simp [okD, okDL]) ?_
      simp [-List.map_map, -List.map_drop, -List.map_tail, -List.map_take, -Bool.exists_bool, -Bool.forall_bool, drop_map, take_map, tail_map]
      exact o
    · have hl := h.lineT ha ⟨b0, b1⟩ e
      have hl2 := h.line_len hl.1
      have e2 : lineT L b a = lineT L a b := h.lineT_uniq (Ne.symm e) hl.1 hl.2.2 hl.2.1
      rw [m_through h ha ⟨b0, b1⟩ e]
      simp [-List.map_map, -List.map_drop, -List.map_tail, -List.map_take, -Bool.exists_bool, -Bool.forall_bool, drop_map, take_map, tail_map]
      rw [m_line_through S sp ha ⟨b0, b1⟩]
      simp [-List.map_map, -List.map_drop, -List.map_tail, -List.map_take, -Bool.exists_bool, -Bool.forall_bool, drop_map, take_map, tail_map]
      rw [m_line_through S sp ⟨b0, b1⟩ ha, if_neg (Ne.symm e), if_neg e, e2]
      simp [-List.map_map, -List.map_drop, -List.map_tail, -List.map_take, -Bool.exists_bool, -Bool.forall_bool, drop_map, take_map, tail_map]
      have : okDL 4 [tupI (lineT L a b), tupI (lineT L a b)] = true := plain_tup [lineT L a b, lineT L a b] fun l hl => by
        simp at hl
        subst hl
        omega
      refine s_alike (k := 5) rfl (by simp [okD, this]) ?_
      simp [-List.map_map, -List.map_drop, -List.map_tail, -List.map_take, -Bool.exists_bool, -Bool.forall_bool, drop_map, take_map, tail_map]
      exact o
  rintro ρ ω ⟨o, rfl⟩
  exact k00_s4 S sp n3 n13 hs o
theorem law_k00_true (S : Sp0 G) (o : OkRw ω) : Sat (d_law_k00 G (rowS 19 1) ω) QK nE := by
  have sz := size_big
  simp only [d_law_k00, t_law_k00, dens, den, dv, rowS]
  simp [-List.map_map, -List.map_drop, -List.map_tail, -List.map_take, -Bool.exists_bool, -Bool.forall_bool, drop_map, take_map, tail_map]
  refine s_space o (by omega) fun n L h hs n3 hn ω o => ?_
  have n13 : n ≤ 13 := by omega
  have hlen := h.len
  simp [-List.map_map, -List.map_drop, -List.map_tail, -List.map_take, -Bool.exists_bool, -Bool.forall_bool, drop_map, take_map, tail_map]
  simp only [t_law_k00_s1, dens, den, dv]
  simp [-List.map_map, -List.map_drop, -List.map_tail, -List.map_take, -Bool.exists_bool, -Bool.forall_bool, drop_map, take_map, tail_map]
  refine s_shuffled (ps := L.map tupI) (by simp; omega) rfl o fun qs hq ω o => ?_
  refine s_pick (by simp) (by simp) o fun r hr ω o => ?_
  have hsp : ∃ D, SpOk n L D ∧ ∀ ω, F_Space___init__ G [.int n, r] ω = .ok (spc n L D) ω := by
    simp only [List.mem_cons, List.not_mem_nil, or_false] at hr
    rcases hr with rfl | rfl | rfl
    · exact ⟨_, h.spOk (.refl _), fun ω => by rw [m_Space_lin S h (.inl rfl), ← hs]⟩
    · exact ⟨_, h.spOk (.refl _), fun ω => by rw [m_Space_lin S h (.inr rfl), ← hs]⟩
    · obtain ⟨L', rfl, hp⟩ : ∃ L' : List (List Int), qs = L'.map tupI ∧ L'.Perm L := perm_tups hq
      have h' := h.perm hp.symm
      have e : tsort L' = L := by
        rw [hs]
        exact (tsort_uniq ((tsort_perm L).trans hp.symm) (tsort_pair L)).symm
      exact ⟨_, h'.spOk hp, fun ω => by rw [m_Space_lin S h' (.inl rfl), e]⟩
  obtain ⟨D, sp, hD⟩ := hsp
  simp [-List.map_map, -List.map_drop, -List.map_tail, -List.map_take, -Bool.exists_bool, -Bool.forall_bool, drop_map, take_map, tail_map, hD]
  simp only [t_law_k00_s2, dens, den, dv]
  simp [-List.map_map, -List.map_drop, -List.map_tail, -List.map_take, -Bool.exists_bool, -Bool.forall_bool, drop_map, take_map, tail_map, fld_points S, fld_lines S]
  have kL : ∀ k : Nat, okDL (k + 1) (L.map tupI) = true := fun k => plain_tup L fun l hl => by have := h.line_len hl; omega
  refine s_alike (k := 5) rfl (by simp [okD, okDL, kL]; omega) ?_
  simp [-List.map_map, -List.map_drop, -List.map_tail, -List.map_take, -Bool.exists_bool, -Bool.forall_bool, drop_map, take_map, tail_map]
  exact k00_s3 S sp n3 n13 hs o
end
end GP
-- LK00
set_option maxRecDepth 100000
set_option maxHeartbeats 0
namespace GP
open PySem PySem.Spec PyProof.Rows L2
namespace K00
def top (i : Nat) : Stmt := PySem.Challenge.pw_fewpoints_k00_spaces.main.body.getD i (.Pass ⟨0, 0, 0, 0⟩)
def d_is_integer : He.DefD := ⟨("is_integer", none), "is_integer", "is_integer", defArgs (top 2), defBody (top 2), defScope (top 2), [], []⟩
def d_is_within : He.DefD := ⟨("is_within", none), "is_within", "is_within", defArgs (top 3), defBody (top 3), defScope (top 3), [], []⟩
def d_is_row : He.DefD := ⟨("is_row", none), "is_row", "is_row", defArgs (top 4), defBody (top 4), defScope (top 4), [], []⟩
def d_is_set : He.DefD := ⟨("is_set", none), "is_set", "is_set", defArgs (top 5), defBody (top 5), defScope (top 5), [], []⟩
def d_SpaceError___init__ : He.DefD := ⟨("SpaceError", some "__init__"), "__init__", "SpaceError.__init__", defArgs ((C8.clsBody (top 7)).getD 0 (.Pass ⟨0, 0, 0, 0⟩)), defBody ((C8.clsBody (top 7)).getD 0 (.Pass ⟨0, 0, 0, 0⟩)), defScope ((C8.clsBody (top 7)).getD 0 (.Pass ⟨0, 0, 0, 0⟩)), [.non], []⟩
def d_Space___init__ : He.DefD := ⟨("Space", some "__init__"), "__init__", "Space.__init__", defArgs ((C8.clsBody (top 17)).getD 0 (.Pass ⟨0, 0, 0, 0⟩)), defBody ((C8.clsBody (top 17)).getD 0 (.Pass ⟨0, 0, 0, 0⟩)), defScope ((C8.clsBody (top 17)).getD 0 (.Pass ⟨0, 0, 0, 0⟩)), [], []⟩
def d_Space_line : He.DefD := ⟨("Space", some "line"), "line", "Space.line", defArgs ((C8.clsBody (top 17)).getD 1 (.Pass ⟨0, 0, 0, 0⟩)), defBody ((C8.clsBody (top 17)).getD 1 (.Pass ⟨0, 0, 0, 0⟩)), defScope ((C8.clsBody (top 17)).getD 1 (.Pass ⟨0, 0, 0, 0⟩)), [], []⟩
def d_check_space : He.DefD := ⟨("check_space", none), "check_space", "check_space", defArgs (top 18), defBody (top 18), defScope (top 18), [], []⟩
def d_check_point : He.DefD := ⟨("check_point", none), "check_point", "check_point", defArgs (top 19), defBody (top 19), defScope (top 19), [], []⟩
def d_check_set : He.DefD := ⟨("check_set", none), "check_set", "check_set", defArgs (top 20), defBody (top 20), defScope (top 20), [], []⟩
def d_line_through : He.DefD := ⟨("line_through", none), "line_through", "line_through", defArgs (top 21), defBody (top 21), defScope (top 21), [], []⟩
def d_lines_on : He.DefD := ⟨("lines_on", none), "lines_on", "lines_on", defArgs (top 22), defBody (top 22), defScope (top 22), [], []⟩
def d_are_on_line : He.DefD := ⟨("are_on_line", none), "are_on_line", "are_on_line", defArgs (top 23), defBody (top 23), defScope (top 23), [], []⟩
def d_apart_lines : He.DefD := ⟨("apart_lines", none), "apart_lines", "apart_lines", defArgs (top 24), defBody (top 24), defScope (top 24), [], []⟩
def d_is_plane : He.DefD := ⟨("is_plane", none), "is_plane", "is_plane", defArgs (top 25), defBody (top 25), defScope (top 25), [], []⟩
def d_size_of : He.DefD := ⟨("size_of", none), "size_of", "size_of", defArgs (top 26), defBody (top 26), defScope (top 26), [], []⟩
def d_dual : He.DefD := ⟨("dual", none), "dual", "dual", defArgs (top 27), defBody (top 27), defScope (top 27), [], []⟩
def d_without : He.DefD := ⟨("without", none), "without", "without", defArgs (top 28), defBody (top 28), defScope (top 28), [], []⟩
def d__law_taken : He.DefD := ⟨("_law_taken", none), "_law_taken", "_law_taken", defArgs (top 30), defBody (top 30), defScope (top 30), [], []⟩
def d__law_pick : He.DefD := ⟨("_law_pick", none), "_law_pick", "_law_pick", defArgs (top 31), defBody (top 31), defScope (top 31), [], []⟩
def d__law_alike : He.DefD := ⟨("_law_alike", none), "_law_alike", "_law_alike", defArgs (top 32), defBody (top 32), defScope (top 32), [], []⟩
def d__law_unlike : He.DefD := ⟨("_law_unlike", none), "_law_unlike", "_law_unlike", defArgs (top 33), defBody (top 33), defScope (top 33), [], []⟩
def d__law_shuffled : He.DefD := ⟨("_law_shuffled", none), "_law_shuffled", "_law_shuffled", defArgs (top 34), defBody (top 34), defScope (top 34), [], []⟩
def d__law_within : He.DefD := ⟨("_law_within", none), "_law_within", "_law_within", defArgs (top 35), defBody (top 35), defScope (top 35), [], []⟩
def d__law_ring : He.DefD := ⟨("_law_ring", none), "_law_ring", "_law_ring", defArgs (top 36), defBody (top 36), defScope (top 36), [], []⟩
def d__law_base : He.DefD := ⟨("_law_base", none), "_law_base", "_law_base", defArgs (top 37), defBody (top 37), defScope (top 37), [], []⟩
def d__law_open_three : He.DefD := ⟨("_law_open_three", none), "_law_open_three", "_law_open_three", defArgs (top 38), defBody (top 38), defScope (top 38), [], []⟩
def d__law_less_points : He.DefD := ⟨("_law_less_points", none), "_law_less_points", "_law_less_points", defArgs (top 39), defBody (top 39), defScope (top 39), [], []⟩
def d__law_named : He.DefD := ⟨("_law_named", none), "_law_named", "_law_named", defArgs (top 40), defBody (top 40), defScope (top 40), [], []⟩
def d__law_space : He.DefD := ⟨("_law_space", none), "_law_space", "_law_space", defArgs (top 41), defBody (top 41), defScope (top 41), [], []⟩
def d__law_through : He.DefD := ⟨("_law_through", none), "_law_through", "_law_through", defArgs (top 42), defBody (top 42), defScope (top 42), [], []⟩
def d__law_bad_space : He.DefD := ⟨("_law_bad_space", none), "_law_bad_space", "_law_bad_space", defArgs (top 43), defBody (top 43), defScope (top 43), [], []⟩
def d__law_some : He.DefD := ⟨("_law_some", none), "_law_some", "_law_some", defArgs (top 44), defBody (top 44), defScope (top 44), [], []⟩
def d__law_apart : He.DefD := ⟨("_law_apart", none), "_law_apart", "_law_apart", defArgs (top 45), defBody (top 45), defScope (top 45), [], []⟩
def d__law_wrong_lines : He.DefD := ⟨("_law_wrong_lines", none), "_law_wrong_lines", "_law_wrong_lines", defArgs (top 46), defBody (top 46), defScope (top 46), [], []⟩
def d__law_refusals : He.DefD := ⟨("_law_refusals", none), "_law_refusals", "_law_refusals", defArgs (top 47), defBody (top 47), defScope (top 47), [], []⟩
def d__law_refused : He.DefD := ⟨("_law_refused", none), "_law_refused", "_law_refused", defArgs (top 48), defBody (top 48), defScope (top 48), [], []⟩
def d_law : He.DefD := ⟨("law", none), "law", "law", defArgs (top 49), defBody (top 49), defScope (top 49), [], []⟩
def fn : List He.DefD := [d_is_integer, d_is_within, d_is_row, d_is_set, d_SpaceError___init__, d_Space___init__, d_Space_line, d_check_space, d_check_point, d_check_set, d_line_through, d_lines_on, d_are_on_line, d_apart_lines, d_is_plane, d_size_of, d_dual, d_without, d__law_taken, d__law_pick, d__law_alike, d__law_unlike, d__law_shuffled, d__law_within, d__law_ring, d__law_base, d__law_open_three, d__law_less_points, d__law_named, d__law_space, d__law_through, d__law_bad_space, d__law_some, d__law_apart, d__law_wrong_lines, d__law_refusals, d__law_refused, d_law]
def nms : List Str := ["Space", "Field", "Build", "Marked", "Desk", "SpaceError", "BadPoints", "BadLines", "BadSpace", "BadMarks", "BadMarked", "BadSets", "BadOther", "BadPoint", "BadSet", "BadSize", "BadField", "BadElement", "BadFigure", "BadPrime", "BadBuild", "BadMap", "BadText", "BadCommand", "NoLine", "NoPlane"]
def fls : List (List Str) := [["points", "lines", "through"], [], [], [], []]
def ts : List Nat := [0]
def ids : List Nat := [6, 7, 8, 13, 14, 24, 25]
def fa : List He.Fa := [.glo "_wall", .glo "is_integer", .glo "is_within", .glo "is_row", .glo "is_set", .glo "check_space", .glo "check_point", .glo "check_set", .glo "line_through", .glo "lines_on", .glo "are_on_line", .glo "apart_lines", .glo "is_plane", .glo "size_of", .glo "dual", .glo "without", .glo "_law_taken", .glo "_law_pick", .glo "_law_alike", .glo "_law_unlike", .glo "_law_shuffled", .glo "_law_within", .glo "_law_ring", .glo "_law_base", .glo "_law_open_three", .glo "_law_less_points", .glo "_law_named", .glo "_law_space", .glo "_law_through", .glo "_law_bad_space", .glo "_law_some", .glo "_law_apart", .glo "_law_wrong_lines", .glo "_law_refusals", .glo "_law_refused", .glo "law", .glo "SpaceError", .glo "BadPoints", .glo "BadLines", .glo "BadSpace", .glo "BadPoint", .glo "BadSet", .glo "NoLine", .glo "NoPlane", .glo "Space", .free "len", .free "list", .free "tuple", .free "sum", .free "max", .free "min", .free "all", .free "any", .free "int", .free "range", .free "sorted", .free "dict", .free "isinstance", .free "enumerate", .free "zip", .free "bool", .free "str", .free "repr", .int "MOST_POINTS" 21, .meth "Space" "line", .mkr "Space"]
def tf : List He.Defn := [("_law_wrong_lines", none), ("_law_refusals", none), ("law", none)]
def ex (K : PySem.W.Frag) : Bool := exAll nms fls ts ids cs__law_refused_k00 tf K
abbrev R : PySem.W.OpenRow := PySem.W.OpenLaw.row PySem.Challenge.rw_fewpoints_k00_spaces
abbrev hk : PySem.W.Hook := He.hookX 5 fa fn [] tf ex
def ob (s : PySem.W.SharedT) : He.AlX := He.obsX 5 fa fn [] tf ex (HandSHeadRun.getT s)
theorem ob_eq (s : PySem.W.SharedT) : ob s = hk.obs s.abs := He.obsX_eq (HandSHeadRun.getT_eq s)
def loose : List Str := (["_wall", "__name__", "is_integer", "is_within", "is_row", "is_set", "SpaceError", "BadPoints", "BadLines", "BadSpace", "BadPoint", "BadSet", "NoLine", "NoPlane", "MOST_POINTS", "Space", "check_space", "check_point", "check_set", "line_through", "lines_on", "are_on_line", "apart_lines", "is_plane", "size_of"] : List Str) ++ (["dual", "without", "_law_taken", "_law_pick", "_law_alike", "_law_unlike", "_law_shuffled", "_law_within", "_law_ring", "_law_base", "_law_open_three", "_law_less_points", "_law_named", "_law_space", "_law_through", "_law_bad_space", "_law_some", "_law_apart", "_law_wrong_lines", "_law_refusals", "_law_refused"] : List Str)
theorem run (w : World) : HandSHeadRun.RunEq R (PySem.W.view R.prog [49]) hk ob 20000 loose w := by
  intro os
  kernel_rfl
theorem m_is_integer : ms N_is_integer sg_is_integer (defScope (top 2)) t_is_integer (.sts (defBody (top 2))) = true := by decide +kernel
theorem m_is_within : ms N_is_within sg_is_within (defScope (top 3)) t_is_within (.sts (defBody (top 3))) = true := by decide +kernel
theorem m_is_row : ms N_is_row sg_is_row (defScope (top 4)) t_is_row (.sts (defBody (top 4))) = true := by decide +kernel
theorem m_is_set : ms N_is_set sg_is_set (defScope (top 5)) t_is_set (.sts (defBody (top 5))) = true := by decide +kernel
theorem m_Space___init__ : ms N_Space___init__ sg_Space___init__ (defScope ((C8.clsBody (top 17)).getD 0 (.Pass ⟨0, 0, 0, 0⟩))) t_Space___init__ (.sts (defBody ((C8.clsBody (top 17)).getD 0 (.Pass ⟨0, 0, 0, 0⟩)))) = true := by decide +kernel
theorem m_Space_line : ms N_Space_line sg_Space_line (defScope ((C8.clsBody (top 17)).getD 1 (.Pass ⟨0, 0, 0, 0⟩))) t_Space_line (.sts (defBody ((C8.clsBody (top 17)).getD 1 (.Pass ⟨0, 0, 0, 0⟩)))) = true := by decide +kernel
theorem m_check_space : ms N_check_space sg_check_space (defScope (top 18)) t_check_space (.sts (defBody (top 18))) = true := by decide +kernel
theorem m_check_point : ms N_check_point sg_check_point (defScope (top 19)) t_check_point (.sts (defBody (top 19))) = true := by decide +kernel
theorem m_check_set : ms N_check_set sg_check_set (defScope (top 20)) t_check_set (.sts (defBody (top 20))) = true := by decide +kernel
theorem m_line_through : ms N_line_through sg_line_through (defScope (top 21)) t_line_through (.sts (defBody (top 21))) = true := by decide +kernel
theorem m_lines_on : ms N_lines_on sg_lines_on (defScope (top 22)) t_lines_on (.sts (defBody (top 22))) = true := by decide +kernel
theorem m_are_on_line : ms N_are_on_line sg_are_on_line (defScope (top 23)) t_are_on_line (.sts (defBody (top 23))) = true := by decide +kernel
theorem m_apart_lines : ms N_apart_lines sg_apart_lines (defScope (top 24)) t_apart_lines (.sts (defBody (top 24))) = true := by decide +kernel
theorem m_is_plane : ms N_is_plane sg_is_plane (defScope (top 25)) t_is_plane (.sts (defBody (top 25))) = true := by decide +kernel
theorem m_size_of : ms N_size_of sg_size_of (defScope (top 26)) t_size_of (.sts (defBody (top 26))) = true := by decide +kernel
theorem m_dual : ms N_dual sg_dual (defScope (top 27)) t_dual (.sts (defBody (top 27))) = true := by decide +kernel
theorem m_without : ms N_without sg_without (defScope (top 28)) t_without (.sts (defBody (top 28))) = true := by decide +kernel
theorem m__law_pick : ms N__law_pick sg__law_pick (defScope (top 31)) t__law_pick (.sts (defBody (top 31))) = true := by decide +kernel
theorem m__law_alike : ms N__law_alike sg__law_alike (defScope (top 32)) t__law_alike (.sts (defBody (top 32))) = true := by decide +kernel
theorem m__law_unlike : ms N__law_unlike sg__law_unlike (defScope (top 33)) t__law_unlike (.sts (defBody (top 33))) = true := by decide +kernel
theorem m__law_shuffled : ms N__law_shuffled sg__law_shuffled (defScope (top 34)) t__law_shuffled (.sts (defBody (top 34))) = true := by decide +kernel
theorem m__law_within : ms N__law_within sg__law_within (defScope (top 35)) t__law_within (.sts (defBody (top 35))) = true := by decide +kernel
theorem m__law_ring : ms N__law_ring sg__law_ring (defScope (top 36)) t__law_ring (.sts (defBody (top 36))) = true := by decide +kernel
theorem m__law_base : ms N__law_base sg__law_base (defScope (top 37)) t__law_base (.sts (defBody (top 37))) = true := by decide +kernel
theorem m__law_open_three : ms N__law_open_three sg__law_open_three (defScope (top 38)) t__law_open_three (.sts (defBody (top 38))) = true := by decide +kernel
theorem m__law_less_points : ms N__law_less_points sg__law_less_points (defScope (top 39)) t__law_less_points (.sts (defBody (top 39))) = true := by decide +kernel
theorem m__law_named : ms N__law_named sg__law_named (defScope (top 40)) t__law_named (.sts (defBody (top 40))) = true := by decide +kernel
theorem m__law_space : ms N__law_space sg__law_space (defScope (top 41)) t__law_space (.sts (defBody (top 41))) = true := by decide +kernel
theorem m__law_through : ms N__law_through sg__law_through (defScope (top 42)) t__law_through (.sts (defBody (top 42))) = true := by decide +kernel
theorem m__law_bad_space : ms N__law_bad_space sg__law_bad_space (defScope (top 43)) t__law_bad_space (.sts (defBody (top 43))) = true := by decide +kernel
theorem m__law_some : ms N__law_some sg__law_some (defScope (top 44)) t__law_some (.sts (defBody (top 44))) = true := by decide +kernel
theorem m__law_apart : ms N__law_apart sg__law_apart (defScope (top 45)) t__law_apart (.sts (defBody (top 45))) = true := by decide +kernel
theorem m__law_wrong_lines : ms N__law_wrong_lines sg__law_wrong_lines (defScope (top 46)) t__law_wrong_lines (.sts (defBody (top 46))) = true := by decide +kernel
theorem m__law_refusals_k00 : ms N__law_refusals_k00 sg__law_refusals_k00 (defScope (top 47)) t__law_refusals_k00 (.sts (defBody (top 47))) = true := by decide +kernel
theorem m_tk : ms N_tk sg_tk (defScope (top 30)) t_tk (.sts (defBody (top 30))) = true := by decide +kernel
def bL : Stmt := (defBody (top 49)).headD (.Pass ⟨0, 0, 0, 0⟩)
def rL : List Stmt := (defBody (top 49)).tail
theorem eL : defBody (top 49) = bL :: rL := by kernel_rfl
theorem m_row : rowM N_law_k00 (defScope (top 49)) 1 401 bL = true := by decide +kernel
theorem m_law : ms N_law_k00 sg_law_k00 (defScope (top 49)) t_law_k00 (.sts rL) = true := by decide +kernel
section
variable {w : World} {mg : Str → Option Value} {base : Heap} {K : PySem.W.Frag}
abbrev Fx (w : World) (mg : Str → Option Value) (base : Heap) (K : PySem.W.Frag) : Prop := FX R.prog fa fn nms fls ts ids cs__law_refused_k00 tf w mg base K
abbrev GG (w : World) (mg : Str → Option Value) (base : Heap) (K : PySem.W.Frag) : Pg := GX R.prog nms fls ts tf w mg base K
theorem fre (F : Fx w mg base K) : ∀ x ∈ freeN, (GG w mg base K).mg x = none := by
  intro x hx
  simp only [freeN, List.mem_cons, List.not_mem_nil, or_false] at hx
  rcases hx with rfl | rfl | rfl | rfl | rfl | rfl | rfl | rfl | rfl | rfl | rfl | rfl | rfl | rfl | rfl | rfl | rfl | rfl
  · exact F.free 45
  · exact F.free 46
  · exact F.free 47
  · exact F.free 48
  · exact F.free 49
  · exact F.free 50
  · exact F.free 51
  · exact F.free 52
  · exact F.free 53
  · exact F.free 54
  · exact F.free 55
  · exact F.free 56
  · exact F.free 57
  · exact F.free 58
  · exact F.free 59
  · exact F.free 60
  · exact F.free 61
  · exact F.free 62
theorem D_is_integer (F : Fx w mg base K) : ∃ fd, FunD K "is_integer" "is_integer" (defArgs (top 2)) (defBody (top 2)) (defScope (top 2)) [] [] (He.fAd K ("is_integer", none)) fd := F.d.def_ 0 (d := d_is_integer) rfl
theorem S_is_integer : FnScope N_is_integer ["thing"] (defScope (top 2)) := scope_ok (by decide +kernel)
theorem B_is_integer {fd : FuncData} (D : FunD K "is_integer" "is_integer" (defArgs (top 2)) (defBody (top 2)) (defScope (top 2)) [] [] (He.fAd K ("is_integer", none)) fd) : Binds K fd ["thing"] [] := D.bindsN fun _ _ _ _ _ _ us hl => match us, hl with | [_], _ => rfl
theorem D_is_within (F : Fx w mg base K) : ∃ fd, FunD K "is_within" "is_within" (defArgs (top 3)) (defBody (top 3)) (defScope (top 3)) [] [] (He.fAd K ("is_within", none)) fd := F.d.def_ 1 (d := d_is_within) rfl
theorem S_is_within : FnScope N_is_within ["thing", "least", "most"] (defScope (top 3)) := scope_ok (by decide +kernel)
theorem B_is_within {fd : FuncData} (D : FunD K "is_within" "is_within" (defArgs (top 3)) (defBody (top 3)) (defScope (top 3)) [] [] (He.fAd K ("is_within", none)) fd) : Binds K fd ["thing", "least", "most"] [] := D.bindsN fun _ _ _ _ _ _ us hl => match us, hl with | [_, _, _], _ => rfl
theorem D_is_row (F : Fx w mg base K) : ∃ fd, FunD K "is_row" "is_row" (defArgs (top 4)) (defBody (top 4)) (defScope (top 4)) [] [] (He.fAd K ("is_row", none)) fd := F.d.def_ 2 (d := d_is_row) rfl
theorem S_is_row : FnScope N_is_row ["thing"] (defScope (top 4)) := scope_ok (by decide +kernel)
theorem B_is_row {fd : FuncData} (D : FunD K "is_row" "is_row" (defArgs (top 4)) (defBody (top 4)) (defScope (top 4)) [] [] (He.fAd K ("is_row", none)) fd) : Binds K fd ["thing"] [] := D.bindsN fun _ _ _ _ _ _ us hl => match us, hl with | [_], _ => rfl
theorem D_is_set (F : Fx w mg base K) : ∃ fd, FunD K "is_set" "is_set" (defArgs (top 5)) (defBody (top 5)) (defScope (top 5)) [] [] (He.fAd K ("is_set", none)) fd := F.d.def_ 3 (d := d_is_set) rfl
theorem S_is_set : FnScope N_is_set ["thing", "most"] (defScope (top 5)) := scope_ok (by decide +kernel)
theorem B_is_set {fd : FuncData} (D : FunD K "is_set" "is_set" (defArgs (top 5)) (defBody (top 5)) (defScope (top 5)) [] [] (He.fAd K ("is_set", none)) fd) : Binds K fd ["thing", "most"] [] := D.bindsN fun _ _ _ _ _ _ us hl => match us, hl with | [_, _], _ => rfl
theorem D_SpaceError___init__ (F : Fx w mg base K) : ∃ fd, FunD K "__init__" "SpaceError.__init__" (defArgs ((C8.clsBody (top 7)).getD 0 (.Pass ⟨0, 0, 0, 0⟩))) (defBody ((C8.clsBody (top 7)).getD 0 (.Pass ⟨0, 0, 0, 0⟩))) (defScope ((C8.clsBody (top 7)).getD 0 (.Pass ⟨0, 0, 0, 0⟩))) [V.non] [] (He.fAd K ("SpaceError", some "__init__")) fd := F.d.def_ 4 (d := d_SpaceError___init__) rfl
theorem S_SpaceError___init__ : FnScope ["self", "value"] ["self", "value"] (defScope ((C8.clsBody (top 7)).getD 0 (.Pass ⟨0, 0, 0, 0⟩))) := scope_ok (by decide +kernel)
theorem B_SpaceError___init__ {fd : FuncData} (D : FunD K "__init__" "SpaceError.__init__" (defArgs ((C8.clsBody (top 7)).getD 0 (.Pass ⟨0, 0, 0, 0⟩))) (defBody ((C8.clsBody (top 7)).getD 0 (.Pass ⟨0, 0, 0, 0⟩))) (defScope ((C8.clsBody (top 7)).getD 0 (.Pass ⟨0, 0, 0, 0⟩))) [V.non] [] (He.fAd K ("SpaceError", some "__init__")) fd) : Binds K fd ["self", "value"] [] := by
  obtain ⟨ds, h1, h2⟩ := D.binds1 (ps := ["self", "value"]) 2 1 (by simp) rfl fun T kV doc pm an cdv ct us its hu hi => match us, its, hu, hi with | [_, _], [_], _, _ => ⟨_, rfl, rfl⟩
  cases h1
  exact h2
theorem D_Space___init__ (F : Fx w mg base K) : ∃ fd, FunD K "__init__" "Space.__init__" (defArgs ((C8.clsBody (top 17)).getD 0 (.Pass ⟨0, 0, 0, 0⟩))) (defBody ((C8.clsBody (top 17)).getD 0 (.Pass ⟨0, 0, 0, 0⟩))) (defScope ((C8.clsBody (top 17)).getD 0 (.Pass ⟨0, 0, 0, 0⟩))) [] [] (He.fAd K ("Space", some "__init__")) fd := F.d.def_ 5 (d := d_Space___init__) rfl
theorem S_Space___init__ : FnScope N_Space___init__ ["self", "points", "lines"] (defScope ((C8.clsBody (top 17)).getD 0 (.Pass ⟨0, 0, 0, 0⟩))) := scope_ok (by decide +kernel)
theorem B_Space___init__ {fd : FuncData} (D : FunD K "__init__" "Space.__init__" (defArgs ((C8.clsBody (top 17)).getD 0 (.Pass ⟨0, 0, 0, 0⟩))) (defBody ((C8.clsBody (top 17)).getD 0 (.Pass ⟨0, 0, 0, 0⟩))) (defScope ((C8.clsBody (top 17)).getD 0 (.Pass ⟨0, 0, 0, 0⟩))) [] [] (He.fAd K ("Space", some "__init__")) fd) : Binds K fd ["self", "points", "lines"] [] := D.bindsN fun _ _ _ _ _ _ us hl => match us, hl with | [_, _, _], _ => rfl
theorem D_Space_line (F : Fx w mg base K) : ∃ fd, FunD K "line" "Space.line" (defArgs ((C8.clsBody (top 17)).getD 1 (.Pass ⟨0, 0, 0, 0⟩))) (defBody ((C8.clsBody (top 17)).getD 1 (.Pass ⟨0, 0, 0, 0⟩))) (defScope ((C8.clsBody (top 17)).getD 1 (.Pass ⟨0, 0, 0, 0⟩))) [] [] (He.fAd K ("Space", some "line")) fd := F.d.def_ 6 (d := d_Space_line) rfl
theorem S_Space_line : FnScope N_Space_line ["self", "a", "b"] (defScope ((C8.clsBody (top 17)).getD 1 (.Pass ⟨0, 0, 0, 0⟩))) := scope_ok (by decide +kernel)
theorem B_Space_line {fd : FuncData} (D : FunD K "line" "Space.line" (defArgs ((C8.clsBody (top 17)).getD 1 (.Pass ⟨0, 0, 0, 0⟩))) (defBody ((C8.clsBody (top 17)).getD 1 (.Pass ⟨0, 0, 0, 0⟩))) (defScope ((C8.clsBody (top 17)).getD 1 (.Pass ⟨0, 0, 0, 0⟩))) [] [] (He.fAd K ("Space", some "line")) fd) : Binds K fd ["self", "a", "b"] [] := D.bindsN fun _ _ _ _ _ _ us hl => match us, hl with | [_, _, _], _ => rfl
theorem D_check_space (F : Fx w mg base K) : ∃ fd, FunD K "check_space" "check_space" (defArgs (top 18)) (defBody (top 18)) (defScope (top 18)) [] [] (He.fAd K ("check_space", none)) fd := F.d.def_ 7 (d := d_check_space) rfl
theorem S_check_space : FnScope N_check_space ["space"] (defScope (top 18)) := scope_ok (by decide +kernel)
theorem B_check_space {fd : FuncData} (D : FunD K "check_space" "check_space" (defArgs (top 18)) (defBody (top 18)) (defScope (top 18)) [] [] (He.fAd K ("check_space", none)) fd) : Binds K fd ["space"] [] := D.bindsN fun _ _ _ _ _ _ us hl => match us, hl with | [_], _ => rfl
theorem D_check_point (F : Fx w mg base K) : ∃ fd, FunD K "check_point" "check_point" (defArgs (top 19)) (defBody (top 19)) (defScope (top 19)) [] [] (He.fAd K ("check_point", none)) fd := F.d.def_ 8 (d := d_check_point) rfl
theorem S_check_point : FnScope N_check_point ["space", "point"] (defScope (top 19)) := scope_ok (by decide +kernel)
theorem B_check_point {fd : FuncData} (D : FunD K "check_point" "check_point" (defArgs (top 19)) (defBody (top 19)) (defScope (top 19)) [] [] (He.fAd K ("check_point", none)) fd) : Binds K fd ["space", "point"] [] := D.bindsN fun _ _ _ _ _ _ us hl => match us, hl with | [_, _], _ => rfl
theorem D_check_set (F : Fx w mg base K) : ∃ fd, FunD K "check_set" "check_set" (defArgs (top 20)) (defBody (top 20)) (defScope (top 20)) [] [] (He.fAd K ("check_set", none)) fd := F.d.def_ 9 (d := d_check_set) rfl
theorem S_check_set : FnScope N_check_set ["space", "some"] (defScope (top 20)) := scope_ok (by decide +kernel)
theorem B_check_set {fd : FuncData} (D : FunD K "check_set" "check_set" (defArgs (top 20)) (defBody (top 20)) (defScope (top 20)) [] [] (He.fAd K ("check_set", none)) fd) : Binds K fd ["space", "some"] [] := D.bindsN fun _ _ _ _ _ _ us hl => match us, hl with | [_, _], _ => rfl
theorem D_line_through (F : Fx w mg base K) : ∃ fd, FunD K "line_through" "line_through" (defArgs (top 21)) (defBody (top 21)) (defScope (top 21)) [] [] (He.fAd K ("line_through", none)) fd := F.d.def_ 10 (d := d_line_through) rfl
theorem S_line_through : FnScope N_line_through ["space", "a", "b"] (defScope (top 21)) := scope_ok (by decide +kernel)
theorem B_line_through {fd : FuncData} (D : FunD K "line_through" "line_through" (defArgs (top 21)) (defBody (top 21)) (defScope (top 21)) [] [] (He.fAd K ("line_through", none)) fd) : Binds K fd ["space", "a", "b"] [] := D.bindsN fun _ _ _ _ _ _ us hl => match us, hl with | [_, _, _], _ => rfl
theorem D_lines_on (F : Fx w mg base K) : ∃ fd, FunD K "lines_on" "lines_on" (defArgs (top 22)) (defBody (top 22)) (defScope (top 22)) [] [] (He.fAd K ("lines_on", none)) fd := F.d.def_ 11 (d := d_lines_on) rfl
theorem S_lines_on : FnScope N_lines_on ["space", "point"] (defScope (top 22)) := scope_ok (by decide +kernel)
theorem B_lines_on {fd : FuncData} (D : FunD K "lines_on" "lines_on" (defArgs (top 22)) (defBody (top 22)) (defScope (top 22)) [] [] (He.fAd K ("lines_on", none)) fd) : Binds K fd ["space", "point"] [] := D.bindsN fun _ _ _ _ _ _ us hl => match us, hl with | [_, _], _ => rfl
theorem D_are_on_line (F : Fx w mg base K) : ∃ fd, FunD K "are_on_line" "are_on_line" (defArgs (top 23)) (defBody (top 23)) (defScope (top 23)) [] [] (He.fAd K ("are_on_line", none)) fd := F.d.def_ 12 (d := d_are_on_line) rfl
theorem S_are_on_line : FnScope N_are_on_line ["space", "some"] (defScope (top 23)) := scope_ok (by decide +kernel)
theorem B_are_on_line {fd : FuncData} (D : FunD K "are_on_line" "are_on_line" (defArgs (top 23)) (defBody (top 23)) (defScope (top 23)) [] [] (He.fAd K ("are_on_line", none)) fd) : Binds K fd ["space", "some"] [] := D.bindsN fun _ _ _ _ _ _ us hl => match us, hl with | [_, _], _ => rfl
theorem D_apart_lines (F : Fx w mg base K) : ∃ fd, FunD K "apart_lines" "apart_lines" (defArgs (top 24)) (defBody (top 24)) (defScope (top 24)) [] [] (He.fAd K ("apart_lines", none)) fd := F.d.def_ 13 (d := d_apart_lines) rfl
theorem S_apart_lines : FnScope N_apart_lines ["space"] (defScope (top 24)) := scope_ok (by decide +kernel)
theorem B_apart_lines {fd : FuncData} (D : FunD K "apart_lines" "apart_lines" (defArgs (top 24)) (defBody (top 24)) (defScope (top 24)) [] [] (He.fAd K ("apart_lines", none)) fd) : Binds K fd ["space"] [] := D.bindsN fun _ _ _ _ _ _ us hl => match us, hl with | [_], _ => rfl
theorem D_is_plane (F : Fx w mg base K) : ∃ fd, FunD K "is_plane" "is_plane" (defArgs (top 25)) (defBody (top 25)) (defScope (top 25)) [] [] (He.fAd K ("is_plane", none)) fd := F.d.def_ 14 (d := d_is_plane) rfl
theorem S_is_plane : FnScope N_is_plane ["space"] (defScope (top 25)) := scope_ok (by decide +kernel)
theorem B_is_plane {fd : FuncData} (D : FunD K "is_plane" "is_plane" (defArgs (top 25)) (defBody (top 25)) (defScope (top 25)) [] [] (He.fAd K ("is_plane", none)) fd) : Binds K fd ["space"] [] := D.bindsN fun _ _ _ _ _ _ us hl => match us, hl with | [_], _ => rfl
theorem D_size_of (F : Fx w mg base K) : ∃ fd, FunD K "size_of" "size_of" (defArgs (top 26)) (defBody (top 26)) (defScope (top 26)) [] [] (He.fAd K ("size_of", none)) fd := F.d.def_ 15 (d := d_size_of) rfl
theorem S_size_of : FnScope N_size_of ["space"] (defScope (top 26)) := scope_ok (by decide +kernel)
theorem B_size_of {fd : FuncData} (D : FunD K "size_of" "size_of" (defArgs (top 26)) (defBody (top 26)) (defScope (top 26)) [] [] (He.fAd K ("size_of", none)) fd) : Binds K fd ["space"] [] := D.bindsN fun _ _ _ _ _ _ us hl => match us, hl with | [_], _ => rfl
theorem D_dual (F : Fx w mg base K) : ∃ fd, FunD K "dual" "dual" (defArgs (top 27)) (defBody (top 27)) (defScope (top 27)) [] [] (He.fAd K ("dual", none)) fd := F.d.def_ 16 (d := d_dual) rfl
theorem S_dual : FnScope N_dual ["space"] (defScope (top 27)) := scope_ok (by decide +kernel)
theorem B_dual {fd : FuncData} (D : FunD K "dual" "dual" (defArgs (top 27)) (defBody (top 27)) (defScope (top 27)) [] [] (He.fAd K ("dual", none)) fd) : Binds K fd ["space"] [] := D.bindsN fun _ _ _ _ _ _ us hl => match us, hl with | [_], _ => rfl
theorem D_without (F : Fx w mg base K) : ∃ fd, FunD K "without" "without" (defArgs (top 28)) (defBody (top 28)) (defScope (top 28)) [] [] (He.fAd K ("without", none)) fd := F.d.def_ 17 (d := d_without) rfl
theorem S_without : FnScope N_without ["space", "some"] (defScope (top 28)) := scope_ok (by decide +kernel)
theorem B_without {fd : FuncData} (D : FunD K "without" "without" (defArgs (top 28)) (defBody (top 28)) (defScope (top 28)) [] [] (He.fAd K ("without", none)) fd) : Binds K fd ["space", "some"] [] := D.bindsN fun _ _ _ _ _ _ us hl => match us, hl with | [_, _], _ => rfl
theorem D__law_taken (F : Fx w mg base K) : ∃ fd, FunD K "_law_taken" "_law_taken" (defArgs (top 30)) (defBody (top 30)) (defScope (top 30)) [] [] (He.fAd K ("_law_taken", none)) fd := F.d.def_ 18 (d := d__law_taken) rfl
theorem S__law_taken : FnScope N_tk ["row", "many"] (defScope (top 30)) := scope_ok (by decide +kernel)
theorem B__law_taken {fd : FuncData} (D : FunD K "_law_taken" "_law_taken" (defArgs (top 30)) (defBody (top 30)) (defScope (top 30)) [] [] (He.fAd K ("_law_taken", none)) fd) : Binds K fd ["row", "many"] [] := D.bindsN fun _ _ _ _ _ _ us hl => match us, hl with | [_, _], _ => rfl
theorem D__law_pick (F : Fx w mg base K) : ∃ fd, FunD K "_law_pick" "_law_pick" (defArgs (top 31)) (defBody (top 31)) (defScope (top 31)) [] [] (He.fAd K ("_law_pick", none)) fd := F.d.def_ 19 (d := d__law_pick) rfl
theorem S__law_pick : FnScope N__law_pick ["row", "some"] (defScope (top 31)) := scope_ok (by decide +kernel)
theorem B__law_pick {fd : FuncData} (D : FunD K "_law_pick" "_law_pick" (defArgs (top 31)) (defBody (top 31)) (defScope (top 31)) [] [] (He.fAd K ("_law_pick", none)) fd) : Binds K fd ["row", "some"] [] := D.bindsN fun _ _ _ _ _ _ us hl => match us, hl with | [_, _], _ => rfl
theorem D__law_alike (F : Fx w mg base K) : ∃ fd, FunD K "_law_alike" "_law_alike" (defArgs (top 32)) (defBody (top 32)) (defScope (top 32)) [] [] (He.fAd K ("_law_alike", none)) fd := F.d.def_ 20 (d := d__law_alike) rfl
theorem S__law_alike : FnScope N__law_alike ["found", "due"] (defScope (top 32)) := scope_ok (by decide +kernel)
theorem B__law_alike {fd : FuncData} (D : FunD K "_law_alike" "_law_alike" (defArgs (top 32)) (defBody (top 32)) (defScope (top 32)) [] [] (He.fAd K ("_law_alike", none)) fd) : Binds K fd ["found", "due"] [] := D.bindsN fun _ _ _ _ _ _ us hl => match us, hl with | [_, _], _ => rfl
theorem D__law_unlike (F : Fx w mg base K) : ∃ fd, FunD K "_law_unlike" "_law_unlike" (defArgs (top 33)) (defBody (top 33)) (defScope (top 33)) [] [] (He.fAd K ("_law_unlike", none)) fd := F.d.def_ 21 (d := d__law_unlike) rfl
theorem S__law_unlike : FnScope N__law_unlike ["things"] (defScope (top 33)) := scope_ok (by decide +kernel)
theorem B__law_unlike {fd : FuncData} (D : FunD K "_law_unlike" "_law_unlike" (defArgs (top 33)) (defBody (top 33)) (defScope (top 33)) [] [] (He.fAd K ("_law_unlike", none)) fd) : Binds K fd ["things"] [] := D.bindsN fun _ _ _ _ _ _ us hl => match us, hl with | [_], _ => rfl
theorem D__law_shuffled (F : Fx w mg base K) : ∃ fd, FunD K "_law_shuffled" "_law_shuffled" (defArgs (top 34)) (defBody (top 34)) (defScope (top 34)) [] [] (He.fAd K ("_law_shuffled", none)) fd := F.d.def_ 22 (d := d__law_shuffled) rfl
theorem S__law_shuffled : FnScope N__law_shuffled ["row", "things"] (defScope (top 34)) := scope_ok (by decide +kernel)
theorem B__law_shuffled {fd : FuncData} (D : FunD K "_law_shuffled" "_law_shuffled" (defArgs (top 34)) (defBody (top 34)) (defScope (top 34)) [] [] (He.fAd K ("_law_shuffled", none)) fd) : Binds K fd ["row", "things"] [] := D.bindsN fun _ _ _ _ _ _ us hl => match us, hl with | [_, _], _ => rfl
theorem D__law_within (F : Fx w mg base K) : ∃ fd, FunD K "_law_within" "_law_within" (defArgs (top 35)) (defBody (top 35)) (defScope (top 35)) [] [] (He.fAd K ("_law_within", none)) fd := F.d.def_ 23 (d := d__law_within) rfl
theorem S__law_within : FnScope N__law_within ["some", "others"] (defScope (top 35)) := scope_ok (by decide +kernel)
theorem B__law_within {fd : FuncData} (D : FunD K "_law_within" "_law_within" (defArgs (top 35)) (defBody (top 35)) (defScope (top 35)) [] [] (He.fAd K ("_law_within", none)) fd) : Binds K fd ["some", "others"] [] := D.bindsN fun _ _ _ _ _ _ us hl => match us, hl with | [_, _], _ => rfl
theorem D__law_ring (F : Fx w mg base K) : ∃ fd, FunD K "_law_ring" "_law_ring" (defArgs (top 36)) (defBody (top 36)) (defScope (top 36)) [] [] (He.fAd K ("_law_ring", none)) fd := F.d.def_ 24 (d := d__law_ring) rfl
theorem S__law_ring : FnScope N__law_ring ["points", "bases"] (defScope (top 36)) := scope_ok (by decide +kernel)
theorem B__law_ring {fd : FuncData} (D : FunD K "_law_ring" "_law_ring" (defArgs (top 36)) (defBody (top 36)) (defScope (top 36)) [] [] (He.fAd K ("_law_ring", none)) fd) : Binds K fd ["points", "bases"] [] := D.bindsN fun _ _ _ _ _ _ us hl => match us, hl with | [_, _], _ => rfl
theorem D__law_base (F : Fx w mg base K) : ∃ fd, FunD K "_law_base" "_law_base" (defArgs (top 37)) (defBody (top 37)) (defScope (top 37)) [] [] (He.fAd K ("_law_base", none)) fd := F.d.def_ 25 (d := d__law_base) rfl
theorem S__law_base : FnScope N__law_base ["row", "most"] (defScope (top 37)) := scope_ok (by decide +kernel)
theorem B__law_base {fd : FuncData} (D : FunD K "_law_base" "_law_base" (defArgs (top 37)) (defBody (top 37)) (defScope (top 37)) [] [] (He.fAd K ("_law_base", none)) fd) : Binds K fd ["row", "most"] [] := D.bindsN fun _ _ _ _ _ _ us hl => match us, hl with | [_, _], _ => rfl
theorem D__law_open_three (F : Fx w mg base K) : ∃ fd, FunD K "_law_open_three" "_law_open_three" (defArgs (top 38)) (defBody (top 38)) (defScope (top 38)) [] [] (He.fAd K ("_law_open_three", none)) fd := F.d.def_ 26 (d := d__law_open_three) rfl
theorem S__law_open_three : FnScope N__law_open_three [] (defScope (top 38)) := scope_ok (by decide +kernel)
theorem B__law_open_three {fd : FuncData} (D : FunD K "_law_open_three" "_law_open_three" (defArgs (top 38)) (defBody (top 38)) (defScope (top 38)) [] [] (He.fAd K ("_law_open_three", none)) fd) : Binds K fd [] [] := D.bindsN fun _ _ _ _ _ _ us hl => match us, hl with | [], _ => rfl
theorem D__law_less_points (F : Fx w mg base K) : ∃ fd, FunD K "_law_less_points" "_law_less_points" (defArgs (top 39)) (defBody (top 39)) (defScope (top 39)) [] [] (He.fAd K ("_law_less_points", none)) fd := F.d.def_ 27 (d := d__law_less_points) rfl
theorem S__law_less_points : FnScope N__law_less_points ["points", "lines", "some"] (defScope (top 39)) := scope_ok (by decide +kernel)
theorem B__law_less_points {fd : FuncData} (D : FunD K "_law_less_points" "_law_less_points" (defArgs (top 39)) (defBody (top 39)) (defScope (top 39)) [] [] (He.fAd K ("_law_less_points", none)) fd) : Binds K fd ["points", "lines", "some"] [] := D.bindsN fun _ _ _ _ _ _ us hl => match us, hl with | [_, _, _], _ => rfl
theorem D__law_named (F : Fx w mg base K) : ∃ fd, FunD K "_law_named" "_law_named" (defArgs (top 40)) (defBody (top 40)) (defScope (top 40)) [] [] (He.fAd K ("_law_named", none)) fd := F.d.def_ 28 (d := d__law_named) rfl
theorem S__law_named : FnScope N__law_named ["order", "lines"] (defScope (top 40)) := scope_ok (by decide +kernel)
theorem B__law_named {fd : FuncData} (D : FunD K "_law_named" "_law_named" (defArgs (top 40)) (defBody (top 40)) (defScope (top 40)) [] [] (He.fAd K ("_law_named", none)) fd) : Binds K fd ["order", "lines"] [] := D.bindsN fun _ _ _ _ _ _ us hl => match us, hl with | [_, _], _ => rfl
theorem D__law_space (F : Fx w mg base K) : ∃ fd, FunD K "_law_space" "_law_space" (defArgs (top 41)) (defBody (top 41)) (defScope (top 41)) [] [] (He.fAd K ("_law_space", none)) fd := F.d.def_ 29 (d := d__law_space) rfl
theorem S__law_space : FnScope N__law_space ["row", "most"] (defScope (top 41)) := scope_ok (by decide +kernel)
theorem B__law_space {fd : FuncData} (D : FunD K "_law_space" "_law_space" (defArgs (top 41)) (defBody (top 41)) (defScope (top 41)) [] [] (He.fAd K ("_law_space", none)) fd) : Binds K fd ["row", "most"] [] := D.bindsN fun _ _ _ _ _ _ us hl => match us, hl with | [_, _], _ => rfl
theorem D__law_through (F : Fx w mg base K) : ∃ fd, FunD K "_law_through" "_law_through" (defArgs (top 42)) (defBody (top 42)) (defScope (top 42)) [] [] (He.fAd K ("_law_through", none)) fd := F.d.def_ 30 (d := d__law_through) rfl
theorem S__law_through : FnScope N__law_through ["lines", "a", "b"] (defScope (top 42)) := scope_ok (by decide +kernel)
theorem B__law_through {fd : FuncData} (D : FunD K "_law_through" "_law_through" (defArgs (top 42)) (defBody (top 42)) (defScope (top 42)) [] [] (He.fAd K ("_law_through", none)) fd) : Binds K fd ["lines", "a", "b"] [] := D.bindsN fun _ _ _ _ _ _ us hl => match us, hl with | [_, _, _], _ => rfl
theorem D__law_bad_space (F : Fx w mg base K) : ∃ fd, FunD K "_law_bad_space" "_law_bad_space" (defArgs (top 43)) (defBody (top 43)) (defScope (top 43)) [] [] (He.fAd K ("_law_bad_space", none)) fd := F.d.def_ 31 (d := d__law_bad_space) rfl
theorem S__law_bad_space : FnScope N__law_bad_space ["row"] (defScope (top 43)) := scope_ok (by decide +kernel)
theorem B__law_bad_space {fd : FuncData} (D : FunD K "_law_bad_space" "_law_bad_space" (defArgs (top 43)) (defBody (top 43)) (defScope (top 43)) [] [] (He.fAd K ("_law_bad_space", none)) fd) : Binds K fd ["row"] [] := D.bindsN fun _ _ _ _ _ _ us hl => match us, hl with | [_], _ => rfl
theorem D__law_some (F : Fx w mg base K) : ∃ fd, FunD K "_law_some" "_law_some" (defArgs (top 44)) (defBody (top 44)) (defScope (top 44)) [] [] (He.fAd K ("_law_some", none)) fd := F.d.def_ 32 (d := d__law_some) rfl
theorem S__law_some : FnScope N__law_some ["row", "points", "share"] (defScope (top 44)) := scope_ok (by decide +kernel)
theorem B__law_some {fd : FuncData} (D : FunD K "_law_some" "_law_some" (defArgs (top 44)) (defBody (top 44)) (defScope (top 44)) [] [] (He.fAd K ("_law_some", none)) fd) : Binds K fd ["row", "points", "share"] [] := D.bindsN fun _ _ _ _ _ _ us hl => match us, hl with | [_, _, _], _ => rfl
theorem D__law_apart (F : Fx w mg base K) : ∃ fd, FunD K "_law_apart" "_law_apart" (defArgs (top 45)) (defBody (top 45)) (defScope (top 45)) [] [] (He.fAd K ("_law_apart", none)) fd := F.d.def_ 33 (d := d__law_apart) rfl
theorem S__law_apart : FnScope N__law_apart ["lines"] (defScope (top 45)) := scope_ok (by decide +kernel)
theorem B__law_apart {fd : FuncData} (D : FunD K "_law_apart" "_law_apart" (defArgs (top 45)) (defBody (top 45)) (defScope (top 45)) [] [] (He.fAd K ("_law_apart", none)) fd) : Binds K fd ["lines"] [] := D.bindsN fun _ _ _ _ _ _ us hl => match us, hl with | [_], _ => rfl
theorem D__law_wrong_lines (F : Fx w mg base K) : ∃ fd, FunD K "_law_wrong_lines" "_law_wrong_lines" (defArgs (top 46)) (defBody (top 46)) (defScope (top 46)) [] [] (He.fAd K ("_law_wrong_lines", none)) fd := F.d.def_ 34 (d := d__law_wrong_lines) rfl
theorem S__law_wrong_lines : FnScope N__law_wrong_lines ["row", "points", "lines"] (defScope (top 46)) := scope_ok (by decide +kernel)
theorem B__law_wrong_lines {fd : FuncData} (D : FunD K "_law_wrong_lines" "_law_wrong_lines" (defArgs (top 46)) (defBody (top 46)) (defScope (top 46)) [] [] (He.fAd K ("_law_wrong_lines", none)) fd) : Binds K fd ["row", "points", "lines"] [] := D.bindsN fun _ _ _ _ _ _ us hl => match us, hl with | [_, _, _], _ => rfl
theorem D__law_refusals_k00 (F : Fx w mg base K) : ∃ fd, FunD K "_law_refusals" "_law_refusals" (defArgs (top 47)) (defBody (top 47)) (defScope (top 47)) [] [] (He.fAd K ("_law_refusals", none)) fd := F.d.def_ 35 (d := d__law_refusals) rfl
theorem S__law_refusals_k00 : FnScope N__law_refusals_k00 ["row", "space", "points"] (defScope (top 47)) := scope_ok (by decide +kernel)
theorem B__law_refusals_k00 {fd : FuncData} (D : FunD K "_law_refusals" "_law_refusals" (defArgs (top 47)) (defBody (top 47)) (defScope (top 47)) [] [] (He.fAd K ("_law_refusals", none)) fd) : Binds K fd ["row", "space", "points"] [] := D.bindsN fun _ _ _ _ _ _ us hl => match us, hl with | [_, _, _], _ => rfl
theorem D__law_refused_k00 (F : Fx w mg base K) : ∃ fd, FunD K "_law_refused" "_law_refused" (defArgs (top 48)) (defBody (top 48)) (defScope (top 48)) [] [] (He.fAd K ("_law_refused", none)) fd := F.d.def_ 36 (d := d__law_refused) rfl
theorem S__law_refused_k00 : FnScope ["ask", "e"] ["ask"] (defScope (top 48)) := scope_ok (by decide +kernel)
theorem B__law_refused_k00 {fd : FuncData} (D : FunD K "_law_refused" "_law_refused" (defArgs (top 48)) (defBody (top 48)) (defScope (top 48)) [] [] (He.fAd K ("_law_refused", none)) fd) : Binds K fd ["ask"] [] := D.bindsN fun _ _ _ _ _ _ us hl => match us, hl with | [_], _ => rfl
theorem D_law_k00 (F : Fx w mg base K) : ∃ fd, FunD K "law" "law" (defArgs (top 49)) (defBody (top 49)) (defScope (top 49)) [] [] (He.fAd K ("law", none)) fd := F.d.def_ 37 (d := d_law) rfl
theorem S_law_k00 : FnScope N_law_k00 ["script"] (defScope (top 49)) := scope_ok (by decide +kernel)
theorem B_law_k00 {fd : FuncData} (D : FunD K "law" "law" (defArgs (top 49)) (defBody (top 49)) (defScope (top 49)) [] [] (He.fAd K ("law", none)) fd) : Binds K fd ["script"] [] := D.bindsN fun _ _ _ _ _ _ us hl => match us, hl with | [_], _ => rfl
theorem E_BadPoints (F : Fx w mg base K) : ErrC (GG w mg base K) 1 6 "BadPoints" := by
  obtain ⟨fd, D⟩ := D_SpaceError___init__ F
  exact F.err 6 (by decide) D S_SpaceError___init__ (by decide +kernel) (B_SpaceError___init__ D) rfl (F.glo 37)
theorem E_BadLines (F : Fx w mg base K) : ErrC (GG w mg base K) 1 7 "BadLines" := by
  obtain ⟨fd, D⟩ := D_SpaceError___init__ F
  exact F.err 7 (by decide) D S_SpaceError___init__ (by decide +kernel) (B_SpaceError___init__ D) rfl (F.glo 38)
theorem E_BadSpace (F : Fx w mg base K) : ErrC (GG w mg base K) 1 8 "BadSpace" := by
  obtain ⟨fd, D⟩ := D_SpaceError___init__ F
  exact F.err 8 (by decide) D S_SpaceError___init__ (by decide +kernel) (B_SpaceError___init__ D) rfl (F.glo 39)
theorem E_BadPoint (F : Fx w mg base K) : ErrC (GG w mg base K) 1 13 "BadPoint" := by
  obtain ⟨fd, D⟩ := D_SpaceError___init__ F
  exact F.err 13 (by decide) D S_SpaceError___init__ (by decide +kernel) (B_SpaceError___init__ D) rfl (F.glo 40)
theorem E_BadSet (F : Fx w mg base K) : ErrC (GG w mg base K) 1 14 "BadSet" := by
  obtain ⟨fd, D⟩ := D_SpaceError___init__ F
  exact F.err 14 (by decide) D S_SpaceError___init__ (by decide +kernel) (B_SpaceError___init__ D) rfl (F.glo 41)
theorem E_NoLine (F : Fx w mg base K) : ErrC (GG w mg base K) 1 24 "NoLine" := by
  obtain ⟨fd, D⟩ := D_SpaceError___init__ F
  exact F.err 24 (by decide) D S_SpaceError___init__ (by decide +kernel) (B_SpaceError___init__ D) rfl (F.glo 42)
theorem E_NoPlane (F : Fx w mg base K) : ErrC (GG w mg base K) 1 25 "NoPlane" := by
  obtain ⟨fd, D⟩ := D_SpaceError___init__ F
  exact F.err 25 (by decide) D S_SpaceError___init__ (by decide +kernel) (B_SpaceError___init__ D) rfl (F.glo 43)
theorem tel (F : Fx w mg base K) : TelE (GG w mg base K) "_law_refused" cs__law_refused_k00 := by
  obtain ⟨fd, D⟩ := D__law_refused_k00 F
  refine F.tel (i := 1) (cn := [("BadPoints", "points"), ("BadLines", "lines"), ("NoLine", "none"), ("BadSpace", "space"), ("BadPoint", "point"), ("BadSet", "set"), ("NoPlane", "plane")]) D S__law_refused_k00 (B__law_refused_k00 D) (F.glo 34) rfl (by decide +kernel) (by decide +kernel) (by decide +kernel) rfl (by decide +kernel) (by decide +kernel) (by decide +kernel) (by decide +kernel) (by decide +kernel) (by decide +kernel) fun c hc => ?_
  simp only [cs__law_refused_k00, List.mem_cons, List.not_mem_nil, or_false] at hc
  rcases hc with rfl | rfl | rfl | rfl | rfl | rfl | rfl
  · exact F.glo 37
  · exact F.glo 38
  · exact F.glo 42
  · exact F.glo 39
  · exact F.glo 40
  · exact F.glo 41
  · exact F.glo 43
theorem ok__law_taken (F : Fx w mg base K) : FnE (GG w mg base K) false 1 ⟨"_law_taken", 2, F__law_taken (GG w mg base K)⟩ := by
  obtain ⟨fd, D⟩ := D__law_taken F
  exact fnE_of (k := 0) D (F.glo 16) S__law_taken (B__law_taken D) (fun cd hc => hxtk (fre F) F.cls F.isi) m_tk rfl
theorem ok__law_pick (F : Fx w mg base K) : FnE (GG w mg base K) false 2 ⟨"_law_pick", 2, F__law_pick (GG w mg base K)⟩ := by
  obtain ⟨fd, D⟩ := D__law_pick F
  exact fnE_of (k := 1) D (F.glo 17) S__law_pick (B__law_pick D) (fun cd hc => {
      fre := fre F
      cls := F.cls
      isi := F.isi
      fn := fn_cons ((ok__law_taken F)) (by decide) (fn_nil)
      mks := mk_nil
      me := me_nil
      cl := cl_nil
      er := er_nil
      gl := gl_nil
      rp := fun h => (by cases h)
      xt := fun j sc X Ex x hX h => (by cases h)
      xs := fun j sc X Ex x hX h => (by cases h) }) m__law_pick rfl
theorem ok__law_bad_space (F : Fx w mg base K) : FnE (GG w mg base K) false 3 ⟨"_law_bad_space", 1, F__law_bad_space (GG w mg base K)⟩ := by
  obtain ⟨fd, D⟩ := D__law_bad_space F
  exact fnE_of (k := 2) D (F.glo 29) S__law_bad_space (B__law_bad_space D) (fun cd hc => {
      fre := fre F
      cls := F.cls
      isi := F.isi
      fn := fn_cons ((ok__law_pick F)) (by decide) (fn_nil)
      mks := mk_nil
      me := me_nil
      cl := cl_nil
      er := er_nil
      gl := gl_nil
      rp := fun h => (by cases h)
      xt := fun j sc X Ex x hX h => (by cases h)
      xs := fun j sc X Ex x hX h => (by cases h) }) m__law_bad_space rfl
theorem ok_is_integer (F : Fx w mg base K) : FnE (GG w mg base K) false 1 ⟨"is_integer", 1, F_is_integer (GG w mg base K)⟩ := by
  obtain ⟨fd, D⟩ := D_is_integer F
  exact fnE_of (k := 0) D (F.glo 1) S_is_integer (B_is_integer D) (fun cd hc => {
      fre := fre F
      cls := F.cls
      isi := F.isi
      fn := fn_nil
      mks := mk_nil
      me := me_nil
      cl := cl_nil
      er := er_nil
      gl := gl_nil
      rp := fun h => (by cases h)
      xt := fun j sc X Ex x hX h => (by cases h)
      xs := fun j sc X Ex x hX h => (by cases h) }) m_is_integer rfl
theorem ok_is_within (F : Fx w mg base K) : FnE (GG w mg base K) false 2 ⟨"is_within", 3, F_is_within (GG w mg base K)⟩ := by
  obtain ⟨fd, D⟩ := D_is_within F
  exact fnE_of (k := 1) D (F.glo 2) S_is_within (B_is_within D) (fun cd hc => {
      fre := fre F
      cls := F.cls
      isi := F.isi
      fn := fn_cons ((ok_is_integer F)) (by decide) (fn_nil)
      mks := mk_nil
      me := me_nil
      cl := cl_nil
      er := er_nil
      gl := gl_nil
      rp := fun h => (by cases h)
      xt := fun j sc X Ex x hX h => (by cases h)
      xs := fun j sc X Ex x hX h => (by cases h) }) m_is_within rfl
theorem ok_is_set (F : Fx w mg base K) : FnE (GG w mg base K) false 3 ⟨"is_set", 2, F_is_set (GG w mg base K)⟩ := by
  obtain ⟨fd, D⟩ := D_is_set F
  exact fnE_of (k := 2) D (F.glo 4) S_is_set (B_is_set D) (fun cd hc => {
      fre := fre F
      cls := F.cls
      isi := F.isi
      fn := fn_cons ((ok_is_within F)) (by decide) (fn_nil)
      mks := mk_nil
      me := me_nil
      cl := cl_nil
      er := er_nil
      gl := gl_nil
      rp := fun h => (by cases h)
      xt := fun j sc X Ex x hX h => (by cases h)
      xs := fun j sc X Ex x hX h => (by cases h) }) m_is_set rfl
theorem ok_check_set (F : Fx w mg base K) : FnE (GG w mg base K) false 4 ⟨"check_set", 2, F_check_set (GG w mg base K)⟩ := by
  obtain ⟨fd, D⟩ := D_check_set F
  exact fnE_of (k := 3) D (F.glo 7) S_check_set (B_check_set D) (fun cd hc => {
      fre := fre F
      cls := F.cls
      isi := F.isi
      fn := fn_cons ((ok_is_set F)) (by decide) (fn_nil)
      mks := mk_nil
      me := me_nil
      cl := cl_nil
      er := er_cons (E_BadSet F) (by decide) (er_nil)
      gl := gl_nil
      rp := fun h => (by cases h)
      xt := fun j sc X Ex x hX h => (by cases h)
      xs := fun j sc X Ex x hX h => (by cases h) }) m_check_set rfl
theorem ok_check_space (F : Fx w mg base K) : FnE (GG w mg base K) false 3 ⟨"check_space", 1, F_check_space (GG w mg base K)⟩ := by
  obtain ⟨fd, D⟩ := D_check_space F
  exact fnE_of (k := 2) D (F.glo 5) S_check_space (B_check_space D) (fun cd hc => {
      fre := fre F
      cls := F.cls
      isi := F.isi
      fn := fn_nil
      mks := mk_nil
      me := me_nil
      cl := cl_cons (F.glo 44) (cl_nil)
      er := er_cons (E_BadSpace F) (by decide) (er_nil)
      gl := gl_nil
      rp := fun h => (by cases h)
      xt := fun j sc X Ex x hX h => (by cases h)
      xs := fun j sc X Ex x hX h => (by cases h) }) m_check_space rfl
theorem ok_is_row (F : Fx w mg base K) : FnE (GG w mg base K) false 1 ⟨"is_row", 1, F_is_row (GG w mg base K)⟩ := by
  obtain ⟨fd, D⟩ := D_is_row F
  exact fnE_of (k := 0) D (F.glo 3) S_is_row (B_is_row D) (fun cd hc => {
      fre := fre F
      cls := F.cls
      isi := F.isi
      fn := fn_nil
      mks := mk_nil
      me := me_nil
      cl := cl_nil
      er := er_nil
      gl := gl_nil
      rp := fun h => (by cases h)
      xt := fun j sc X Ex x hX h => (by cases h)
      xs := fun j sc X Ex x hX h => (by cases h) }) m_is_row rfl
theorem ok_Space___init__ (F : Fx w mg base K) : MkE (GG w mg base K) 4 0 ⟨"Space", 2, F_Space___init__ (GG w mg base K)⟩ := by
  obtain ⟨fd, D⟩ := D_Space___init__ F
  exact mkE_of (k := 3) (t := 0) D (F.glo 44) (He.mkr_ok (F.d.fact 65 (f := .mkr "Space") rfl)) S_Space___init__ (B_Space___init__ D) (fun cd => {
      fre := fre F
      cls := F.cls
      isi := F.isi
      fn := fn_cons ((ok_is_set F)) (by decide) (fn_cons ((ok_is_row F)) (by decide) (fn_cons ((ok_is_within F)) (by decide) (fn_nil)))
      mks := mk_nil
      me := me_nil
      cl := cl_nil
      er := er_cons (E_NoLine F) (by decide) (er_cons (E_BadLines F) (by decide) (er_cons (E_BadPoints F) (by decide) (er_nil)))
      gl := gl_int (F.int 63) (gl_nil)
      rp := fun h => (by cases h)
      xt := fun j sc X Ex x hX h => (by cases h)
      xs := fun j sc X Ex x hX h => (by cases h) }) m_Space___init__ (by rfl) rfl
theorem ok_without (F : Fx w mg base K) : FnE (GG w mg base K) false 6 ⟨"without", 2, F_without (GG w mg base K)⟩ := by
  obtain ⟨fd, D⟩ := D_without F
  exact fnE_of (k := 5) D (F.glo 15) S_without (B_without D) (fun cd hc => {
      fre := fre F
      cls := F.cls
      isi := F.isi
      fn := fn_cons ((ok_check_set F)) (by decide) (fn_cons ((ok_check_space F)) (by decide) (fn_nil))
      mks := mk_cons (ok_Space___init__ F) (by decide) (mk_nil)
      me := me_nil
      cl := cl_nil
      er := er_nil
      gl := gl_nil
      rp := fun h => (by cases h)
      xt := fun j sc X Ex x hX h => (by cases h)
      xs := fun j sc X Ex x hX h => (by cases h) }) m_without rfl
theorem ok_Space_line (F : Fx w mg base K) : MeE (GG w mg base K) 1 0 ⟨"line", 3, F_Space_line (GG w mg base K)⟩ := by
  obtain ⟨fd, D⟩ := D_Space_line F
  exact meE_of (k := 0) (t := 0) D (F.isi.cls 0 (by rfl)).1 (He.meth_ok (F.d.fact 64 (f := .meth "Space" "line") rfl)) (by rfl) S_Space_line (B_Space_line D) (fun cd => {
      fre := fre F
      cls := F.cls
      isi := F.isi
      fn := fn_nil
      mks := mk_nil
      me := me_nil
      cl := cl_nil
      er := er_nil
      gl := gl_nil
      rp := fun h => (by cases h)
      xt := fun j sc X Ex x hX h => (by cases h)
      xs := fun j sc X Ex x hX h => (by cases h) }) m_Space_line rfl
theorem ok_are_on_line (F : Fx w mg base K) : FnE (GG w mg base K) false 5 ⟨"are_on_line", 2, F_are_on_line (GG w mg base K)⟩ := by
  obtain ⟨fd, D⟩ := D_are_on_line F
  exact fnE_of (k := 4) D (F.glo 10) S_are_on_line (B_are_on_line D) (fun cd hc => {
      fre := fre F
      cls := F.cls
      isi := F.isi
      fn := fn_cons ((ok_check_set F)) (by decide) (fn_cons ((ok_check_space F)) (by decide) (fn_nil))
      mks := mk_nil
      me := me_cons (ok_Space_line F) (by decide) (me_nil)
      cl := cl_nil
      er := er_nil
      gl := gl_nil
      rp := fun h => (by cases h)
      xt := fun j sc X Ex x hX h => (by cases h)
      xs := fun j sc X Ex x hX h => (by cases h) }) m_are_on_line rfl
theorem ok_check_point (F : Fx w mg base K) : FnE (GG w mg base K) false 3 ⟨"check_point", 2, F_check_point (GG w mg base K)⟩ := by
  obtain ⟨fd, D⟩ := D_check_point F
  exact fnE_of (k := 2) D (F.glo 6) S_check_point (B_check_point D) (fun cd hc => {
      fre := fre F
      cls := F.cls
      isi := F.isi
      fn := fn_cons ((ok_is_within F)) (by decide) (fn_nil)
      mks := mk_nil
      me := me_nil
      cl := cl_nil
      er := er_cons (E_BadPoint F) (by decide) (er_nil)
      gl := gl_nil
      rp := fun h => (by cases h)
      xt := fun j sc X Ex x hX h => (by cases h)
      xs := fun j sc X Ex x hX h => (by cases h) }) m_check_point rfl
theorem ok_lines_on (F : Fx w mg base K) : FnE (GG w mg base K) false 4 ⟨"lines_on", 2, F_lines_on (GG w mg base K)⟩ := by
  obtain ⟨fd, D⟩ := D_lines_on F
  exact fnE_of (k := 3) D (F.glo 9) S_lines_on (B_lines_on D) (fun cd hc => {
      fre := fre F
      cls := F.cls
      isi := F.isi
      fn := fn_cons ((ok_check_point F)) (by decide) (fn_cons ((ok_check_space F)) (by decide) (fn_nil))
      mks := mk_nil
      me := me_nil
      cl := cl_nil
      er := er_nil
      gl := gl_nil
      rp := fun h => (by cases h)
      xt := fun j sc X Ex x hX h => (by cases h)
      xs := fun j sc X Ex x hX h => (by cases h) }) m_lines_on rfl
theorem ok_line_through (F : Fx w mg base K) : FnE (GG w mg base K) false 4 ⟨"line_through", 3, F_line_through (GG w mg base K)⟩ := by
  obtain ⟨fd, D⟩ := D_line_through F
  exact fnE_of (k := 3) D (F.glo 8) S_line_through (B_line_through D) (fun cd hc => {
      fre := fre F
      cls := F.cls
      isi := F.isi
      fn := fn_cons ((ok_check_point F)) (by decide) (fn_cons ((ok_check_space F)) (by decide) (fn_nil))
      mks := mk_nil
      me := me_cons (ok_Space_line F) (by decide) (me_nil)
      cl := cl_nil
      er := er_nil
      gl := gl_nil
      rp := fun h => (by cases h)
      xt := fun j sc X Ex x hX h => (by cases h)
      xs := fun j sc X Ex x hX h => (by cases h) }) m_line_through rfl
theorem ok_apart_lines (F : Fx w mg base K) : FnE (GG w mg base K) false 4 ⟨"apart_lines", 1, F_apart_lines (GG w mg base K)⟩ := by
  obtain ⟨fd, D⟩ := D_apart_lines F
  exact fnE_of (k := 3) D (F.glo 11) S_apart_lines (B_apart_lines D) (fun cd hc => {
      fre := fre F
      cls := F.cls
      isi := F.isi
      fn := fn_cons ((ok_check_space F)) (by decide) (fn_nil)
      mks := mk_nil
      me := me_nil
      cl := cl_nil
      er := er_nil
      gl := gl_nil
      rp := fun h => (by cases h)
      xt := fun j sc X Ex x hX h => (by cases h)
      xs := fun j sc X Ex x hX h => (by cases h) }) m_apart_lines rfl
theorem ok_is_plane (F : Fx w mg base K) : FnE (GG w mg base K) false 5 ⟨"is_plane", 1, F_is_plane (GG w mg base K)⟩ := by
  obtain ⟨fd, D⟩ := D_is_plane F
  exact fnE_of (k := 4) D (F.glo 12) S_is_plane (B_is_plane D) (fun cd hc => {
      fre := fre F
      cls := F.cls
      isi := F.isi
      fn := fn_cons ((ok_apart_lines F)) (by decide) (fn_cons ((ok_check_space F)) (by decide) (fn_nil))
      mks := mk_nil
      me := me_nil
      cl := cl_nil
      er := er_nil
      gl := gl_nil
      rp := fun h => (by cases h)
      xt := fun j sc X Ex x hX h => (by cases h)
      xs := fun j sc X Ex x hX h => (by cases h) }) m_is_plane rfl
theorem ok_size_of (F : Fx w mg base K) : FnE (GG w mg base K) false 6 ⟨"size_of", 1, F_size_of (GG w mg base K)⟩ := by
  obtain ⟨fd, D⟩ := D_size_of F
  exact fnE_of (k := 5) D (F.glo 13) S_size_of (B_size_of D) (fun cd hc => {
      fre := fre F
      cls := F.cls
      isi := F.isi
      fn := fn_cons ((ok_is_plane F)) (by decide) (fn_nil)
      mks := mk_nil
      me := me_nil
      cl := cl_nil
      er := er_cons (E_NoPlane F) (by decide) (er_nil)
      gl := gl_nil
      rp := fun h => (by cases h)
      xt := fun j sc X Ex x hX h => (by cases h)
      xs := fun j sc X Ex x hX h => (by cases h) }) m_size_of rfl
theorem ok_dual (F : Fx w mg base K) : FnE (GG w mg base K) false 7 ⟨"dual", 1, F_dual (GG w mg base K)⟩ := by
  obtain ⟨fd, D⟩ := D_dual F
  exact fnE_of (k := 6) D (F.glo 14) S_dual (B_dual D) (fun cd hc => {
      fre := fre F
      cls := F.cls
      isi := F.isi
      fn := fn_cons ((ok_size_of F)) (by decide) (fn_nil)
      mks := mk_cons (ok_Space___init__ F) (by decide) (mk_nil)
      me := me_nil
      cl := cl_nil
      er := er_nil
      gl := gl_nil
      rp := fun h => (by cases h)
      xt := fun j sc X Ex x hX h => (by cases h)
      xs := fun j sc X Ex x hX h => (by cases h) }) m_dual rfl
theorem hx0__law_refusals_k00 (F : Fx w mg base K) (cd : Value) (ql : Str) : HX (GG w mg base K) 7 ⟨cd, ql, false⟩ N__law_refusals_k00 sg__law_refusals_k000 (Γ__law_refusals_k000 (GG w mg base K)) where
  fre := fre F
  cls := F.cls
  isi := F.isi
  fn := fn_cons ((ok_without F)) (by decide) (fn_cons ((ok_are_on_line F)) (by decide) (fn_cons ((ok_lines_on F)) (by decide) (fn_cons ((ok_line_through F)) (by decide) (fn_cons ((ok_apart_lines F)) (by decide) (fn_cons ((ok_is_plane F)) (by decide) (fn_cons ((ok_size_of F)) (by decide) (fn_cons ((ok_dual F)) (by decide) (fn_nil))))))))
  mks := mk_nil
  me := me_nil
  cl := cl_nil
  er := er_nil
  gl := gl_nil
  rp := fun h => (by cases h)
  xt := fun j sc X Ex x hX h => (by cases h)
  xs := fun j sc X Ex x hX h => (by cases h)
theorem ok__law_refusals_k00 (F : Fx w mg base K) : FnE (GG w mg base K) true 10 ⟨"_law_refusals", 3, F__law_refusals_k00 (GG w mg base K)⟩ := by
  obtain ⟨fd, D⟩ := D__law_refusals_k00 F
  exact fnE_of (k := 9) D (F.glo 33) S__law_refusals_k00 (B__law_refusals_k00 D) (fun cd hc => {
      fre := fre F
      cls := F.cls
      isi := F.isi
      fn := fn_cons ((ok__law_pick F).any) (by decide) (fn_cons ((ok__law_bad_space F).any) (by decide) (fn_nil))
      mks := mk_nil
      me := me_nil
      cl := cl_nil
      er := er_nil
      gl := gl_fn (F.glo 14) (gl_fn (F.glo 13) (gl_fn (F.glo 12) (gl_fn (F.glo 11) (gl_nil))))
      rp := fun _ => rfl
      xt := fun j sc X Ex x hX h => match j, h with
        | 0, h => lam_xt (k := 7) (tel F) (F.lam (by decide) D hc) (fun cd ql => hx0__law_refusals_k00 F cd ql) hX h
        | 1, h => lam_xt (k := 7) (tel F) (F.lam (by decide) D hc) (fun cd ql => hx0__law_refusals_k00 F cd ql) hX h
        | 2, h => lam_xt (k := 7) (tel F) (F.lam (by decide) D hc) (fun cd ql => hx0__law_refusals_k00 F cd ql) hX h
        | 3, h => lam_xt (k := 7) (tel F) (F.lam (by decide) D hc) (fun cd ql => hx0__law_refusals_k00 F cd ql) hX h
        | 4, h => lam_xt (k := 7) (tel F) (F.lam (by decide) D hc) (fun cd ql => hx0__law_refusals_k00 F cd ql) hX h
        | 5, h => lam_xt (k := 7) (tel F) (F.lam (by decide) D hc) (fun cd ql => hx0__law_refusals_k00 F cd ql) hX h
        | (n + 6), h => (by cases h)
      xs := fun j sc X Ex x hX h => (by cases h) }) m__law_refusals_k00 rfl
theorem hx0__law_wrong_lines (F : Fx w mg base K) (cd : Value) (ql : Str) : HX (GG w mg base K) 5 ⟨cd, ql, false⟩ N__law_wrong_lines sg__law_wrong_lines0 (Γ__law_wrong_lines0 (GG w mg base K)) where
  fre := fre F
  cls := F.cls
  isi := F.isi
  fn := fn_nil
  mks := mk_cons (ok_Space___init__ F) (by decide) (mk_nil)
  me := me_nil
  cl := cl_nil
  er := er_nil
  gl := gl_nil
  rp := fun h => (by cases h)
  xt := fun j sc X Ex x hX h => (by cases h)
  xs := fun j sc X Ex x hX h => (by cases h)
theorem ok__law_wrong_lines (F : Fx w mg base K) : FnE (GG w mg base K) true 8 ⟨"_law_wrong_lines", 3, F__law_wrong_lines (GG w mg base K)⟩ := by
  obtain ⟨fd, D⟩ := D__law_wrong_lines F
  exact fnE_of (k := 7) D (F.glo 32) S__law_wrong_lines (B__law_wrong_lines D) (fun cd hc => {
      fre := fre F
      cls := F.cls
      isi := F.isi
      fn := fn_cons ((ok__law_taken F).any) (by decide) (fn_cons ((ok__law_pick F).any) (by decide) (fn_nil))
      mks := mk_nil
      me := me_nil
      cl := cl_nil
      er := er_nil
      gl := gl_nil
      rp := fun _ => rfl
      xt := fun j sc X Ex x hX h => match j, h with
        | 0, h => lam_xt (k := 5) (tel F) (F.lam (by decide) D hc) (fun cd ql => hx0__law_wrong_lines F cd ql) hX h
        | 1, h => lam_xt (k := 5) (tel F) (F.lam (by decide) D hc) (fun cd ql => hx0__law_wrong_lines F cd ql) hX h
        | 2, h => lam_xt (k := 5) (tel F) (F.lam (by decide) D hc) (fun cd ql => hx0__law_wrong_lines F cd ql) hX h
        | 3, h => lam_xt (k := 5) (tel F) (F.lam (by decide) D hc) (fun cd ql => hx0__law_wrong_lines F cd ql) hX h
        | (n + 4), h => (by cases h)
      xs := fun j sc X Ex x hX h => (by cases h) }) m__law_wrong_lines rfl
theorem okr__law_alike (F : Fx w mg base K) : ∀ n : Nat, FnE (GG w mg base K) false (0 + n) ⟨"_law_alike", 2, F__law_alike (GG w mg base K) n⟩ := by
  obtain ⟨fd, D⟩ := D__law_alike F
  intro n
  induction n with
  | zero => exact fnE_bad D (F.glo 18) (B__law_alike D) rfl
  | succ n ih =>
    exact fnE_of (k := 0 + n) D (F.glo 18) S__law_alike (B__law_alike D) (fun cd hc => {
      fre := fre F
      cls := F.cls
      isi := F.isi
      fn := fn_cons (ih) (by omega) (fn_nil)
      mks := mk_nil
      me := me_nil
      cl := cl_nil
      er := er_nil
      gl := gl_nil
      rp := fun h => (by cases h), xt := fun j sc X Ex x hX h => (by cases h), xs := fun j sc X Ex x hX h => (by cases h) }) m__law_alike rfl
theorem ok__law_alike (F : Fx w mg base K) : FnE (GG w mg base K) false 60 ⟨"_law_alike", 2, F__law_alike (GG w mg base K) 60⟩ := okr__law_alike F 60
theorem ok__law_less_points (F : Fx w mg base K) : FnE (GG w mg base K) false 1 ⟨"_law_less_points", 3, F__law_less_points (GG w mg base K)⟩ := by
  obtain ⟨fd, D⟩ := D__law_less_points F
  exact fnE_of (k := 0) D (F.glo 25) S__law_less_points (B__law_less_points D) (fun cd hc => {
      fre := fre F
      cls := F.cls
      isi := F.isi
      fn := fn_nil
      mks := mk_nil
      me := me_nil
      cl := cl_nil
      er := er_nil
      gl := gl_nil
      rp := fun h => (by cases h)
      xt := fun j sc X Ex x hX h => (by cases h)
      xs := fun j sc X Ex x hX h => (by cases h) }) m__law_less_points rfl
theorem ok__law_some (F : Fx w mg base K) : FnE (GG w mg base K) false 2 ⟨"_law_some", 3, F__law_some (GG w mg base K)⟩ := by
  obtain ⟨fd, D⟩ := D__law_some F
  exact fnE_of (k := 1) D (F.glo 30) S__law_some (B__law_some D) (fun cd hc => {
      fre := fre F
      cls := F.cls
      isi := F.isi
      fn := fn_cons ((ok__law_taken F)) (by decide) (fn_nil)
      mks := mk_nil
      me := me_nil
      cl := cl_nil
      er := er_nil
      gl := gl_nil
      rp := fun h => (by cases h)
      xt := fun j sc X Ex x hX h => (by cases h)
      xs := fun j sc X Ex x hX h => (by cases h) }) m__law_some rfl
theorem ok__law_apart (F : Fx w mg base K) : FnE (GG w mg base K) false 1 ⟨"_law_apart", 1, F__law_apart (GG w mg base K)⟩ := by
  obtain ⟨fd, D⟩ := D__law_apart F
  exact fnE_of (k := 0) D (F.glo 31) S__law_apart (B__law_apart D) (fun cd hc => {
      fre := fre F
      cls := F.cls
      isi := F.isi
      fn := fn_nil
      mks := mk_nil
      me := me_nil
      cl := cl_nil
      er := er_nil
      gl := gl_nil
      rp := fun h => (by cases h)
      xt := fun j sc X Ex x hX h => (by cases h)
      xs := fun j sc X Ex x hX h => (by cases h) }) m__law_apart rfl
theorem ok__law_within (F : Fx w mg base K) : FnE (GG w mg base K) false 1 ⟨"_law_within", 2, F__law_within (GG w mg base K)⟩ := by
  obtain ⟨fd, D⟩ := D__law_within F
  exact fnE_of (k := 0) D (F.glo 21) S__law_within (B__law_within D) (fun cd hc => {
      fre := fre F
      cls := F.cls
      isi := F.isi
      fn := fn_nil
      mks := mk_nil
      me := me_nil
      cl := cl_nil
      er := er_nil
      gl := gl_nil
      rp := fun h => (by cases h)
      xt := fun j sc X Ex x hX h => (by cases h)
      xs := fun j sc X Ex x hX h => (by cases h) }) m__law_within rfl
theorem ok__law_through (F : Fx w mg base K) : FnE (GG w mg base K) false 1 ⟨"_law_through", 3, F__law_through (GG w mg base K)⟩ := by
  obtain ⟨fd, D⟩ := D__law_through F
  exact fnE_of (k := 0) D (F.glo 28) S__law_through (B__law_through D) (fun cd hc => {
      fre := fre F
      cls := F.cls
      isi := F.isi
      fn := fn_nil
      mks := mk_nil
      me := me_nil
      cl := cl_nil
      er := er_nil
      gl := gl_nil
      rp := fun h => (by cases h)
      xt := fun j sc X Ex x hX h => (by cases h)
      xs := fun j sc X Ex x hX h => (by cases h) }) m__law_through rfl
theorem ok__law_shuffled (F : Fx w mg base K) : FnE (GG w mg base K) false 2 ⟨"_law_shuffled", 2, F__law_shuffled (GG w mg base K)⟩ := by
  obtain ⟨fd, D⟩ := D__law_shuffled F
  exact fnE_of (k := 1) D (F.glo 20) S__law_shuffled (B__law_shuffled D) (fun cd hc => {
      fre := fre F
      cls := F.cls
      isi := F.isi
      fn := fn_cons ((ok__law_taken F)) (by decide) (fn_nil)
      mks := mk_nil
      me := me_nil
      cl := cl_nil
      er := er_nil
      gl := gl_nil
      rp := fun h => (by cases h)
      xt := fun j sc X Ex x hX h => (by cases h)
      xs := fun j sc X Ex x hX h => (by cases h) }) m__law_shuffled rfl
theorem ok__law_named (F : Fx w mg base K) : FnE (GG w mg base K) false 1 ⟨"_law_named", 2, F__law_named (GG w mg base K)⟩ := by
  obtain ⟨fd, D⟩ := D__law_named F
  exact fnE_of (k := 0) D (F.glo 26) S__law_named (B__law_named D) (fun cd hc => {
      fre := fre F
      cls := F.cls
      isi := F.isi
      fn := fn_nil
      mks := mk_nil
      me := me_nil
      cl := cl_nil
      er := er_nil
      gl := gl_nil
      rp := fun h => (by cases h)
      xt := fun j sc X Ex x hX h => (by cases h)
      xs := fun j sc X Ex x hX h => (by cases h) }) m__law_named rfl
theorem ok__law_unlike (F : Fx w mg base K) : FnE (GG w mg base K) false 1 ⟨"_law_unlike", 1, F__law_unlike (GG w mg base K)⟩ := by
  obtain ⟨fd, D⟩ := D__law_unlike F
  exact fnE_of (k := 0) D (F.glo 19) S__law_unlike (B__law_unlike D) (fun cd hc => {
      fre := fre F
      cls := F.cls
      isi := F.isi
      fn := fn_nil
      mks := mk_nil
      me := me_nil
      cl := cl_nil
      er := er_nil
      gl := gl_nil
      rp := fun h => (by cases h)
      xt := fun j sc X Ex x hX h => (by cases h)
      xs := fun j sc X Ex x hX h => (by cases h) }) m__law_unlike rfl
theorem ok__law_open_three (F : Fx w mg base K) : FnE (GG w mg base K) false 1 ⟨"_law_open_three", 0, F__law_open_three (GG w mg base K)⟩ := by
  obtain ⟨fd, D⟩ := D__law_open_three F
  exact fnE_of (k := 0) D (F.glo 24) S__law_open_three (B__law_open_three D) (fun cd hc => {
      fre := fre F
      cls := F.cls
      isi := F.isi
      fn := fn_nil
      mks := mk_nil
      me := me_nil
      cl := cl_nil
      er := er_nil
      gl := gl_nil
      rp := fun h => (by cases h)
      xt := fun j sc X Ex x hX h => (by cases h)
      xs := fun j sc X Ex x hX h => (by cases h) }) m__law_open_three rfl
theorem ok__law_ring (F : Fx w mg base K) : FnE (GG w mg base K) false 2 ⟨"_law_ring", 2, F__law_ring (GG w mg base K)⟩ := by
  obtain ⟨fd, D⟩ := D__law_ring F
  exact fnE_of (k := 1) D (F.glo 22) S__law_ring (B__law_ring D) (fun cd hc => {
      fre := fre F
      cls := F.cls
      isi := F.isi
      fn := fn_cons ((ok__law_unlike F)) (by decide) (fn_nil)
      mks := mk_nil
      me := me_nil
      cl := cl_nil
      er := er_nil
      gl := gl_nil
      rp := fun h => (by cases h)
      xt := fun j sc X Ex x hX h => (by cases h)
      xs := fun j sc X Ex x hX h => (by cases h) }) m__law_ring rfl
theorem ok__law_base (F : Fx w mg base K) : FnE (GG w mg base K) false 3 ⟨"_law_base", 2, F__law_base (GG w mg base K)⟩ := by
  obtain ⟨fd, D⟩ := D__law_base F
  exact fnE_of (k := 2) D (F.glo 23) S__law_base (B__law_base D) (fun cd hc => {
      fre := fre F
      cls := F.cls
      isi := F.isi
      fn := fn_cons ((ok__law_taken F)) (by decide) (fn_cons ((ok__law_open_three F)) (by decide) (fn_cons ((ok__law_ring F)) (by decide) (fn_nil)))
      mks := mk_nil
      me := me_nil
      cl := cl_nil
      er := er_nil
      gl := gl_nil
      rp := fun h => (by cases h)
      xt := fun j sc X Ex x hX h => (by cases h)
      xs := fun j sc X Ex x hX h => (by cases h) }) m__law_base rfl
theorem ok__law_space (F : Fx w mg base K) : FnE (GG w mg base K) false 4 ⟨"_law_space", 2, F__law_space (GG w mg base K)⟩ := by
  obtain ⟨fd, D⟩ := D__law_space F
  exact fnE_of (k := 3) D (F.glo 27) S__law_space (B__law_space D) (fun cd hc => {
      fre := fre F
      cls := F.cls
      isi := F.isi
      fn := fn_cons ((ok__law_named F)) (by decide) (fn_cons ((ok__law_shuffled F)) (by decide) (fn_cons ((ok__law_less_points F)) (by decide) (fn_cons ((ok__law_unlike F)) (by decide) (fn_cons ((ok__law_pick F)) (by decide) (fn_cons ((ok__law_taken F)) (by decide) (fn_cons ((ok__law_base F)) (by decide) (fn_nil)))))))
      mks := mk_nil
      me := me_nil
      cl := cl_nil
      er := er_nil
      gl := gl_nil
      rp := fun h => (by cases h)
      xt := fun j sc X Ex x hX h => (by cases h)
      xs := fun j sc X Ex x hX h => (by cases h) }) m__law_space rfl
theorem hx0_law_k00 (F : Fx w mg base K) (cd : Value) (ql : Str) : HX (GG w mg base K) 58 ⟨cd, ql, false⟩ N_law_k00 sg_law_k000 (Γ_law_k000 (GG w mg base K)) where
  fre := fre F
  cls := F.cls
  isi := F.isi
  fn := fn_cons ((ok_size_of F)) (by decide) (fn_cons ((ok_dual F)) (by decide) (fn_nil))
  mks := mk_nil
  me := me_nil
  cl := cl_nil
  er := er_nil
  gl := gl_nil
  rp := fun h => (by cases h)
  xt := fun j sc X Ex x hX h => (by cases h)
  xs := fun j sc X Ex x hX h => (by cases h)
def spLaw : World → (Str → Option Value) → PySem.W.Frag → Sp := fun w mg K vs H Q E => ∀ base : Heap, spL (GG w mg base K) N_law_k00.length 1 401 (d_law_k00 (GG w mg base K)) vs H Q E
theorem ok_law (F : Fx w mg base K) {fd : FuncData} (D : FunD K "law" "law" (defArgs (top 49)) (defBody (top 49)) (defScope (top 49)) [] [] (He.fAd K ("law", none)) fd) : FnG true R.prog w K mg base 61 (He.fAd K ("law", none)) fd ["script"] (spLaw w mg K) := by
  have D2 := D
  rw [eL] at D2
  refine FnG.imp (law_body (G := GG w mg base K) (k := 60) (st := bL) (rest := rL) D2 S_law_k00 m_row (by decide) (by decide) fun cd hc X Ex hX => ((stmt_all (dc := ⟨cd, "law" ++ ".<locals>.", true⟩) ({
      fre := fre F
      cls := F.cls
      isi := F.isi
      fn := fn_cons ((ok__law_refusals_k00 F)) (by decide) (fn_cons ((ok__law_wrong_lines F)) (by decide) (fn_cons ((ok__law_alike F).any) (by decide) (fn_cons ((ok_without F).any) (by decide) (fn_cons ((ok__law_less_points F).any) (by decide) (fn_cons ((ok__law_some F).any) (by decide) (fn_cons ((ok_dual F).any) (by decide) (fn_cons ((ok_size_of F).any) (by decide) (fn_cons ((ok_is_plane F).any) (by decide) (fn_cons ((ok_apart_lines F).any) (by decide) (fn_cons ((ok__law_apart F).any) (by decide) (fn_cons ((ok_are_on_line F).any) (by decide) (fn_cons ((ok__law_within F).any) (by decide) (fn_cons ((ok__law_taken F).any) (by decide) (fn_cons ((ok__law_pick F).any) (by decide) (fn_cons ((ok_line_through F).any) (by decide) (fn_cons ((ok__law_through F).any) (by decide) (fn_cons ((ok_lines_on F).any) (by decide) (fn_cons ((ok__law_shuffled F).any) (by decide) (fn_cons ((ok__law_space F).any) (by decide) (fn_nil))))))))))))))))))))
      mks := mk_cons (ok_Space___init__ F) (by decide) (mk_nil)
      me := me_nil
      cl := cl_nil
      er := er_nil
      gl := gl_fn (F.glo 14) (gl_fn (F.glo 13) (gl_nil))
      rp := fun h => (by cases h)
      xt := fun j sc X Ex x hX h => match j, h with
        | 0, h => lam_xt (k := 58) (tel F) (F.lam (by decide) D hc) (fun cd ql => hx0_law_k00 F cd ql) hX h
        | (n + 1), h => (by cases h)
      xs := fun j sc X Ex x hX h => (by cases h) } : HX (GG w mg base K) 60 ⟨cd, "law" ++ ".<locals>.", true⟩ N_law_k00 sg_law_k00 (Γ_law_k00 (GG w mg base K))) t_law_k00) _ X Ex hX).2 _ m_law) fun vs H Q E h => h base
end
end K00
end GP
open PySem PySem.W PySem.Calls PyProof.Rows in
theorem PySem.Challenge.cw_fewpoints_k00_spaces_holds : PySem.Challenge.rw_fewpoints_k00_spaces.Holds := by
  w_on; o_law
  refine HandSHeadRun.head_any (r := OpenLaw.row PySem.Challenge.rw_fewpoints_k00_spaces) (q := view (OpenLaw.row PySem.Challenge.rw_fewpoints_k00_spaces).prog [49]) (H := GP.K00.hk) (ob := GP.K00.ob) (M := 20000) (loose := GP.K00.loose) (d := HandSHeadRun.topDef (OpenLaw.row PySem.Challenge.rw_fewpoints_k00_spaces).prog 49) (kwd := []) GP.K00.ob_eq
    (by kernel_rfl) (fun s => by kernel_rfl) GP.K00.run (by kernel_rfl) (by kernel_rfl) (by kernel_rfl) (by rfl) (by first | assumption | decide +kernel) (by decide +kernel) ⟨rfl, rfl, rfl, rfl, rfl, by decide +kernel⟩ ?hw ?hc
  case hw => w_witness2
  case hc =>
    refine GP.walk_G (l := PySem.Challenge.rw_fewpoints_k00_spaces) (n := 63) (k := 61) (x := "script") rfl (by decide) (by kernel_rfl) ⟨rfl, by decide, by decide⟩ fun w mg fa h Y G hmg0 => ?_
    obtain ⟨K, inK, c⟩ := Y
    have hmg : mg ("law" : PySem.Str) = some (.ref fa) := by
      have e : (HandSHeadRun.topDef (OpenLaw.row PySem.Challenge.rw_fewpoints_k00_spaces).prog 49).name = ("law" : PySem.Str) := by kernel_rfl
      rw [← e]
      exact hmg0
    have e := hmg.symm.trans (He.glo_ok inK G (c.t.d.fact 35 (f := .glo "law") rfl))
    have hfa : fa = He.ga K "law" := PySem.Value.ref.inj (Option.some.inj e)
    obtain ⟨fd, D⟩ := c.t.d.def_ 37 (d := GP.K00.d_law) rfl
    have B := L2.FunD.bindsA (ps := ["script"]) D fun _ _ _ _ _ _ us hl => match us, hl with | [_], _ => rfl
    refine ⟨K, inK, fd, GP.K00.tf.map (He.cT K), GP.K00.spLaw w mg K, ?_, ?_, ?_, fun s u => B s [u] rfl, ?_, ?_⟩
    · intro p hp
      obtain ⟨z, hz, rfl⟩ := List.mem_map.mp hp
      exact c.empty z hz
    · intro p hp
      obtain ⟨z, hz, rfl⟩ := List.mem_map.mp hp
      exact c.out z hz
    · intro p hp
      obtain ⟨z, hz, rfl⟩ := List.mem_map.mp hp
      exact PySem.W.codeHd_of_K inK (c.hd z hz)
    · intro H a ns hl ht ho sc base
      obtain ⟨p, ω, e1, e2⟩ := GP.law_ok (GP.law_k00_true (G := GP.K00.GG w mg base K) (ω := ⟨ns, 0, 401, 0⟩) ⟨rfl, (by show 0 ∈ GP.K00.ts; decide)⟩ ⟨Int.le_refl 0, by show (0 : Int) ≤ 401; decide, by show (401 : Int) < 2147483647; decide⟩) (ns := ns)
      subst e2
      exact ⟨a, ns, ω, rfl, sc, (fun p hp => by
        obtain ⟨z, hz, rfl⟩ := List.mem_map.mp hp
        exact GP.tabs_at (ht (He.cT K z) (List.mem_map.mpr ⟨z, hz, rfl⟩))), e1, fun _ => rfl⟩
    · intro base inB nsB tb
      have F : GP.K00.Fx w mg base K := ⟨c.t.d, c.more, inB, nsB, tb⟩
      rw [hfa]
      exact GP.K00.ok_law F D
